import PyProof.Rows.All
import Wide.All
import OpenK.AllK
import Wide.FinOn
import KE.KStateDown
import Lean
import HandS.ForMost
import HandS.Exc
import HandS.ExcOwn
import HandS.TryOnly
import HandS.WordsExc
import HandS.Defaults
import HandS.Wide
import HandS.WideBits
import HandS.IsInst
import HandS.TupAny
import HandS.TupMul
import HandS.Property
import HandS.OwnEq
import HandS.Flow
import HandS.Star
import HandS.CallSlots
import HandS.HeadEnd
import HandS.HeadHook1
import HandS.HeadHook2
import HandS.ExcInit
import HandS.Conv
import HandS.Style
import HandS.Iter
import HandS.Head0
import HandS.Head1
import HandS.Head2
import HandS.EndBits
import KE.KSuper
import HandS.ClsMeth
import HandS.Flt
import KE.KExcSuper
import HandS.ExcField
import KE.KExcIs
import HandS.ExcIs
import HandS.FStr
import HandS.FStrTup
import PyProof.FString2
import HandS.Text
import PyProof.StrOps2
import HandS.TryMany
import KE.GoesEnum
import HandS.More
import HandS.Dict
import HandS.ExcValue
import PySem.Challenge.RW_needforth_k54_whole_errors_apart
set_option Elab.async false
set_option linter.all false
set_option maxRecDepth 100000
set_option maxHeartbeats 4000000
/-! S-layer 1: data, trees, what a heap holds of them -/
namespace SL
open PySem L2

inductive D where
  | non | bl (b : Bool) | int (i : Int) | str (s : Str) | tup (xs : List D) | lst (xs : List D) | scr (ns : List Int)
  | obj (C : Str) (ns : List Str) (fs : List D) | exn (a d : Addr) (ns : List Str) (fs : List D) | exi (C : Str) (ns : List Str) (fs : List D) | dic (ks : List L2.Key) (xs : List D)

def Ex (H H' : Hp) : Prop := ∀ a o, H a = some o → H' a = some o
theorem Ex.rfl {H : Hp} : Ex H H := fun _ _ h => h
theorem Ex.trans {H H1 H2 : Hp} (a : Ex H H1) (b : Ex H1 H2) : Ex H H2 := fun x o h => b x o (a x o h)
theorem Ex.new {H : Hp} {p : Addr} {o : HO} (h : H p = none) : Ex H (upd H p o) := fun a u e => by
  rw [upd_ne (ne_of_none e h)]
  exact e
theorem Ex.back {H H' : Hp} {p : Addr} (e : Ex H H') (h : H' p = none) : H p = none := by
  cases h1 : H p with
  | none => rfl
  | some o => rw [e p o h1] at h; cases h
theorem Ex.rd {H H' : Hp} {a : Addr} {u : HO} (e : Ex H H') (h : Rd H a u) : Rd H' a u := by
  rcases h with h | ⟨o, h⟩
  · exact Or.inl (e a _ h)
  · exact Or.inr ⟨o, e a _ h⟩
theorem Ex.l {K : PySem.W.Frag} {H H' : Hp} {a : Addr} {xs : List V} (e : Ex H H') (h : SqL K H a xs) : SqL K H' a xs := by
  rcases h with h | h
  · exact Or.inl (e.rd h)
  · exact Or.inr h
theorem Ex.t {K : PySem.W.Frag} {H H' : Hp} {a : Addr} {xs : List V} (e : Ex H H') (h : SqT K H a xs) : SqT K H' a xs := by
  rcases h with h | h
  · exact Or.inl (e.rd h)
  · exact Or.inr h

mutual
def Rep (K : PySem.W.Frag) (F : Hp) : D → V → Prop
  | .non, v => v = .non
  | .bl b, v => v = .bl b
  | .int i, v => v = .int i
  | .str s, v => v = .str s
  | .tup xs, v => ∃ a vs, v = .ref a ∧ SqT K F a vs ∧ Reps K F xs vs
  | .lst xs, v => ∃ a vs, v = .ref a ∧ F a = some (.lst vs) ∧ Reps K F xs vs
  | .scr ns, v => ∃ a, v = .ref a ∧ SqL K F a (ns.map V.int)
  | .obj C ns xs, v => ∃ a dx vs, v = .ref a ∧ F a = some (.ins (He.ga K C) dx (ns.zip vs)) ∧ ns.length = xs.length ∧ Reps K F xs vs
  | .exn a d ns xs, v => ∃ vs, v = .ref a ∧ F d = some (.xd (ns.zip vs)) ∧ ns.length = xs.length ∧ Reps K F xs vs
  | .exi C ns xs, v => ∃ a dx vs, v = .ref a ∧ F a = some (exo a (He.ga K C) dx) ∧ ((dx = none ∧ ns = []) ∨ ∃ d, dx = some d ∧ F d = some (exd d (ns.zip vs))) ∧ ns.length = xs.length ∧ Reps K F xs vs
  | .dic ks xs, v => ∃ a vs, v = .ref a ∧ F a = some (.dK (ks.zip vs)) ∧ ks.length = xs.length ∧ Reps K F xs vs
def Reps (K : PySem.W.Frag) (F : Hp) : List D → List V → Prop
  | [], vs => vs = []
  | x :: xs, vs => ∃ v r, vs = v :: r ∧ Rep K F x v ∧ Reps K F xs r
end

mutual
theorem Rep.mono {K : PySem.W.Frag} {F F' : Hp} (e : Ex F F') : ∀ (d : D) (v : V), Rep K F d v → Rep K F' d v
  | .non, _, h => h
  | .bl _, _, h => h
  | .int _, _, h => h
  | .str _, _, h => h
  | .tup xs, v, h => by
    unfold Rep at h ⊢
    obtain ⟨a, vs, e1, e2, e3⟩ := h
    exact ⟨a, vs, e1, e.t e2, Reps.mono e xs vs e3⟩
  | .lst xs, v, h => by
    unfold Rep at h ⊢
    obtain ⟨a, vs, e1, e2, e3⟩ := h
    exact ⟨a, vs, e1, e _ _ e2, Reps.mono e xs vs e3⟩
  | .scr ns, v, h => by
    unfold Rep at h ⊢
    obtain ⟨a, e1, e2⟩ := h
    exact ⟨a, e1, e.l e2⟩
  | .obj C ns xs, v, h => by
    unfold Rep at h ⊢
    obtain ⟨a, dx, vs, e1, e2, e3, e4⟩ := h
    exact ⟨a, dx, vs, e1, e _ _ e2, e3, Reps.mono e xs vs e4⟩
  | .exn a d ns xs, v, h => by
    unfold Rep at h ⊢
    obtain ⟨vs, e1, e2, e3, e4⟩ := h
    exact ⟨vs, e1, e _ _ e2, e3, Reps.mono e xs vs e4⟩
  | .exi C ns xs, v, h => by
    unfold Rep at h ⊢
    obtain ⟨a, dx, vs, e1, e2, e3, e4, e5⟩ := h
    exact ⟨a, dx, vs, e1, e _ _ e2, e3.elim .inl fun ⟨d, h1, h2⟩ => .inr ⟨d, h1, e _ _ h2⟩, e4, Reps.mono e xs vs e5⟩
  | .dic ks xs, v, h => by
    unfold Rep at h ⊢
    obtain ⟨a, vs, e1, e2, e3, e4⟩ := h
    exact ⟨a, vs, e1, e _ _ e2, e3, Reps.mono e xs vs e4⟩
theorem Reps.mono {K : PySem.W.Frag} {F F' : Hp} (e : Ex F F') : ∀ (xs : List D) (vs : List V), Reps K F xs vs → Reps K F' xs vs
  | [], _, h => by unfold Reps at h ⊢; exact h
  | x :: xs, vs, h => by
    unfold Reps at h ⊢
    obtain ⟨v, r, e1, e2, e3⟩ := h
    exact ⟨v, r, e1, Rep.mono e x v e2, Reps.mono e xs r e3⟩
end
section
variable {K : PySem.W.Frag} {F : Hp}
theorem reps_nil : Reps K F [] [] := by unfold Reps; rfl
theorem reps_cons {x : D} {v : V} {xs : List D} {vs : List V} (h : Rep K F x v) (t : Reps K F xs vs) : Reps K F (x :: xs) (v :: vs) := by
  unfold Reps; exact ⟨v, vs, rfl, h, t⟩
theorem Reps.len : ∀ {xs : List D} {vs : List V}, Reps K F xs vs → vs.length = xs.length
  | [], vs, h => by unfold Reps at h; subst h; rfl
  | x :: xs, vs, h => by
    unfold Reps at h
    obtain ⟨v, r, rfl, _, t⟩ := h
    simp [Reps.len t]
theorem Reps.app : ∀ {xs : List D} {vs : List V} {ys : List D} {us : List V}, Reps K F xs vs → Reps K F ys us → Reps K F (xs ++ ys) (vs ++ us)
  | [], vs, ys, us, h, g => by unfold Reps at h; subst h; exact g
  | x :: xs, vs, ys, us, h, g => by
    unfold Reps at h
    obtain ⟨v, r, rfl, a, t⟩ := h
    exact reps_cons a (Reps.app t g)
theorem Reps.get : ∀ {xs : List D} {vs : List V} {i : Nat} {x : D}, Reps K F xs vs → xs[i]? = some x → ∃ v, vs[i]? = some v ∧ Rep K F x v
  | [], vs, i, x, h, e => by simp at e
  | y :: xs, vs, i, x, h, e => by
    unfold Reps at h
    obtain ⟨v, r, rfl, a, t⟩ := h
    cases i with
    | zero => simp at e; subst e; exact ⟨v, by simp, a⟩
    | succ i => simp at e; obtain ⟨u, hu, ru⟩ := Reps.get t e; exact ⟨u, by simpa using hu, ru⟩
theorem Reps.getV : ∀ {xs : List D} {vs : List V} {i : Nat} {v : V}, Reps K F xs vs → vs[i]? = some v → ∃ x, xs[i]? = some x ∧ Rep K F x v
  | [], vs, i, v, h, e => by unfold Reps at h; subst h; simp at e
  | y :: xs, vs, i, v, h, e => by
    unfold Reps at h
    obtain ⟨w, r, rfl, a, t⟩ := h
    cases i with
    | zero => simp at e; subst e; exact ⟨y, by simp, a⟩
    | succ i => simp at e; obtain ⟨u, hu, ru⟩ := Reps.getV t e; exact ⟨u, by simpa using hu, ru⟩
theorem Reps.take : ∀ {xs : List D} {vs : List V} (n : Nat), Reps K F xs vs → Reps K F (xs.take n) (vs.take n)
  | xs, vs, 0, h => by simp; exact reps_nil
  | [], vs, n + 1, h => by unfold Reps at h; subst h; simp; exact reps_nil
  | x :: xs, vs, n + 1, h => by
    unfold Reps at h
    obtain ⟨v, r, rfl, a, t⟩ := h
    exact reps_cons a (Reps.take n t)
theorem Reps.drop : ∀ {xs : List D} {vs : List V} (n : Nat), Reps K F xs vs → Reps K F (xs.drop n) (vs.drop n)
  | xs, vs, 0, h => h
  | [], vs, n + 1, h => by unfold Reps at h; subst h; simp; exact reps_nil
  | x :: xs, vs, n + 1, h => by
    unfold Reps at h
    obtain ⟨v, r, rfl, a, t⟩ := h
    exact Reps.drop n t
theorem Reps.set : ∀ {xs : List D} {vs : List V} (n : Nat) {x : D} {v : V}, Reps K F xs vs → Rep K F x v → Reps K F (xs.set n x) (vs.set n v)
  | [], vs, n, x, v, h, g => by unfold Reps at h; subst h; simp; exact reps_nil
  | y :: xs, vs, 0, x, v, h, g => by
    unfold Reps at h
    obtain ⟨w, r, rfl, a, t⟩ := h
    exact reps_cons g t
  | y :: xs, vs, n + 1, x, v, h, g => by
    unfold Reps at h
    obtain ⟨w, r, rfl, a, t⟩ := h
    exact reps_cons a (Reps.set n t g)
theorem Reps.flat : ∀ (k : Nat) {xs : List D} {vs : List V}, Reps K F xs vs → Reps K F (List.replicate k xs).flatten (List.replicate k vs).flatten
  | 0, xs, vs, h => by simp; exact reps_nil
  | k + 1, xs, vs, h => by simp only [List.replicate_succ, List.flatten_cons]; exact Reps.app h (Reps.flat k h)
theorem reps_ints : ∀ (ns : List Int), Reps K F (ns.map D.int) (ns.map V.int)
  | [] => reps_nil
  | n :: ns => reps_cons (by unfold Rep; rfl) (reps_ints ns)
theorem rep_int {i : Int} : Rep K F (.int i) (.int i) := by unfold Rep; rfl
theorem rep_bl {i : Bool} : Rep K F (.bl i) (.bl i) := by unfold Rep; rfl
theorem rep_str {i : Str} : Rep K F (.str i) (.str i) := by unfold Rep; rfl
theorem rep_non : Rep K F .non .non := by unfold Rep; rfl
theorem rep_tup {a : Addr} {xs : List D} {vs : List V} (h : SqT K F a vs) (r : Reps K F xs vs) : Rep K F (.tup xs) (.ref a) := by unfold Rep; exact ⟨a, vs, rfl, h, r⟩
theorem rep_lst {a : Addr} {xs : List D} {vs : List V} (h : F a = some (.lst vs)) (r : Reps K F xs vs) : Rep K F (.lst xs) (.ref a) := by unfold Rep; exact ⟨a, vs, rfl, h, r⟩
end

/-! ### trees: data, a list or an instance that one slot alone holds (b: lent by the caller) -/
inductive T where
  | dat (d : D) | lst (b : Bool) (xs : List D) | ins (b : Bool) (C : Str) (ns : List Str) (xs : List D)
def T.own : T → Bool
  | .dat _ => false
  | _ => true
def T.brw : T → Bool
  | .dat _ => false
  | .lst b _ => b
  | .ins b _ _ _ => b
def T.fz : T → D
  | .dat d => d
  | .lst _ xs => .lst xs
  | .ins _ C ns xs => .obj C ns xs
def Hold (K : PySem.W.Frag) (F H : Hp) : T → V → Prop
  | .dat d, v => Rep K F d v
  | .lst _ xs, v => ∃ a vs, v = .ref a ∧ F a = none ∧ H a = some (.lst vs) ∧ Reps K F xs vs
  | .ins _ C ns xs, v => ∃ a dx vs, v = .ref a ∧ F a = none ∧ H a = some (.ins (He.ga K C) dx (ns.zip vs)) ∧ ns.length = xs.length ∧ Reps K F xs vs
theorem Hold.adr {K : PySem.W.Frag} {F H : Hp} {t : T} {v : V} (h : Hold K F H t v) (o : t.own = true) : ∃ a u, v = .ref a ∧ F a = none ∧ H a = some u := by
  cases t with
  | dat d => cases o
  | lst b xs => obtain ⟨a, vs, e1, e2, e3, _⟩ := h; exact ⟨a, _, e1, e2, e3⟩
  | ins b C ns xs => obtain ⟨a, dx, vs, e1, e2, e3, _⟩ := h; exact ⟨a, _, e1, e2, e3⟩
/-- F grows where the tree is not, H stays where it is -/
theorem Hold.mono {K : PySem.W.Frag} {F F' H H' : Hp} {t : T} {v : V} (h : Hold K F H t v) (e : Ex F F') (hF : t.own = true → ∀ a, v = .ref a → F' a = none) (hH : t.own = true → ∀ a, v = .ref a → H' a = H a) : Hold K F' H' t v := by
  cases t with
  | dat d => exact Rep.mono e d v h
  | lst b xs =>
    obtain ⟨a, vs, e1, e2, e3, e4⟩ := h
    exact ⟨a, vs, e1, hF rfl a e1, (hH rfl a e1).trans e3, Reps.mono e _ _ e4⟩
  | ins b C ns xs =>
    obtain ⟨a, dx, vs, e1, e2, e3, e4, e5⟩ := h
    exact ⟨a, dx, vs, e1, hF rfl a e1, (hH rfl a e1).trans e3, e4, Reps.mono e _ _ e5⟩

/-- a frame's entry: what is told there as data, the heap, what is lent -/
structure Gm where
  F0 : Hp
  H0 : Hp
  B : Addr → Prop
def Br (G : Gm) (t : T) (v : V) : Prop := t.own = true → ∀ a, v = .ref a → if t.brw = true then G.B a else (G.H0 a = none ∧ ¬ G.B a)

abbrev Sl := List (Option T)
structure J (K : PySem.W.Frag) (G : Gm) (F H : Hp) (L : Sl) (M : St) : Prop where
  ex : Ex F H
  len : L.length = M.length
  ok : ∀ (i : Nat) (t : T), L[i]? = some (some t) → ∃ v, M[i]? = some (some v) ∧ Hold K F H t v ∧ Br G t v
  ne : ∀ (i j : Nat) (t t' : T) (v : V), i ≠ j → L[i]? = some (some t) → L[j]? = some (some t') → t.own = true → t'.own = true → M[i]? = some (some v) → M[j]? = some (some v) → False
  base : ∀ a o, G.H0 a = some o → ¬ G.B a → H a = some o
  frs : ∀ a o, F a = some o → G.F0 a = some o ∨ G.H0 a = none
  f0 : Ex G.F0 F
  bal : ∀ a, G.B a → ∃ o, H a = some o
section
variable {K : PySem.W.Frag} {G : Gm} {F F' H H' : Hp} {L : Sl} {M : St}
theorem J.fresh (j : J K G F H L M) {p : Addr} (h : H p = none) : F p = none ∧ G.H0 p = none ∧ ¬ G.B p := by
  refine ⟨j.ex.back h, ?_, ?_⟩
  · cases e : G.H0 p with
    | none => rfl
    | some o =>
      by_cases b : G.B p
      · obtain ⟨u, hu⟩ := j.bal p b; rw [h] at hu; cases hu
      · rw [j.base p o e b] at h; cases h
  · intro b; obtain ⟨u, hu⟩ := j.bal p b; rw [h] at hu; cases hu
/-- a new data value -/
theorem J.dat (j : J K G F H L M) {d : D} {v : V} (r : Rep K F d v) : J K G F H (L ++ [some (.dat d)]) (M ++ [some v]) := by
  refine ⟨j.ex, by simp [j.len], fun i t e => ?_, fun i i' t t' v' ni e e' o o' m m' => ?_, j.base, j.frs, j.f0, j.bal⟩
  · by_cases hi : i < L.length
    · rw [List.getElem?_append_left hi] at e
      obtain ⟨u, h1, h2⟩ := j.ok i t e
      exact ⟨u, by rw [List.getElem?_append_left (by rw [← j.len]; exact hi)]; exact h1, h2⟩
    · have hle : L.length ≤ i := Nat.le_of_not_lt hi
      rw [List.getElem?_append_right hle] at e
      have : i - L.length = 0 := by
        by_cases z : i - L.length = 0
        · exact z
        · rw [List.getElem?_singleton, if_neg z] at e; cases e
      rw [List.getElem?_singleton, if_pos this] at e
      cases e
      refine ⟨v, ?_, r, fun o => by cases o⟩
      rw [List.getElem?_append_right (by rw [← j.len]; exact hle), ← j.len, List.getElem?_singleton, if_pos this]
  · have lt : ∀ {k s}, (L ++ [some (T.dat d)])[k]? = some (some s) → s.own = true → k < L.length := fun {k s} ek os => by
      by_cases hk : k < L.length
      · exact hk
      · have hle : L.length ≤ k := Nat.le_of_not_lt hk
        rw [List.getElem?_append_right hle] at ek
        by_cases z : k - L.length = 0
        · rw [List.getElem?_singleton, if_pos z] at ek; cases ek; cases os
        · rw [List.getElem?_singleton, if_neg z] at ek; cases ek
    have h1 := lt e o
    have h2 := lt e' o'
    rw [List.getElem?_append_left h1] at e
    rw [List.getElem?_append_left h2] at e'
    rw [List.getElem?_append_left (by rw [← j.len]; exact h1)] at m
    rw [List.getElem?_append_left (by rw [← j.len]; exact h2)] at m'
    exact j.ne i i' t t' v' ni e e' o o' m m'
/-- the heap and the data grow: nothing held moves -/
theorem J.grow (j : J K G F H L M) (ef : Ex F F') (eh : Ex H H') (ex : Ex F' H') (hf : ∀ a o, F' a = some o → F a = some o ∨ H a = none) : J K G F' H' L M := by
  refine ⟨ex, j.len, fun i t e => ?_, j.ne, fun a o h b => eh a o (j.base a o h b), fun a o h => ?_, j.f0.trans ef, fun a b => let ⟨o, h⟩ := j.bal a b; ⟨o, eh a o h⟩⟩
  · obtain ⟨v, h1, h2, h3⟩ := j.ok i t e
    refine ⟨v, h1, h2.mono ef (fun o a ea => ?_) (fun o a ea => ?_), h3⟩
    · obtain ⟨b, u, e1, e2, e3⟩ := h2.adr o
      rw [ea] at e1; cases e1
      cases q : F' a with
      | none => rfl
      | some x =>
        rcases hf a x q with z | z
        · rw [e2] at z; cases z
        · rw [e3] at z; cases z
    · obtain ⟨b, u, e1, e2, e3⟩ := h2.adr o
      rw [ea] at e1; cases e1
      rw [e3]; exact eh a u e3
  · rcases hf a o h with z | z
    · exact j.frs a o z
    · exact Or.inr (j.fresh z).2.1
/-- a new object that is data from now on -/
theorem J.frz (j : J K G F H L M) {p : Addr} {o : HO} (h : H p = none) : J K G (upd F p o) (upd H p o) L M := by
  refine j.grow (Ex.new (j.ex.back h)) (Ex.new h) (fun a u e => ?_) (fun a u e => ?_)
  · by_cases z : a = p
    · subst z; rw [upd_same] at e ⊢; exact e
    · rw [upd_ne z] at e ⊢; exact j.ex a u e
  · by_cases z : a = p
    · subst z; exact Or.inr h
    · rw [upd_ne z] at e; exact Or.inl e
theorem J.heap (j : J K G F H L M) {p : Addr} {o : HO} (h : H p = none) : J K G F (upd H p o) L M :=
  j.grow Ex.rfl (Ex.new h) (j.ex.trans (Ex.new h)) fun a u e => Or.inl e
/-- a new owned object -/
theorem J.push (j : J K G F H L M) {p : Addr} {o : HO} {t : T} (h : H p = none) (ho : t.own = true) (hb : t.brw = false) (hold : Hold K F (upd H p o) t (.ref p)) : J K G F (upd H p o) (L ++ [some t]) (M ++ [some (.ref p)]) := by
  have j1 : J K G F (upd H p o) L M := j.heap h
  refine ⟨j1.ex, by simp [j.len], fun i s e => ?_, fun i i' s s' v' ni e e' os os' m m' => ?_, j1.base, j1.frs, j1.f0, j1.bal⟩
  · by_cases hi : i < L.length
    · rw [List.getElem?_append_left hi] at e
      obtain ⟨u, h1, h2⟩ := j1.ok i s e
      exact ⟨u, by rw [List.getElem?_append_left (by rw [← j.len]; exact hi)]; exact h1, h2⟩
    · have hle : L.length ≤ i := Nat.le_of_not_lt hi
      rw [List.getElem?_append_right hle] at e
      by_cases z : i - L.length = 0
      · rw [List.getElem?_singleton, if_pos z] at e
        cases e
        refine ⟨.ref p, ?_, hold, fun _ a ea => ?_⟩
        · rw [List.getElem?_append_right (by rw [← j.len]; exact hle), ← j.len, List.getElem?_singleton, if_pos z]
        · cases ea; rw [hb]; exact ⟨(j.fresh h).2.1, (j.fresh h).2.2⟩
      · rw [List.getElem?_singleton, if_neg z] at e; cases e
  · have old : ∀ {k s}, k < L.length → (L ++ [some t])[k]? = some (some s) → s.own = true → (M ++ [some (V.ref p)])[k]? = some (some (V.ref p)) → False := fun {k s} hk ek os mk => by
      rw [List.getElem?_append_left hk] at ek
      rw [List.getElem?_append_left (by rw [← j.len]; exact hk)] at mk
      obtain ⟨u, h1, h2, _⟩ := j.ok k s ek
      rw [mk] at h1; cases h1
      obtain ⟨a, u, e1, e2, e3⟩ := h2.adr os
      cases e1; rw [h] at e3; cases e3
    have big : ∀ {k s}, ¬ k < L.length → (L ++ [some t])[k]? = some (some s) → k = L.length := fun {k s} hk ek => by
      have hle : L.length ≤ k := Nat.le_of_not_lt hk
      rw [List.getElem?_append_right hle] at ek
      by_cases z : k - L.length = 0
      · omega
      · rw [List.getElem?_singleton, if_neg z] at ek; cases ek
    have val : ∀ {k}, k = L.length → (M ++ [some (V.ref p)])[k]? = some (some (V.ref p)) := fun {k} hk => by
      rw [List.getElem?_append_right (by rw [← j.len]; omega), ← j.len, List.getElem?_singleton, if_pos (by omega)]
    by_cases h1 : i < L.length
    · by_cases h2 : i' < L.length
      · rw [List.getElem?_append_left h1] at e
        rw [List.getElem?_append_left h2] at e'
        rw [List.getElem?_append_left (by rw [← j.len]; exact h1)] at m
        rw [List.getElem?_append_left (by rw [← j.len]; exact h2)] at m'
        exact j.ne i i' s s' v' ni e e' os os' m m'
      · have q := val (big h2 e')
        rw [m'] at q; cases q
        exact old h1 e os m
    · have q := val (big h1 e)
      rw [m] at q; cases q
      by_cases h2 : i' < L.length
      · exact old h2 e' os' m'
      · exact ni ((big h1 e).trans (big h2 e').symm)
end
end SL

set_option Elab.async false
set_option linter.all false
set_option maxRecDepth 100000
set_option maxHeartbeats 4000000
namespace SL
open PySem L2
section
variable {K : PySem.W.Frag} {G : Gm} {F F' H H' : Hp} {L : Sl} {M : St}
theorem J.pre {X : Sl} {Y : St} (j : J K G F H (L ++ X) (M ++ Y)) (l : L.length = M.length) : J K G F H L M := by
  have up : ∀ {k : Nat} {s : T}, L[k]? = some (some s) → (L ++ X)[k]? = some (some s) ∧ k < L.length := fun {k s} e => by
    have h : k < L.length := (List.getElem?_eq_some_iff.mp e).1
    exact ⟨by rw [List.getElem?_append_left h]; exact e, h⟩
  refine ⟨j.ex, l, fun i t e => ?_, fun i i' t t' v' ni e e' o o' m m' => ?_, j.base, j.frs, j.f0, j.bal⟩
  · obtain ⟨e1, hi⟩ := up e
    obtain ⟨v, h1, h2⟩ := j.ok i t e1
    exact ⟨v, by rw [List.getElem?_append_left (by rw [← l]; exact hi)] at h1; exact h1, h2⟩
  · obtain ⟨e1, h1⟩ := up e
    obtain ⟨e2, h2⟩ := up e'
    exact j.ne i i' t t' v' ni e1 e2 o o' (by rw [List.getElem?_append_left (by rw [← l]; exact h1)]; exact m) (by rw [List.getElem?_append_left (by rw [← l]; exact h2)]; exact m')
/-- the slot at i takes over what stands last -/
theorem J.take {t : T} {v : V} {i : Nat} (j : J K G F H (L ++ [some t]) (M ++ [some v])) (l : L.length = M.length) : J K G F H (L.set i (some t)) (M.set i (some v)) := by
  have lastL : (L ++ [some t])[L.length]? = some (some t) := by simp
  have lastM : (M ++ [some v])[L.length]? = some (some v) := by rw [l]; simp
  have up : ∀ {k : Nat} {s : T}, k ≠ i → (L.set i (some t))[k]? = some (some s) → (L ++ [some t])[k]? = some (some s) ∧ k < L.length := fun {k s} hk e => by
    rw [List.getElem?_set_ne (Ne.symm hk)] at e
    have h : k < L.length := (List.getElem?_eq_some_iff.mp e).1
    exact ⟨by rw [List.getElem?_append_left h]; exact e, h⟩
  have at_ : ∀ {s : T}, (L.set i (some t))[i]? = some (some s) → s = t ∧ i < L.length := fun {s} e => by
    have h : i < L.length := by
      have := (List.getElem?_eq_some_iff.mp e).1
      simpa using this
    rw [List.getElem?_set_self h] at e; cases e
    exact ⟨rfl, h⟩
  have dn : ∀ {k : Nat} {u : V}, k ≠ i → k < L.length → (M.set i (some v))[k]? = some (some u) → (M ++ [some v])[k]? = some (some u) := fun {k u} hk h e => by
    rw [List.getElem?_set_ne (Ne.symm hk)] at e
    rw [List.getElem?_append_left (by rw [← l]; exact h)]; exact e
  have atM : i < L.length → (M.set i (some v))[i]? = some (some v) := fun h => List.getElem?_set_self (by rw [← l]; exact h)
  refine ⟨j.ex, by simp [l], fun k s e => ?_, fun k k' s s' v' ni e e' o o' m m' => ?_, j.base, j.frs, j.f0, j.bal⟩
  · by_cases hk : k = i
    · subst hk
      obtain ⟨rfl, h⟩ := at_ e
      obtain ⟨u, h1, h2⟩ := j.ok _ _ lastL
      rw [lastM] at h1; cases h1
      exact ⟨v, atM h, h2⟩
    · obtain ⟨e1, h⟩ := up hk e
      obtain ⟨u, h1, h2⟩ := j.ok k s e1
      refine ⟨u, ?_, h2⟩
      rw [List.getElem?_append_left (by rw [← l]; exact h)] at h1
      rw [List.getElem?_set_ne (Ne.symm hk)]; exact h1
  · by_cases hk : k = i
    · by_cases hk' : k' = i
      · exact ni (hk.trans hk'.symm)
      · subst hk
        obtain ⟨rfl, h⟩ := at_ e
        obtain ⟨e2, h2⟩ := up hk' e'
        rw [atM h] at m; cases m
        exact j.ne L.length k' _ _ _ (by omega) lastL e2 o o' lastM (dn hk' h2 m')
    · obtain ⟨e1, h1⟩ := up hk e
      by_cases hk' : k' = i
      · subst hk'
        obtain ⟨rfl, h⟩ := at_ e'
        rw [atM h] at m'; cases m'
        exact j.ne k L.length _ _ _ (by omega) e1 lastL o o' (dn hk h1 m) lastM
      · obtain ⟨e2, h2⟩ := up hk' e'
        exact j.ne k k' _ _ _ ni e1 e2 o o' (dn hk h1 m) (dn hk' h2 m')
/-- a slot is forgotten -/
theorem J.off {i : Nat} {w : Option V} (j : J K G F H L M) : J K G F H (L.set i none) (M.set i w) := by
  have up : ∀ {k : Nat} {s : T}, (L.set i none)[k]? = some (some s) → k ≠ i ∧ L[k]? = some (some s) := fun {k s} e => by
    by_cases hk : k = i
    · subst hk
      have h : k < L.length := by
        have := (List.getElem?_eq_some_iff.mp e).1
        simpa using this
      rw [List.getElem?_set_self h] at e; cases e
    · rw [List.getElem?_set_ne (Ne.symm hk)] at e
      exact ⟨hk, e⟩
  refine ⟨j.ex, by simp [j.len], fun k s e => ?_, fun k k' s s' v' ni e e' o o' m m' => ?_, j.base, j.frs, j.f0, j.bal⟩
  · obtain ⟨hk, e1⟩ := up e
    obtain ⟨u, h1, h2⟩ := j.ok k s e1
    exact ⟨u, by rw [List.getElem?_set_ne (Ne.symm hk)]; exact h1, h2⟩
  · obtain ⟨hk, e1⟩ := up e
    obtain ⟨hk', e2⟩ := up e'
    rw [List.getElem?_set_ne (Ne.symm hk)] at m
    rw [List.getElem?_set_ne (Ne.symm hk')] at m'
    exact j.ne k k' _ _ _ ni e1 e2 o o' m m'
/-- a held thing becomes data -/
theorem J.freeze {t : T} {i : Nat} (j : J K G F H L M) (e : L[i]? = some (some t)) (hb : t.brw = false) :
    ∃ F' v, Ex F F' ∧ M[i]? = some (some v) ∧ Rep K F' t.fz v ∧ J K G F' H (L.set i (some (.dat t.fz))) M := by
  obtain ⟨v, hv, hold, br⟩ := j.ok i t e
  have hi : i < L.length := (List.getElem?_eq_some_iff.mp e).1
  have main : ∀ (a : Addr) (o : HO) (q : t.own = true), v = .ref a → F a = none → H a = some o → Rep K (upd F a o) t.fz v →
      ∃ F' v, Ex F F' ∧ M[i]? = some (some v) ∧ Rep K F' t.fz v ∧ J K G F' H (L.set i (some (.dat t.fz))) M := by
    intro a o q ea fa ha r
    have fr := br q a ea
    rw [hb] at fr
    have g0 : G.H0 a = none ∧ ¬ G.B a := by simpa using fr
    have eF : Ex F (upd F a o) := Ex.new fa
    refine ⟨upd F a o, v, eF, hv, r, ⟨fun b u h => ?_, by simp [j.len], fun k s ek => ?_, fun k k' s s' v' ni ek ek' os os' m m' => ?_, j.base, fun b u h => ?_, j.f0.trans eF, j.bal⟩⟩
    · by_cases z : b = a
      · subst z; rw [upd_same] at h; cases h; exact ha
      · rw [upd_ne z] at h; exact j.ex b u h
    · by_cases hk : k = i
      · subst hk
        rw [List.getElem?_set_self hi] at ek; cases ek
        exact ⟨v, hv, r, fun o => by cases o⟩
      · rw [List.getElem?_set_ne (Ne.symm hk)] at ek
        obtain ⟨u, h1, h2, h3⟩ := j.ok k s ek
        refine ⟨u, h1, h2.mono eF (fun os b eb => ?_) (fun _ _ _ => rfl), h3⟩
        obtain ⟨b', w, e1, e2, e3⟩ := h2.adr os
        rw [eb] at e1; cases e1
        rw [upd_ne]
        · exact e2
        · rintro rfl
          exact j.ne k i s t u hk ek e os q h1 (by rw [hv, ea, eb])
    · have hk : k ≠ i := by
        rintro rfl
        rw [List.getElem?_set_self hi] at ek; cases ek; cases os
      have hk' : k' ≠ i := by
        rintro rfl
        rw [List.getElem?_set_self hi] at ek'; cases ek'; cases os'
      rw [List.getElem?_set_ne (Ne.symm hk)] at ek
      rw [List.getElem?_set_ne (Ne.symm hk')] at ek'
      exact j.ne k k' _ _ _ ni ek ek' os os' m m'
    · by_cases z : b = a
      · subst z; exact Or.inr g0.1
      · rw [upd_ne z] at h; exact j.frs b u h
  cases t with
  | dat d =>
    refine ⟨F, v, Ex.rfl, hv, hold, ?_⟩
    have : L.set i (some (.dat d)) = L := by
      apply List.ext_getElem?
      intro k
      by_cases hk : k = i
      · subst hk; rw [List.getElem?_set_self hi]; exact e.symm
      · rw [List.getElem?_set_ne (Ne.symm hk)]
    show J K G F H (L.set i (some (.dat d))) M
    rw [this]; exact j
  | lst b xs =>
    obtain ⟨a, vs, e1, e2, e3, e4⟩ := hold
    exact main a _ rfl e1 e2 e3 (by rw [e1]; exact rep_lst upd_same (Reps.mono (Ex.new e2) _ _ e4))
  | ins b C ns xs =>
    obtain ⟨a, dx, vs, e1, e2, e3, e4, e5⟩ := hold
    refine main a _ rfl e1 e2 e3 ?_
    show Rep K _ (.obj C ns xs) v
    unfold Rep
    exact ⟨a, dx, vs, e1, upd_same, e4, Reps.mono (Ex.new e2) _ _ e5⟩
/-- a held thing is changed at its place -/
theorem J.mut {t t' : T} {i : Nat} {a : Addr} {o : HO} (j : J K G F H L M) (e : L[i]? = some (some t)) (ho : t.own = true) (ho' : t'.own = true) (hb : t'.brw = t.brw) (hm : M[i]? = some (some (.ref a))) (hold : Hold K F (upd H a o) t' (.ref a)) :
    J K G F (upd H a o) (L.set i (some t')) M := by
  obtain ⟨v, hv, h0, br⟩ := j.ok i t e
  rw [hm] at hv; cases hv
  have hi : i < L.length := (List.getElem?_eq_some_iff.mp e).1
  obtain ⟨a', u, ea, fa, ha⟩ := h0.adr ho
  cases ea
  have fr := br ho a rfl
  refine ⟨fun b w h => ?_, by simp [j.len], fun k s ek => ?_, fun k k' s s' v' ni ek ek' os os' m m' => ?_, fun b w h nb => ?_, j.frs, j.f0, fun b hB => ?_⟩
  · by_cases z : b = a
    · subst z; rw [fa] at h; cases h
    · rw [upd_ne z]; exact j.ex b w h
  · by_cases hk : k = i
    · subst hk
      rw [List.getElem?_set_self hi] at ek; cases ek
      refine ⟨_, hm, hold, fun _ b eb => ?_⟩
      cases eb; rw [hb]; exact fr
    · rw [List.getElem?_set_ne (Ne.symm hk)] at ek
      obtain ⟨w, h1, h2, h3⟩ := j.ok k s ek
      refine ⟨w, h1, h2.mono Ex.rfl (fun os b eb => ?_) (fun os b eb => ?_), h3⟩
      · obtain ⟨b', w, e1, e2, e3⟩ := h2.adr os
        rw [eb] at e1; cases e1; exact e2
      · rw [upd_ne]
        rintro rfl
        exact j.ne k i s t w hk ek e os ho h1 (by rw [hm, eb])
  · by_cases hk : k = i
    · by_cases hk' : k' = i
      · exact ni (hk.trans hk'.symm)
      · subst hk
        rw [List.getElem?_set_ne (Ne.symm hk')] at ek'
        exact j.ne k k' t s' v' ni e ek' ho os' m m'
    · rw [List.getElem?_set_ne (Ne.symm hk)] at ek
      by_cases hk' : k' = i
      · subst hk'
        exact j.ne k k' s t v' ni ek e os ho m m'
      · rw [List.getElem?_set_ne (Ne.symm hk')] at ek'
        exact j.ne k k' _ _ _ ni ek ek' os os' m m'
  · by_cases z : b = a
    · subst z
      cases hq : t.brw with
      | true => rw [hq] at fr; exact absurd (by simpa using fr) nb
      | false => rw [hq] at fr; simp at fr; rw [fr.1] at h; cases h
    · rw [upd_ne z]; exact j.base b w h nb
  · by_cases z : b = a
    · subst z; exact ⟨o, upd_same⟩
    · obtain ⟨w, hw⟩ := j.bal b hB
      exact ⟨w, by rw [upd_ne z]; exact hw⟩
end

/-! ### semantic functions -/
structure Xc where
  cls : Str
  ns : List Str
  ds : List D
inductive Rs (α : Type) where
  | ok (a : α) | exc (x : Xc)
abbrev Mo (α : Type) := Sl → Option (Rs α × Sl)
def ret {α : Type} (a : α) : Mo α := fun ρ => some (.ok a, ρ)
def bnd {α β : Type} (m : Mo α) (f : α → Mo β) : Mo β := fun ρ => match m ρ with
  | none => none
  | some (.exc x, ρ') => some (.exc x, ρ')
  | some (.ok a, ρ') => f a ρ'
def nop {α : Type} : Mo α := fun _ => none
def ExcR (K : PySem.W.Frag) (F : Hp) (x : Xc) (c : Value) (d : Option Addr) : Prop := c = .ref (He.ga K x.cls) ∧ x.ns.length = x.ds.length ∧ (x.ns ≠ [] → ∃ a vs, d = some a ∧ F a = some (.xd (x.ns.zip vs)) ∧ Reps K F x.ds vs)

section
variable {α β α' β' : Type}
/-- a reading t is served by the function m; L0, M0: values that stand ready and are used up -/
def SndX (K : PySem.W.Frag) (W : WX) (L0 : Sl) (M0 : St) (pl : α → Sl) (pm : β → St) (eq : α → β → Prop) (te : St → Hp → (β → Hp → Prop) → Prop) (m : Mo α) : Prop :=
  ∀ (G : Gm) (F H : Hp) (ρ : Sl) (σ : St) (ts : Sl) (vs : St) (Q : β → Hp → Prop) (r : Rs α) (ρ' : Sl), J K G F H (ρ ++ (ts ++ L0)) (σ ++ (vs ++ M0)) → ρ.length = σ.length → ts.length = vs.length → m ρ = some (r, ρ') →
    (match r with
      | .ok a => ∀ b F' H', Ex F F' → ρ'.length = σ.length → eq a b → J K G F' H' (ρ' ++ (ts ++ pl a)) (σ ++ (vs ++ pm b)) → Q b H'
      | .exc x => ∀ c d F' H', Ex F F' → ρ'.length = σ.length → J K G F' H' (ρ' ++ ts) (σ ++ vs) → ExcR K F' x c d → W c d σ H') → te σ H Q
abbrev plT : T → Sl := fun t => [some t]
abbrev pmT : V → St := fun v => [some v]
abbrev SndE (K : PySem.W.Frag) (W : WX) (te : TE) (m : Mo T) : Prop := SndX K W [] [] plT pmT (fun _ _ => True) te m
abbrev SndT (K : PySem.W.Frag) (W : WX) (tt : TT) (m : Mo Bool) : Prop := SndX K W [] [] (fun _ => []) (fun _ => []) (fun a b => b = a) tt m
abbrev SndA (K : PySem.W.Frag) (W : WX) (ta : TA) (m : Mo (List T)) : Prop := SndX K W [] [] (fun ts => ts.map some) (fun vs => vs.map some) (fun a b => b.length = a.length) ta m
abbrev SndO (K : PySem.W.Frag) (W : WX) (to : TO) (m : Mo (Option Int)) : Prop := SndX K W [] [] (fun _ => []) (fun _ => []) (fun a b => b = a) to m
variable {K : PySem.W.Frag} {W : WX} {L0 : Sl} {M0 : St} {pl : α → Sl} {pm : β → St} {eq : α → β → Prop} {pl' : α' → Sl} {pm' : β' → St} {eq' : α' → β' → Prop}
theorem app_pre {X : Sl} {Y : St} {G : Gm} {F H : Hp} {ρ : Sl} {σ : St} {ts : Sl} {vs : St} (j : J K G F H (ρ ++ (ts ++ X)) (σ ++ (vs ++ Y))) (h : ρ.length = σ.length) (h2 : ts.length = vs.length) : J K G F H (ρ ++ ts) (σ ++ vs) := by
  rw [← List.append_assoc, ← List.append_assoc] at j
  exact j.pre (by simp [h, h2])
theorem SndX.bnd {t1 : St → Hp → (β → Hp → Prop) → Prop} {m1 : Mo α} {t2 : β → St → Hp → (β' → Hp → Prop) → Prop} {m2 : α → Mo α'} (hL : L0.length = M0.length) (h1 : SndX K W [] [] pl pm eq t1 m1)
    (h2 : ∀ a b, eq a b → SndX K W (L0 ++ pl a) (M0 ++ pm b) pl' pm' eq' (t2 b) (m2 a)) : SndX K W L0 M0 pl' pm' eq' (fun σ H Q => t1 σ H fun b H1 => t2 b σ H1 Q) (bnd m1 m2) := by
  intro G F H ρ σ ts vs Q r ρ' j hl ht hm k
  unfold SL.bnd at hm
  cases e : m1 ρ with
  | none => rw [e] at hm; cases hm
  | some p =>
    obtain ⟨r1, ρ1⟩ := p
    rw [e] at hm
    refine h1 G F H ρ σ (ts ++ L0) (vs ++ M0) _ r1 ρ1 (by simpa using j) hl (by simp [ht, hL]) e ?_
    cases r1 with
    | exc x =>
      cases hm
      intro c d F' H' e1 l1 j1 x1
      exact k c d F' H' e1 l1 (app_pre j1 l1 ht) x1
    | ok a =>
      intro b F' H' e1 l1 q j1
      refine h2 a b q G F' H' ρ1 σ ts vs Q r ρ' (by simpa [List.append_assoc] using j1) l1 ht hm ?_
      cases r with
      | ok a2 => exact fun b2 F2 H2 e2 l2 q2 j2 => k b2 F2 H2 (e1.trans e2) l2 q2 j2
      | exc x => exact fun c d F2 H2 e2 l2 j2 x2 => k c d F2 H2 (e1.trans e2) l2 j2 x2
end
end SL

set_option Elab.async false
set_option linter.all false
set_option maxRecDepth 100000
set_option maxHeartbeats 4000000
namespace SL
open PySem L2
theorem big_line {n : Nat} (h : n ≤ 100000) : n ≤ sizeLine := Nat.le_trans h (by decide)
theorem lt_line {n : Nat} (h : n < 100000) : n < sizeLine := Nat.lt_of_lt_of_le h (by decide)
def frzs (ts : List T) : Option (List D) := if ts.any T.brw then none else some (ts.map T.fz)
section
variable {K : PySem.W.Frag} {G : Gm} {F F' H H' : Hp}
theorem J.freezes : ∀ {ts : List T} {vs : List V} {P : Sl} {Q : St} {F : Hp}, J K G F H (P ++ ts.map some) (Q ++ vs.map some) → P.length = Q.length → ts.any T.brw = false →
    ∃ F', Ex F F' ∧ J K G F' H (P ++ ts.map fun t => some (.dat t.fz)) (Q ++ vs.map some) ∧ Reps K F' (ts.map T.fz) vs
  | [], vs, P, Q, F, j, l, h => by
    have e := j.len
    simp at e
    have : vs = [] := List.eq_nil_of_length_eq_zero (by omega)
    subst this
    exact ⟨F, Ex.rfl, j, reps_nil⟩
  | t :: ts, vs, P, Q, F, j, l, h => by
    have e := j.len
    simp at e
    cases vs with
    | nil => simp at e; omega
    | cons v vs =>
      simp only [List.any_cons, Bool.or_eq_false_iff] at h
      have e1 : (P ++ (t :: ts).map some)[P.length]? = some (some t) := by simp
      obtain ⟨F1, v1, x1, m1, r1, j1⟩ := j.freeze e1 h.1
      have hv : v1 = v := by
        rw [l] at m1
        simp at m1
        exact m1.symm
      subst hv
      have e2 : (P ++ (t :: ts).map some).set P.length (some (.dat t.fz)) = (P ++ [some (.dat t.fz)]) ++ ts.map some := by simp
      rw [e2] at j1
      have e3 : Q ++ (v1 :: vs).map some = (Q ++ [some v1]) ++ vs.map some := by simp
      rw [e3] at j1
      obtain ⟨F2, x2, j2, r2⟩ := J.freezes j1 (by simp [l]) h.2
      refine ⟨F2, x1.trans x2, ?_, reps_cons (Rep.mono x2 _ _ r1) r2⟩
      have e4 : P ++ (t :: ts).map (fun t => some (T.dat t.fz)) = (P ++ [some (.dat t.fz)]) ++ ts.map (fun t => some (T.dat t.fz)) := by simp
      rw [e4, e3]
      exact j2
end
/-- what an operation hands back: data, or a new list -/
inductive Out where
  | dt (d : D) | nl (xs : List D)
def outM : Option Out → Mo T
  | none => nop
  | some (.dt d) => ret (.dat d)
  | some (.nl xs) => ret (.lst false xs)
def opM (f : List D → Option Out) (ts : List T) : Mo T := match frzs ts with
  | none => nop
  | some ds => outM (f ds)
def OutOk (K : PySem.W.Frag) (F H : Hp) (Q : VK) : Out → Prop
  | .dt d => ∀ v F' H', Ex F F' → Ex H H' → Ex F' H' → (∀ a o, F' a = some o → F a = some o ∨ H a = none) → Rep K F' d v → Q v H'
  | .nl xs => ∀ p vs, H p = none → Reps K F xs vs → Q (.ref p) (upd H p (.lst vs))
section
variable {K : PySem.W.Frag} {F H : Hp} {Q : VK}
theorem OutOk.val {d : D} {v : V} (h : OutOk K F H Q (.dt d)) (e : Ex F H) (r : Rep K F d v) : Q v H := h v F H Ex.rfl Ex.rfl e (fun _ _ z => .inl z) r
theorem OutOk.int {i : Int} (h : OutOk K F H Q (.dt (.int i))) (e : Ex F H) : Q (.int i) H := h.val e rep_int
theorem OutOk.bl {i : Bool} (h : OutOk K F H Q (.dt (.bl i))) (e : Ex F H) : Q (.bl i) H := h.val e rep_bl
theorem OutOk.str {i : Str} (h : OutOk K F H Q (.dt (.str i))) (e : Ex F H) : Q (.str i) H := h.val e rep_str
theorem OutOk.tup {xs : List D} {vs : List V} (h : OutOk K F H Q (.dt (.tup xs))) (e : Ex F H) (r : Reps K F xs vs) {p : Addr} (hp : H p = none) : Q (.ref p) (upd H p (.tup vs)) := by
  have fp : F p = none := e.back hp
  refine h _ (upd F p (.tup vs)) _ (Ex.new fp) (Ex.new hp) (fun a u q => ?_) (fun a u q => ?_) (rep_tup (Or.inl (Or.inl upd_same)) (Reps.mono (Ex.new fp) _ _ r))
  · by_cases z : a = p
    · subst z; rw [upd_same] at q ⊢; exact q
    · rw [upd_ne z] at q ⊢; exact e a u q
  · by_cases z : a = p
    · subst z; exact Or.inr hp
    · rw [upd_ne z] at q; exact Or.inl q
end
section
variable {K : PySem.W.Frag} {W : WX}
theorem snd_out {f : List D → Option Out} {te : St → Hp → VK → Prop} (ts : List T) (vs : List V) (h : ∀ F H σ Q ds o, Ex F H → Reps K F ds vs → f ds = some o → OutOk K F H Q o → te σ H Q) :
    SndX K W (ts.map some) (vs.map some) plT pmT (fun _ _ => True) te (opM f ts) := by
  intro G F H ρ σ us ws Q r ρ' j hl ht hm k
  unfold opM at hm
  cases hf : frzs ts with
  | none => rw [hf] at hm; cases hm
  | some ds =>
    rw [hf] at hm
    unfold frzs at hf
    by_cases hb : ts.any T.brw = true
    · rw [if_pos hb] at hf; cases hf
    · rw [if_neg hb] at hf
      cases hf
      rw [← List.append_assoc, ← List.append_assoc] at j
      obtain ⟨F1, x1, j1, r1⟩ := j.freezes (by simp [hl, ht]) (by simpa using hb)
      have j2 := j1.pre (by simp [hl, ht])
      have hm2 : outM (f (ts.map T.fz)) ρ = some (r, ρ') := hm
      cases hq : f (ts.map T.fz) with
      | none => rw [hq] at hm2; cases hm2
      | some o =>
        rw [hq] at hm2
        refine h F1 H σ Q _ o j2.ex r1 hq ?_
        cases o with
        | dt d =>
          cases hm2
          intro v F' H' e1 e2 e3 e4 rd
          have j3 := j2.grow e1 e2 e3 e4
          exact k v F' H' (x1.trans e1) hl trivial (by rw [← List.append_assoc, ← List.append_assoc]; exact j3.dat rd)
        | nl xs =>
          cases hm2
          intro p vs hp rd
          refine k (.ref p) F1 _ x1 hl trivial ?_
          rw [← List.append_assoc, ← List.append_assoc]
          exact j2.push hp rfl rfl ⟨p, vs, rfl, j2.ex.back hp, upd_same, rd⟩
/-- leaving a value as it is -/
theorem snd_keep {t : T} {v : V} : SndX K W [some t] [some v] plT pmT (fun _ _ => True) (fun σ H Q => Q v H) (ret t) := by
  intro G F H ρ σ us ws Q r ρ' j hl ht hm k
  cases hm
  exact k v F H Ex.rfl hl trivial j
end

/-! ### judgements -/
def SE (X : Cx) (W : WX) (e : Expr) (m : Mo T) : Prop := ∃ te, PE X e te ∧ SndE X.K W te m
def SC (X : Cx) (W : WX) (e : Expr) (m : Mo Bool) : Prop := ∃ tt, PT X e tt ∧ SndT X.K W tt m
def SCw (X : Cx) (W : WX) (e : Expr) (m : Mo Bool) : Prop := ∃ tt, PW X e tt ∧ SndT X.K W tt m
def SA (X : Cx) (W : WX) (es : List Expr) (m : Mo (List T)) : Prop := ∃ ta, PA X es ta ∧ SndA X.K W ta m
def SO (X : Cx) (W : WX) (e : Option Expr) (m : Mo (Option Int)) : Prop := ∃ to, PO X e to ∧ SndO X.K W to m
section
variable {X : Cx} {W : WX} {a b c e : Expr} {es : List Expr} {ma mb mc : Mo T} {pos : Pos}
/-! #### names, constants -/
def eVar (i : Nat) : Mo T := fun ρ => match ρ[i]? with
  | some (some t) => if t.brw = true then none else some (.ok (.dat t.fz), ρ.set i (some (.dat t.fz)))
  | _ => none
theorem snd_var {K : PySem.W.Frag} {i : Nat} : SndE K W (tVar i) (eVar i) := by
  intro G F H ρ σ us ws Q r ρ' j hl ht hm k
  unfold eVar at hm
  cases hq : ρ[i]? with
  | none => rw [hq] at hm; cases hm
  | some ot =>
    cases ot with
    | none => rw [hq] at hm; cases hm
    | some t =>
      rw [hq] at hm
      simp only at hm
      by_cases hb : t.brw = true
      · rw [if_pos hb] at hm; cases hm
      · rw [if_neg hb] at hm
        cases hm
        have hi : i < ρ.length := (List.getElem?_eq_some_iff.mp hq).1
        simp only [List.append_nil] at j
        have hq' : (ρ ++ us)[i]? = some (some t) := by rw [List.getElem?_append_left hi]; exact hq
        obtain ⟨F', v, x1, m1, rd, j1⟩ := j.freeze hq' (by simpa using hb)
        rw [List.getElem?_append_left (by rw [← hl]; exact hi)] at m1
        refine ⟨v, m1, k v F' H x1 (by simpa using hl) trivial ?_⟩
        have e2 : (ρ ++ us).set i (some (.dat t.fz)) = ρ.set i (some (.dat t.fz)) ++ us := List.set_append_left _ _ hi
        rw [e2] at j1
        rw [← List.append_assoc, ← List.append_assoc]
        exact j1.dat rd
theorem se_var (i : Nat) {x : Str} (hN : X.N[i]? = some x := by rfl) (hv : Vis X.env.scope x := by first | exact Or.inl rfl | exact Or.inr (Or.inl rfl) | exact Or.inr (Or.inr rfl)) (hd : (x == ("__debug__" : Str)) = false := by decide)
    (hcd : (x == ("__classdict__" : Str)) = false := by decide) : SE X W (.Name x pos) (eVar i) := ⟨_, pe_var hN hv hd hcd, snd_var⟩
def eC (d : D) : Mo T := ret (.dat d)
theorem snd_c {K : PySem.W.Frag} {d : D} {v : V} (h : ∀ F, Rep K F d v) : SndE K W (tC v) (eC d) := by
  intro G F H ρ σ us ws Q r ρ' j hl ht hm k
  cases hm
  simp only [List.append_nil] at j
  exact k v F H Ex.rfl hl trivial (by rw [← List.append_assoc, ← List.append_assoc]; exact j.dat (h F))
theorem se_int {i j} : SE X W (.Constant (.int i) j pos) (eC (.int i)) := ⟨_, pe_int, snd_c fun _ => rep_int⟩
theorem se_bl {i j} : SE X W (.Constant (.bool i) j pos) (eC (.bl i)) := ⟨_, pe_bl, snd_c fun _ => rep_bl⟩
theorem se_non {j} : SE X W (.Constant .none j pos) (eC .non) := ⟨_, pe_non, snd_c fun _ => rep_non⟩
theorem se_str {x j} : SE X W (.Constant (.str x) j pos) (eC (.str x)) := ⟨_, pe_str, snd_c fun _ => rep_str⟩
/-- a module's name for data -/
structure GlD (X : Cx) (x : Str) (d : D) : Prop where
  ex : ∃ u v, X.mg x = some u ∧ RelV v u ∧ ∀ F, Rep X.K F d v
theorem se_glob {x : Str} {d : D} (h : GlD X x d) (hg : Gl X x := by rfl) (hd : (x == ("__debug__" : Str)) = false := by decide) : SE X W (.Name x pos) (eC d) := by
  obtain ⟨u, v, h1, h2, h3⟩ := h.ex
  exact ⟨_, pe_glob hg h1 h2 hd, snd_c h3⟩

/-! #### two-place operations -/
def two (f : D → D → Option Out) : List D → Option Out
  | [d, e] => f d e
  | _ => none
def one (f : D → Option Out) : List D → Option Out
  | [d] => f d
  | _ => none
def bin (f : D → D → Option Out) (ma mb : Mo T) : Mo T := bnd ma fun x => bnd mb fun y => opM (two f) [x, y]
def una (f : D → Option Out) (ma : Mo T) : Mo T := bnd ma fun x => opM (one f) [x]
def Op2 (K : PySem.W.Frag) (r : R2) (f : D → D → Option Out) : Prop := ∀ F H Q x y d e o, Ex F H → Rep K F d x → Rep K F e y → f d e = some o → OutOk K F H Q o → r x y H Q
def Op1 (K : PySem.W.Frag) (r : V → Hp → VK → Prop) (f : D → Option Out) : Prop := ∀ F H Q x d o, Ex F H → Rep K F d x → f d = some o → OutOk K F H Q o → r x H Q
theorem reps2 {K : PySem.W.Frag} {F : Hp} {ds : List D} {x y : V} (h : Reps K F ds [x, y]) : ∃ d e, ds = [d, e] ∧ Rep K F d x ∧ Rep K F e y := by
  match ds, h with
  | [], h => unfold Reps at h; cases h
  | [d], h => unfold Reps at h; obtain ⟨v, r, e, _, t⟩ := h; cases e; unfold Reps at t; cases t
  | [d, e], h => unfold Reps at h; obtain ⟨v, r, e, a, t⟩ := h; cases e; unfold Reps at t; obtain ⟨v, r, e, b, t⟩ := t; cases e; exact ⟨_, _, rfl, a, b⟩
  | d :: e :: f :: g, h => have := h.len; simp at this
theorem reps1 {K : PySem.W.Frag} {F : Hp} {ds : List D} {x : V} (h : Reps K F ds [x]) : ∃ d, ds = [d] ∧ Rep K F d x := by
  match ds, h with
  | [], h => unfold Reps at h; cases h
  | [d], h => unfold Reps at h; obtain ⟨v, r, e, a, t⟩ := h; cases e; exact ⟨_, rfl, a⟩
  | d :: f :: g, h => have := h.len; simp at this
theorem snd_two {K : PySem.W.Frag} {r : R2} {f : D → D → Option Out} (h : Op2 K r f) {t u : T} {x y : V} : SndX K W [some t, some u] [some x, some y] plT pmT (fun _ _ => True) (fun σ H Q => r x y H Q) (opM (two f) [t, u]) := by
  refine snd_out (f := two f) [t, u] [x, y] fun F H σ Q ds o e rd hf q => ?_
  obtain ⟨d, e', rfl, r1, r2⟩ := reps2 rd
  exact h F H Q x y d e' o e r1 r2 hf q
theorem snd_one {K : PySem.W.Frag} {r : V → Hp → VK → Prop} {f : D → Option Out} (h : Op1 K r f) {t : T} {x : V} : SndX K W [some t] [some x] plT pmT (fun _ _ => True) (fun σ H Q => r x H Q) (opM (one f) [t]) := by
  refine snd_out (f := one f) [t] [x] fun F H σ Q ds o e rd hf q => ?_
  obtain ⟨d, rfl, r1⟩ := reps1 rd
  exact h F H Q x d o e r1 hf q
theorem snd_bin {K : PySem.W.Frag} {r : R2} {f : D → D → Option Out} {ta tb : TE} (h : Op2 K r f) (ha : SndE K W ta ma) (hb : SndE K W tb mb) : SndE K W (tOp r ta tb) (bin f ma mb) :=
  SndX.bnd (t2 := fun x σ H Q => tb σ H fun y H2 => r x y H2 Q) rfl ha fun t x _ => SndX.bnd (L0 := [some t]) (M0 := [some x]) (t2 := fun y σ H Q => r x y H Q) rfl hb fun u y _ => snd_two h
theorem snd_una {K : PySem.W.Frag} {r : V → Hp → VK → Prop} {f : D → Option Out} {ta : TE} (h : Op1 K r f) (ha : SndE K W ta ma) : SndE K W (tUn r ta) (una f ma) :=
  SndX.bnd (t2 := fun x σ H Q => r x H Q) rfl ha fun t x _ => snd_one h
theorem se_bin {op : Operator} {r : R2} {f : D → D → Option Out} (ho : OpR X (binaryOp op) r) (h : Op2 X.K r f) (ha : SE X W a ma) (hb : SE X W b mb) : SE X W (.BinOp a op b pos) (bin f ma mb) := by
  obtain ⟨ta, pa, sa⟩ := ha
  obtain ⟨tb, pb, sb⟩ := hb
  exact ⟨_, pe_op ho pa pb, snd_bin h sa sb⟩
theorem se_un {op : UnaryOp} {r : V → Hp → VK → Prop} {f : D → Option Out} (ho : UnR X (unaryOp op) r) (h : Op1 X.K r f) (ha : SE X W a ma) : SE X W (.UnaryOp op a pos) (una f ma) := by
  obtain ⟨ta, pa, sa⟩ := ha
  exact ⟨_, pe_un ho pa, snd_una h sa⟩
theorem se_cmp {op : CmpOp} {r : R2} {f : D → D → Option Out} (ho : OpR X (compareOp op) r) (h : Op2 X.K r f) (hm : behindInMarks op b = false) (ha : SE X W a ma) (hb : SE X W b mb) : SE X W (.Compare a [op] [b] pos) (bin f ma mb) := by
  obtain ⟨ta, pa, sa⟩ := ha
  obtain ⟨tb, pb, sb⟩ := hb
  exact ⟨_, pe_cmpR ho pa pb hm, snd_bin h sa sb⟩
/-! #### tests -/
def asB : T → Mo Bool
  | .dat (.bl b) => ret b
  | _ => nop
def tst (m : Mo T) : Mo Bool := bnd m asB
theorem snd_asB {K : PySem.W.Frag} {t : T} {x : V} : SndX K W [some t] [some x] (fun _ => []) (fun _ => []) (fun (a b : Bool) => b = a) (fun σ H Q => ∃ c, x = .bl c ∧ Q c H) (asB t) := by
  intro G F H ρ σ us ws Q r ρ' j hl ht hm k
  have hk : ∀ b, t = .dat (.bl b) → (∃ c, x = .bl c ∧ Q c H) := fun b hb => by
    subst hb
    cases hm
    have e1 : (ρ ++ (us ++ [some (T.dat (.bl b))]))[ρ.length + us.length]? = some (some (.dat (.bl b))) := by
      rw [← List.append_assoc, List.getElem?_append_right (by simp)]; simp
    obtain ⟨v, m1, r1, _⟩ := j.ok _ _ e1
    have e2 : (σ ++ (ws ++ [some x]))[ρ.length + us.length]? = some (some x) := by
      rw [← List.append_assoc, List.getElem?_append_right (by simp [hl, ht])]; simp [hl, ht]
    rw [e2] at m1; cases m1
    have r2 : x = .bl b := by
      have : Rep K F (.bl b) x := r1
      unfold Rep at this; exact this
    refine ⟨b, r2, k b F H Ex.rfl hl rfl ?_⟩
    simpa using app_pre j hl ht
  match t with
  | .dat (.bl b) => exact hk b rfl
  | .dat .non => cases hm
  | .dat (.int _) => cases hm
  | .dat (.str _) => cases hm
  | .dat (.tup _) => cases hm
  | .dat (.lst _) => cases hm
  | .dat (.scr _) => cases hm
  | .dat (.obj _ _ _) => cases hm
  | .lst _ _ => cases hm
  | .ins _ _ _ _ => cases hm
theorem snd_tst {K : PySem.W.Frag} {te : TE} (h : SndE K W te ma) : SndT K W (tB te) (tst ma) := SndX.bnd (t2 := fun x σ H Q => ∃ c, x = .bl c ∧ Q c H) rfl h fun t x _ => snd_asB
theorem sc_val (h : SE X W e ma) (he : ∀ whole, isTrue e X.env whole = (do let v ← whole; standAt e.pos; holding [v] (truthy v)) := by intro _; rfl) : SC X W e (tst ma) := by
  obtain ⟨te, pe, se⟩ := h
  exact ⟨_, pt_val pe he, snd_tst se⟩
theorem sc_cmp {op : CmpOp} {r : R2} {f : D → D → Option Out} (ho : OpR X (compareOp op) r) (h : Op2 X.K r f) (hm : behindInMarks op b = false) (ha : SE X W a ma) (hb : SE X W b mb) : SC X W (.Compare a [op] [b] pos) (tst (bin f ma mb)) := by
  obtain ⟨ta, pa, sa⟩ := ha
  obtain ⟨tb, pb, sb⟩ := hb
  exact ⟨_, pt_cmpR ho pa pb hm, snd_tst (snd_bin h sa sb)⟩
def cAnd (m n : Mo Bool) : Mo Bool := bnd m fun b => if b = true then n else ret false
def cOr (m n : Mo Bool) : Mo Bool := bnd m fun b => if b = true then ret true else n
def cNot (m : Mo Bool) : Mo Bool := bnd m fun b => ret (!b)
theorem snd_retB {K : PySem.W.Frag} {b : Bool} : SndT K W (fun σ H Q => Q b H) (ret b) := by
  intro G F H ρ σ us ws Q r ρ' j hl ht hm k
  cases hm
  exact k b F H Ex.rfl hl rfl j
theorem snd_and {K : PySem.W.Frag} {t u : TT} {m n : Mo Bool} (h1 : SndT K W t m) (h2 : SndT K W u n) : SndT K W (tAnd t u) (cAnd m n) :=
  SndX.bnd (t2 := fun c σ H Q => if c = true then u σ H Q else Q false H) rfl h1 fun a b e => by
    subst e
    cases b with
    | true => exact h2
    | false => exact snd_retB
theorem snd_or {K : PySem.W.Frag} {t u : TT} {m n : Mo Bool} (h1 : SndT K W t m) (h2 : SndT K W u n) : SndT K W (tOr t u) (cOr m n) :=
  SndX.bnd (t2 := fun c σ H Q => if c = true then Q true H else u σ H Q) rfl h1 fun a b e => by
    subst e
    cases b with
    | true => exact snd_retB
    | false => exact h2
theorem snd_not {K : PySem.W.Frag} {t : TT} {m : Mo Bool} (h1 : SndT K W t m) : SndT K W (tNot t) (cNot m) :=
  SndX.bnd (t2 := fun c σ H Q => Q (!c) H) rfl h1 fun a b e => by
    subst e
    exact snd_retB
variable {rest : List Expr} {na nb : Mo Bool}
theorem sw_and1 (h : SC X W a na) : SCw X W (.BoolOp .And [a] pos) na := by obtain ⟨t, p, s⟩ := h; exact ⟨_, pw_and1 p, s⟩
theorem sw_or1 (h : SC X W a na) : SCw X W (.BoolOp .Or [a] pos) na := by obtain ⟨t, p, s⟩ := h; exact ⟨_, pw_or1 p, s⟩
theorem sw_and (h : SC X W a na) (g : SCw X W (.BoolOp .And (b :: rest) pos) nb) : SCw X W (.BoolOp .And (a :: b :: rest) pos) (cAnd na nb) := by
  obtain ⟨t, p, s⟩ := h
  obtain ⟨u, q, z⟩ := g
  exact ⟨_, pw_and p q, snd_and s z⟩
theorem sw_or (h : SC X W a na) (g : SCw X W (.BoolOp .Or (b :: rest) pos) nb) : SCw X W (.BoolOp .Or (a :: b :: rest) pos) (cOr na nb) := by
  obtain ⟨t, p, s⟩ := h
  obtain ⟨u, q, z⟩ := g
  exact ⟨_, pw_or p q, snd_or s z⟩
theorem sc_w (h : SCw X W e na) : SC X W e na := by obtain ⟨t, p, s⟩ := h; exact ⟨_, p.pt, s⟩
theorem sc_not (h : SC X W a na) : SC X W (.UnaryOp .Not a pos) (cNot na) := by obtain ⟨t, p, s⟩ := h; exact ⟨_, pt_not p, snd_not s⟩
/-! as values -/
def eAnd (m n : Mo T) : Mo T := bnd m fun t => bnd (asB t) fun b => if b = true then n else ret (.dat (.bl false))
def eOr (m n : Mo T) : Mo T := bnd m fun t => bnd (asB t) fun b => if b = true then ret (.dat (.bl true)) else n
def eNot (m : Mo T) : Mo T := bnd m fun t => bnd (asB t) fun b => ret (.dat (.bl !b))
theorem snd_c0 {K : PySem.W.Frag} {b : Bool} : SndE K W (fun σ H Q => Q (.bl b) H) (ret (.dat (.bl b))) := snd_c (W := W) fun _ => rep_bl
theorem SndX.pre {α β α' β' : Type} {K : PySem.W.Frag} {L0 : Sl} {M0 : St} {pl : α → Sl} {pm : β → St} {eq : α → β → Prop} {pl' : α' → Sl} {pm' : β' → St} {eq' : α' → β' → Prop} {t1 : St → Hp → (β → Hp → Prop) → Prop} {m1 : Mo α}
    {t2 : β → St → Hp → (β' → Hp → Prop) → Prop} {m2 : α → Mo α'} (hL : L0.length = M0.length) (h1 : SndX K W L0 M0 pl pm eq t1 m1)
    (h2 : ∀ a b, eq a b → SndX K W (pl a) (pm b) pl' pm' eq' (t2 b) (m2 a)) : SndX K W L0 M0 pl' pm' eq' (fun σ H Q => t1 σ H fun b H1 => t2 b σ H1 Q) (SL.bnd m1 m2) := by
  intro G F H ρ σ ts vs Q r ρ' j hl ht hm k
  unfold SL.bnd at hm
  cases e : m1 ρ with
  | none => rw [e] at hm; cases hm
  | some p =>
    obtain ⟨r1, ρ1⟩ := p
    rw [e] at hm
    refine h1 G F H ρ σ ts vs _ r1 ρ1 j hl ht e ?_
    cases r1 with
    | exc x =>
      cases hm
      intro c d F' H' e1 l1 j1 x1
      exact k c d F' H' e1 l1 j1 x1
    | ok a =>
      intro b F' H' e1 l1 q j1
      refine h2 a b q G F' H' ρ1 σ ts vs Q r ρ' j1 l1 ht hm ?_
      cases r with
      | ok a2 => exact fun b2 F2 H2 e2 l2 q2 j2 => k b2 F2 H2 (e1.trans e2) l2 q2 j2
      | exc x => exact fun c d F2 H2 e2 l2 j2 x2 => k c d F2 H2 (e1.trans e2) l2 j2 x2
theorem SndX.cg {α β : Type} {K : PySem.W.Frag} {L0 : Sl} {M0 : St} {pl : α → Sl} {pm : β → St} {eq : α → β → Prop} {t t' : St → Hp → (β → Hp → Prop) → Prop} {m : Mo α} (h : SndX K W L0 M0 pl pm eq t m) (ht : ∀ σ H Q, t σ H Q → t' σ H Q) : SndX K W L0 M0 pl pm eq t' m :=
  fun G F H ρ σ ts vs Q r ρ' j hl hv hm k => ht _ _ _ (h G F H ρ σ ts vs Q r ρ' j hl hv hm k)
theorem snd_andV {K : PySem.W.Frag} {ta tb : TE} (h1 : SndE K W ta ma) (h2 : SndE K W tb mb) : SndE K W (tAndV ta tb) (eAnd ma mb) :=
  SndX.bnd (t2 := fun x σ H Q => ∃ c, x = .bl c ∧ if c = true then tb σ H Q else Q (.bl false) H) rfl h1 fun t x _ =>
    (SndX.pre (t1 := fun σ H Q => ∃ c, x = .bl c ∧ Q c H) (t2 := fun c σ H Q => if c = true then tb σ H Q else Q (.bl false) H) rfl snd_asB fun a b e => by
      subst e
      cases b with
      | true => exact h2
      | false => exact snd_c0)
theorem snd_orV {K : PySem.W.Frag} {ta tb : TE} (h1 : SndE K W ta ma) (h2 : SndE K W tb mb) : SndE K W (tOrV ta tb) (eOr ma mb) :=
  SndX.bnd (t2 := fun x σ H Q => ∃ c, x = .bl c ∧ if c = true then Q (.bl true) H else tb σ H Q) rfl h1 fun t x _ =>
    (SndX.pre (t1 := fun σ H Q => ∃ c, x = .bl c ∧ Q c H) (t2 := fun c σ H Q => if c = true then Q (.bl true) H else tb σ H Q) rfl snd_asB fun a b e => by
      subst e
      cases b with
      | true => exact snd_c0
      | false => exact h2)
theorem snd_notV {K : PySem.W.Frag} {ta : TE} (h1 : SndE K W ta ma) : SndE K W (tNotV ta) (eNot ma) :=
  SndX.bnd (t2 := fun (x : V) σ H (Q : VK) => ∃ c, x = .bl c ∧ Q (.bl (!c)) H) rfl h1 fun t x _ =>
    (SndX.pre (t1 := fun σ H Q => ∃ c, x = .bl c ∧ Q c H) (t2 := fun (c : Bool) σ H (Q : VK) => Q (.bl (!c)) H) rfl snd_asB fun a b e => by
      subst e
      exact snd_c0)
theorem se_one {op} (h : SE X W a ma) : SE X W (.BoolOp op [a] pos) ma := by obtain ⟨t, p, s⟩ := h; exact ⟨_, pe_one p, s⟩
theorem se_and (h : SE X W a ma) (g : SE X W (.BoolOp .And (b :: rest) pos) mb) : SE X W (.BoolOp .And (a :: b :: rest) pos) (eAnd ma mb) := by
  obtain ⟨t, p, s⟩ := h
  obtain ⟨u, q, z⟩ := g
  exact ⟨_, pe_and p q, snd_andV s z⟩
theorem se_or (h : SE X W a ma) (g : SE X W (.BoolOp .Or (b :: rest) pos) mb) : SE X W (.BoolOp .Or (a :: b :: rest) pos) (eOr ma mb) := by
  obtain ⟨t, p, s⟩ := h
  obtain ⟨u, q, z⟩ := g
  exact ⟨_, pe_or p q, snd_orV s z⟩
theorem se_not (h : SE X W a ma) : SE X W (.UnaryOp .Not a pos) (eNot ma) := by obtain ⟨t, p, s⟩ := h; exact ⟨_, pe_not p, snd_notV s⟩
def eIf (c : Mo Bool) (m n : Mo T) : Mo T := bnd c fun b => if b = true then m else n
theorem snd_if {K : PySem.W.Frag} {t : TT} {ta tb : TE} (h : SndT K W t na) (h1 : SndE K W ta ma) (h2 : SndE K W tb mb) : SndE K W (tIf t ta tb) (eIf na ma mb) :=
  SndX.bnd (t2 := fun c σ H Q => if c = true then ta σ H Q else tb σ H Q) rfl h fun a b e => by
    subst e
    cases b with
    | true => exact h1
    | false => exact h2
theorem se_if (h : SC X W c na) (h1 : SE X W a ma) (h2 : SE X W b mb) : SE X W (.IfExp c a b pos) (eIf na ma mb) := by
  obtain ⟨t, p, s⟩ := h
  obtain ⟨u, q, z⟩ := h1
  obtain ⟨v, q2, z2⟩ := h2
  exact ⟨_, pe_ifExp p q q2, snd_if s z z2⟩
/-! #### argument lists, displays -/
def aCons (m : Mo T) (n : Mo (List T)) : Mo (List T) := bnd m fun t => bnd n fun ts => ret (t :: ts)
theorem sa_nil : SA X W [] (ret []) := ⟨_, pa_nil, fun G F H ρ σ us ws Q r ρ' j hl ht hm k => by
  cases hm
  exact k [] F H Ex.rfl hl rfl j⟩
theorem snd_cons {K : PySem.W.Frag} {te : TE} {ta : TA} {n : Mo (List T)} (h1 : SndE K W te ma) (h2 : SndA K W ta n) : SndA K W (tCons te ta) (aCons ma n) :=
  SndX.bnd (t2 := fun x σ H Q => ta σ H fun xs H2 => Q (x :: xs) H2) rfl h1 fun t x _ =>
    SndX.bnd (L0 := [some t]) (M0 := [some x]) (t2 := fun xs σ H Q => Q (x :: xs) H) rfl h2 fun us xs e => by
      intro G F H ρ σ ts vs Q r ρ' j hl ht hm k
      cases hm
      exact k (x :: xs) F H Ex.rfl hl (by simp [e]) j
theorem sa_cons {n : Mo (List T)} (h : SE X W e ma) (g : SA X W es n) (hs : starEach (e :: es) X.env = (false, eval e X.env) :: starEach es X.env := by rfl) : SA X W (e :: es) (aCons ma n) := by
  obtain ⟨t, p, s⟩ := h
  obtain ⟨u, q, z⟩ := g
  exact ⟨_, pa_cons p q hs, snd_cons s z⟩
def few (f : List D → Out) : List D → Option Out := fun ds => if ds.length ≤ 100000 then some (f ds) else none
def eTup (n : Mo (List T)) : Mo T := bnd n (opM (few fun ds => .dt (.tup ds)))
def eLst (n : Mo (List T)) : Mo T := bnd n (opM (few fun ds => .nl ds))
theorem se_tup {n : Mo (List T)} {x1} (h : SA X W es n) : SE X W (.Tuple es x1 pos) (eTup n) := by
  obtain ⟨t, p, s⟩ := h
  refine ⟨_, pe_tup p, SndX.bnd (t2 := fun (xs : List V) σ H (Q : VK) => xs.length ≤ sizeLine ∧ ∀ p, H p = none → Q (.ref p) (upd H p (.tup xs))) rfl s fun us xs _ => ?_⟩
  refine snd_out us xs fun F H σ Q ds o e rd hf q => ?_
  unfold few at hf
  by_cases hz : ds.length ≤ 100000
  · rw [if_pos hz] at hf
    cases hf
    exact ⟨by rw [rd.len]; exact big_line hz, fun p hp => q.tup e rd hp⟩
  · rw [if_neg hz] at hf; cases hf
theorem se_lst {n : Mo (List T)} (h : SA X W es n) : SE X W (.List es pos) (eLst n) := by
  obtain ⟨t, p, s⟩ := h
  refine ⟨_, pe_lst p, SndX.bnd (t2 := fun (xs : List V) σ H (Q : VK) => xs.length ≤ sizeLine ∧ ∀ p, H p = none → Q (.ref p) (upd H p (.lst xs))) rfl s fun us xs _ => ?_⟩
  refine snd_out us xs fun F H σ Q ds o e rd hf q => ?_
  unfold few at hf
  by_cases hz : ds.length ≤ 100000
  · rw [if_pos hz] at hf
    cases hf
    exact ⟨by rw [rd.len]; exact big_line hz, fun p hp => q p xs hp rd⟩
  · rw [if_neg hz] at hf; cases hf
/-! #### calls of built-ins -/
def CallOk (K : PySem.W.Frag) (r : List V → Hp → VK → Prop) (f : List D → Option Out) : Prop := ∀ F H Q vs ds o, Ex F H → Reps K F ds vs → f ds = some o → OutOk K F H Q o → r vs H Q
def eB (f : List D → Option Out) (n : Mo (List T)) : Mo T := bnd n (opM f)
theorem snd_B {K : PySem.W.Frag} {r : List V → Hp → VK → Prop} {f : List D → Option Out} {ta : TA} {n : Mo (List T)} (h : CallOk K r f) (s : SndA K W ta n) : SndE K W (tCB r ta) (eB f n) :=
  SndX.bnd (t2 := fun vs σ H Q => r vs H Q) rfl s fun us xs _ => snd_out us xs fun F H σ Q ds o e rd hf q => h F H Q xs ds o e rd hf q
theorem se_B {id : String} {x : Str} {p : Pos} {r : List V → Hp → VK → Prop} {f : List D → Option Out} {n : Mo (List T)} (hc : CallR X (.builtin id) r) (h : CallOk X.K r f) (hm : X.mg x = none) (hv : bootBuiltins x = some (.builtin id)) (g : SA X W (e :: es) n) (hg : Gl X x := by rfl)
    (hn : x ≠ "__name__" := by decide) (hd : (x == ("__debug__" : Str)) = false := by decide) (he : starEach (e :: es) X.env = (false, eval e X.env) :: starEach es X.env := by rfl) (hpl : (backTo pos (starEach es X.env)).any (·.1) = false := by rfl) :
    SE X W (.Call (.Name x p) (e :: es) [] pos) (eB f n) := by
  obtain ⟨t, pa, s⟩ := g
  exact ⟨_, pe_callB hc hg hm hv pa hn hd he hpl, snd_B h s⟩
theorem se_Ty {id : String} {x : Str} {p : Pos} {r : List V → Hp → VK → Prop} {f : List D → Option Out} {n : Mo (List T)} (hc : CallR X (.type id) r) (h : CallOk X.K r f) (hm : X.mg x = none) (hv : bootBuiltins x = some (.type id)) (g : SA X W (e :: es) n) (hg : Gl X x := by rfl)
    (hn : x ≠ "__name__" := by decide) (hd : (x == ("__debug__" : Str)) = false := by decide) (he : starEach (e :: es) X.env = (false, eval e X.env) :: starEach es X.env := by rfl) (hpl : (backTo pos (starEach es X.env)).any (·.1) = false := by rfl) :
    SE X W (.Call (.Name x p) (e :: es) [] pos) (eB f n) := by
  obtain ⟨t, pa, s⟩ := g
  exact ⟨_, pe_callTy hc hg hm hv pa hn hd he hpl, snd_B h s⟩
/-! #### subscripts, slices -/
theorem se_ix {r : R2} {f : D → D → Option Out} (hr : IxR X r) (h : Op2 X.K r f) (ha : SE X W a ma) (hb : SE X W b mb) (hs : PlainIx b := by intro _ _; rfl) : SE X W (.Subscript a b pos) (bin f ma mb) := by
  obtain ⟨ta, pa, sa⟩ := ha
  obtain ⟨tb, pb, sb⟩ := hb
  exact ⟨_, pe_ix hr pa pb hs, snd_bin h sa sb⟩
def asI : T → Mo (Option Int)
  | .dat (.int i) => ret (some i)
  | _ => nop
def oSome (m : Mo T) : Mo (Option Int) := bnd m asI
theorem so_none : SO X W none (ret none) := ⟨_, po_none, fun G F H ρ σ us ws Q r ρ' j hl ht hm k => by
  cases hm
  exact k none F H Ex.rfl hl rfl j⟩
theorem snd_asI {K : PySem.W.Frag} {t : T} {x : V} : SndX K W [some t] [some x] (fun _ => []) (fun _ => []) (fun (a b : Option Int) => b = a) (fun σ H Q => ∃ i, x = .int i ∧ Q (some i) H) (asI t) := by
  intro G F H ρ σ us ws Q r ρ' j hl ht hm k
  have hk : ∀ b, t = .dat (.int b) → (∃ c, x = .int c ∧ Q (some c) H) := fun b hb => by
    subst hb
    cases hm
    have e1 : (ρ ++ (us ++ [some (T.dat (.int b))]))[ρ.length + us.length]? = some (some (.dat (.int b))) := by
      rw [← List.append_assoc, List.getElem?_append_right (by simp)]; simp
    obtain ⟨v, m1, r1, _⟩ := j.ok _ _ e1
    have e2 : (σ ++ (ws ++ [some x]))[ρ.length + us.length]? = some (some x) := by
      rw [← List.append_assoc, List.getElem?_append_right (by simp [hl, ht])]; simp [hl, ht]
    rw [e2] at m1; cases m1
    have r2 : x = .int b := by
      have : Rep K F (.int b) x := r1
      unfold Rep at this; exact this
    refine ⟨b, r2, k (some b) F H Ex.rfl hl rfl ?_⟩
    simpa using app_pre j hl ht
  match t with
  | .dat (.int b) => exact hk b rfl
  | .dat .non => cases hm
  | .dat (.bl _) => cases hm
  | .dat (.str _) => cases hm
  | .dat (.tup _) => cases hm
  | .dat (.lst _) => cases hm
  | .dat (.scr _) => cases hm
  | .dat (.obj _ _ _) => cases hm
  | .lst _ _ => cases hm
  | .ins _ _ _ _ => cases hm
theorem so_some (h : SE X W e ma) : SO X W (some e) (oSome ma) := by
  obtain ⟨te, pe, se⟩ := h
  exact ⟨_, po_some pe, SndX.bnd (t2 := fun x σ H Q => ∃ i, x = .int i ∧ Q (some i) H) rfl se fun t x _ => snd_asI⟩
def eSl (f : D → Option Int → Option Int → Option Out) (m : Mo T) (ml mh : Mo (Option Int)) : Mo T := bnd m fun t => bnd ml fun lo => bnd mh fun hi => opM (one fun d => f d lo hi) [t]
def Sl3 (K : PySem.W.Frag) (r : V → Option Int → Option Int → Hp → VK → Prop) (f : D → Option Int → Option Int → Option Out) : Prop := ∀ F H Q x d lo hi o, Ex F H → Rep K F d x → f d lo hi = some o → OutOk K F H Q o → r x lo hi H Q
theorem se_sl {r : V → Option Int → Option Int → Hp → VK → Prop} {f : D → Option Int → Option Int → Option Out} {lo hi : Option Expr} {ml mh : Mo (Option Int)} {p2 : Pos} (hr : SlR X r) (h : Sl3 X.K r f) (he : SE X W e ma) (hl : SO X W lo ml) (hh : SO X W hi mh) :
    SE X W (.Subscript e (.Slice lo hi none p2) pos) (eSl f ma ml mh) := by
  obtain ⟨te, pe, se⟩ := he
  obtain ⟨tl, pl, sl⟩ := hl
  obtain ⟨th, ph, sh⟩ := hh
  refine ⟨_, pe_slice hr pe pl ph, SndX.bnd (t2 := fun x σ H1 Q => tl σ H1 fun l H2 => th σ H2 fun u H3 => r x l u H3 Q) rfl se fun t x _ => ?_⟩
  refine SndX.bnd (L0 := [some t]) (M0 := [some x]) (t2 := fun l σ H2 Q => th σ H2 fun u H3 => r x l u H3 Q) rfl sl fun l l' el => ?_
  subst el
  refine SndX.bnd (L0 := [some t] ++ []) (M0 := [some x] ++ []) (t2 := fun u σ H3 Q => r x l' u H3 Q) rfl sh fun u u' eu => ?_
  subst eu
  exact snd_one fun F H Q x d o e rd hf q => h F H Q x d l' u' o e rd hf q
end
end SL

set_option Elab.async false
set_option linter.all false
set_option maxRecDepth 100000
set_option maxHeartbeats 4000000
namespace SL
open PySem L2
/-! ### statements -/
inductive Fl where
  | next | brk | cont | ret (t : T) | exc (x : Xc)
abbrev So := Sl → Option (Fl × Sl)
def FlOk (K : PySem.W.Frag) (W : WX) (G : Gm) (F : Hp) (us : Sl) (ws : St) (D : Ends) (n : Nat) (ρ' : Sl) : Fl → Prop
  | .next => ∀ σ' F' H', Ex F F' → ρ'.length = n → σ'.length = n → J K G F' H' (ρ' ++ us) (σ' ++ ws) → D.nx σ' H'
  | .brk => ∀ σ' F' H', Ex F F' → ρ'.length = n → σ'.length = n → J K G F' H' (ρ' ++ us) (σ' ++ ws) → D.bk σ' H'
  | .cont => ∀ σ' F' H', Ex F F' → ρ'.length = n → σ'.length = n → J K G F' H' (ρ' ++ us) (σ' ++ ws) → D.ct σ' H'
  | .ret t => ∀ v σ' F' H', Ex F F' → ρ'.length = n → σ'.length = n → J K G F' H' (ρ' ++ (us ++ [some t])) (σ' ++ (ws ++ [some v])) → D.rt v H'
  | .exc x => ∀ c d σ' F' H', Ex F F' → ρ'.length = n → σ'.length = n → J K G F' H' (ρ' ++ us) (σ' ++ ws) → ExcR K F' x c d → W c d σ' H'
theorem FlOk.mono {K : PySem.W.Frag} {W : WX} {G : Gm} {F F1 : Hp} {us : Sl} {ws : St} {D : Ends} {n : Nat} {ρ' : Sl} {fl : Fl} (h : FlOk K W G F us ws D n ρ' fl) (e : Ex F F1) : FlOk K W G F1 us ws D n ρ' fl := by
  cases fl with
  | next => exact fun σ' F' H' a => h σ' F' H' (e.trans a)
  | brk => exact fun σ' F' H' a => h σ' F' H' (e.trans a)
  | cont => exact fun σ' F' H' a => h σ' F' H' (e.trans a)
  | ret t => exact fun v σ' F' H' a => h v σ' F' H' (e.trans a)
  | exc x => exact fun c d σ' F' H' a => h c d σ' F' H' (e.trans a)
def SndS (K : PySem.W.Frag) (W : WX) (t : TS) (s : So) : Prop :=
  ∀ (G : Gm) (F H : Hp) (ρ : Sl) (σ : St) (us : Sl) (ws : St) (D : Ends) (fl : Fl) (ρ' : Sl), J K G F H (ρ ++ us) (σ ++ ws) → ρ.length = σ.length → us.length = ws.length → s ρ = some (fl, ρ') → FlOk K W G F us ws D σ.length ρ' fl → t D σ H
def SS (X : Cx) (W : WX) (st : Stmt) (s : So) : Prop := ∃ t, PS X st t ∧ SndS X.K W t s
def SSs (X : Cx) (W : WX) (st : List Stmt) (s : So) : Prop := ∃ t, PSs X st t ∧ SndS X.K W t s
section
variable {X : Cx} {W : WX} {a b c e : Expr} {es : List Expr} {ma mb mc : Mo T} {pos : Pos} {st : Stmt} {rest sts : List Stmt} {s u : So} {na : Mo Bool} {K : PySem.W.Frag}
def sNext : So := fun ρ => some (.next, ρ)
def sSeq (s u : So) : So := fun ρ => match s ρ with
  | none => none
  | some (.next, ρ') => u ρ'
  | some (fl, ρ') => some (fl, ρ')
theorem snd_next : SndS K W tNext sNext := by
  intro G F H ρ σ us ws D fl ρ' j hl ht hm k
  cases hm
  exact k σ F H Ex.rfl hl rfl j
theorem snd_seq {t v : TS} (h1 : SndS K W t s) (h2 : SndS K W v u) : SndS K W (tSeq t v) (sSeq s u) := by
  intro G F H ρ σ us ws D fl ρ' j hl ht hm k
  unfold sSeq at hm
  cases e : s ρ with
  | none => rw [e] at hm; cases hm
  | some p =>
    obtain ⟨f1, ρ1⟩ := p
    rw [e] at hm
    refine h1 G F H ρ σ us ws { D with nx := v D } f1 ρ1 j hl ht e ?_
    cases f1 with
    | next =>
      intro σ' F' H' e1 l1 l2 j1
      refine h2 G F' H' ρ1 σ' us ws D fl ρ' j1 (l1.trans l2.symm) ht hm ?_
      rw [l2]; exact k.mono e1
    | brk => cases hm; exact k
    | cont => cases hm; exact k
    | ret t => cases hm; exact k
    | exc x => cases hm; exact k
theorem ss_pass : SS X W (.Pass pos) sNext := ⟨_, ps_pass, snd_next⟩
theorem ss_brk : SS X W (.Break pos) (fun ρ => some (.brk, ρ)) := ⟨_, ps_break, fun G F H ρ σ us ws D fl ρ' j hl ht hm k => by cases hm; exact k σ F H Ex.rfl hl rfl j⟩
theorem ss_cont : SS X W (.Continue pos) (fun ρ => some (.cont, ρ)) := ⟨_, ps_continue, fun G F H ρ σ us ws D fl ρ' j hl ht hm k => by cases hm; exact k σ F H Ex.rfl hl rfl j⟩
theorem sss_nil : SSs X W [] sNext := ⟨_, pss_nil, snd_next⟩
theorem sss_one (h : SS X W st s) : SSs X W [st] s := by obtain ⟨t, p, z⟩ := h; exact ⟨_, pss_one p, z⟩
theorem sss_cons (h : SS X W st s) (g : SSs X W rest u) : SSs X W (st :: rest) (sSeq s u) := by
  obtain ⟨t, p, z⟩ := h
  obtain ⟨v, q, y⟩ := g
  exact ⟨_, pss_cons p q, snd_seq z y⟩
/-- never come to -/
def sNo : So := fun _ => none
theorem snd_never : SndS K W tNever sNo := fun G F H ρ σ us ws D fl ρ' j hl ht hm k => by cases hm
theorem ss_never : SS X W st sNo := ⟨_, ps_never, snd_never⟩
/-! from an expression's function -/
def toS {α : Type} (m : Mo α) (f : α → So) : So := fun ρ => match m ρ with
  | none => none
  | some (.exc x, ρ') => some (.exc x, ρ')
  | some (.ok a, ρ') => f a ρ'
theorem SndX.toS {α β : Type} {pl : α → Sl} {pm : β → St} {eq : α → β → Prop} {t : St → Hp → (β → Hp → Prop) → Prop} {m : Mo α} {f : α → So} {tk : β → Ends → St → Hp → Prop} (h : SndX K W [] [] pl pm eq t m)
    (hk : ∀ a b, eq a b → ∀ G F H ρ σ us ws D fl ρ', J K G F H (ρ ++ (us ++ pl a)) (σ ++ (ws ++ pm b)) → ρ.length = σ.length → us.length = ws.length → f a ρ = some (fl, ρ') → FlOk K W G F us ws D σ.length ρ' fl → tk b D σ H) :
    SndS K W (fun D σ H => t σ H fun b H1 => tk b D σ H1) (toS m f) := by
  intro G F H ρ σ us ws D fl ρ' j hl ht hm k
  unfold SL.toS at hm
  cases e : m ρ with
  | none => rw [e] at hm; cases hm
  | some p =>
    obtain ⟨r1, ρ1⟩ := p
    rw [e] at hm
    refine h G F H ρ σ us ws _ r1 ρ1 (by simpa using j) hl ht e ?_
    cases r1 with
    | exc x =>
      cases hm
      exact fun c d F' H' e1 l1 j1 x1 => k c d σ F' H' e1 l1 rfl j1 x1
    | ok a =>
      intro b F' H' e1 l1 q j1
      exact hk a b q G F' H' ρ1 σ us ws D fl ρ' j1 l1 ht hm (k.mono e1)
def sDrop (m : Mo T) : So := toS m fun _ => sNext
theorem ss_expr (h : SE X W e ma) (hs : swapsWith e none pos.line X.env = pure false := by rfl) : SS X W (.Expr e pos) (sDrop ma) := by
  obtain ⟨t, p, z⟩ := h
  refine ⟨_, ps_expr p hs, z.toS (tk := fun _ D σ H => D.nx σ H) fun a b _ G F H ρ σ us ws D fl ρ' j hl ht hm k => ?_⟩
  cases hm
  exact k σ F H Ex.rfl hl rfl (app_pre j hl ht)
def sRet (m : Mo T) : So := toS m fun t ρ => some (.ret t, ρ)
theorem ss_ret (h : SE X W e ma) : SS X W (.Return (some e) pos) (sRet ma) := by
  obtain ⟨t, p, z⟩ := h
  refine ⟨_, ps_ret p, z.toS (tk := fun b D σ H => D.rt b H) fun a b _ G F H ρ σ us ws D fl ρ' j hl ht hm k => ?_⟩
  cases hm
  exact k b σ F H Ex.rfl hl rfl j
theorem ss_retN : SS X W (.Return none pos) (fun ρ => some (.ret (.dat .non), ρ)) := ⟨_, ps_retN, fun G F H ρ σ us ws D fl ρ' j hl ht hm k => by
  cases hm
  exact k .non σ F H Ex.rfl hl rfl (by rw [← List.append_assoc, ← List.append_assoc]; exact j.dat rep_non)⟩
def sIf (c : Mo Bool) (s u : So) : So := toS c fun b => if b = true then s else u
theorem ss_if {x y : List Stmt} (h : SC X W c na) (h1 : SSs X W x s) (h2 : SSs X W y u) : SS X W (.If c x y pos) (sIf na s u) := by
  obtain ⟨t, p, z⟩ := h
  obtain ⟨t1, p1, z1⟩ := h1
  obtain ⟨t2, p2, z2⟩ := h2
  refine ⟨_, ps_if p p1 p2, z.toS (tk := fun b D σ H => if b = true then t1 D σ H else t2 D σ H) fun a b e G F H ρ σ us ws D fl ρ' j hl ht hm k => ?_⟩
  subst e
  simp only [List.append_nil] at j
  cases b with
  | true => exact z1 G F H ρ σ us ws D fl ρ' j hl ht hm k
  | false => exact z2 G F H ρ σ us ws D fl ρ' j hl ht hm k
/-! #### stores to names -/
def sAsg (i : Nat) (m : Mo T) : So := toS m fun t ρ => if i < ρ.length then some (.next, ρ.set i (some t)) else none
theorem ss_set {i : Nat} {x : Str} {pos' : Pos} (hN : X.N.Nodup) (h : SE X W e ma) (hi : X.N[i]? = some x := by rfl) (hx : Loc X.env.scope x := by first | exact Or.inl rfl | exact Or.inr rfl) (hs : swapsWith e (some (.Name x pos')) pos.line X.env = pure false := by rfl)
    (hf : X.fn x = true ∨ X.env.scope.names.lookup x = some .local := by first | exact .inl rfl | exact .inr rfl) : SS X W (.Assign [.Name x pos'] e pos) (sAsg i ma) := by
  obtain ⟨t, p, z⟩ := h
  refine ⟨_, ps_set hN hi hx p hs hf, z.toS (tk := fun b D σ H => D.nx (σ.set i (some b)) H) fun a b _ G F H ρ σ us ws D fl ρ' j hl ht hm k => ?_⟩
  by_cases hi : i < ρ.length
  · simp only [if_pos hi] at hm
    cases hm
    refine k _ F H Ex.rfl (by simpa using hl) (by simp) ?_
    rw [← List.append_assoc, ← List.append_assoc] at j
    have j2 := j.take (i := i) (by simp [hl, ht])
    rw [List.set_append_left _ _ hi, List.set_append_left _ _ (by rw [← hl]; exact hi)] at j2
    exact j2
  · simp only [if_neg hi] at hm
    cases hm
/-! patterns -/
inductive Pat where
  | nm (i : Nat) | tp (ps : List Pat)
mutual
def asgP : Pat → D → Sl → Option Sl
  | .nm i, d, ρ => if i < ρ.length then some (ρ.set i (some (.dat d))) else none
  | .tp ps, .tup ds, ρ => asgPs ps ds ρ
  | .tp _, _, _ => none
def asgPs : List Pat → List D → Sl → Option Sl
  | [], [], ρ => some ρ
  | p :: ps, d :: ds, ρ => match asgP p d ρ with
    | none => none
    | some ρ' => asgPs ps ds ρ'
  | _, _, _ => none
end
mutual
def slotsP : Pat → List Nat
  | .nm i => [i]
  | .tp ps => slotsPs ps
def slotsPs : List Pat → List Nat
  | [] => []
  | p :: ps => slotsP p ++ slotsPs ps
end
def GOk (K : PySem.W.Frag) (g : TG) (p : Pat) : Prop := ∀ G F H ρ σ us ws d v ρ' Q, J K G F H (ρ ++ us) (σ ++ ws) → ρ.length = σ.length → Rep K F d v → asgP p d ρ = some ρ' →
  (∀ σ', σ'.length = σ.length → ρ'.length = ρ.length → (∀ k, k ∉ slotsP p → σ'[k]? = σ[k]?) → J K G F H (ρ' ++ us) (σ' ++ ws) → Q σ' H) → g v σ H Q
def GsOk (K : PySem.W.Frag) (g : TGs) (ps : List Pat) : Prop := ∀ G F H ρ σ us ws ds vs ρ' Q, J K G F H (ρ ++ us) (σ ++ ws) → ρ.length = σ.length → Reps K F ds vs → asgPs ps ds ρ = some ρ' →
  (∀ σ', σ'.length = σ.length → ρ'.length = ρ.length → (∀ k, k ∉ slotsPs ps → σ'[k]? = σ[k]?) → J K G F H (ρ' ++ us) (σ' ++ ws) → Q σ' H) → vs.length = ps.length ∧ g vs σ H Q
def SG (X : Cx) (tg : Expr) (p : Pat) : Prop := ∃ g, PG X tg g ∧ GOk X.K g p
def SGs (X : Cx) (tgs : List Expr) (ps : List Pat) : Prop := ∃ g, PGs X tgs g ∧ GsOk X.K g ps
theorem sg_nm {i : Nat} {x : Str} (hN : X.N.Nodup) (hi : X.N[i]? = some x := by rfl) (hx : Loc X.env.scope x := by first | exact Or.inl rfl | exact Or.inr rfl) (hf : X.fn x = true ∨ X.env.scope.names.lookup x = some .local := by first | exact .inl rfl | exact .inr rfl) : SG X (.Name x pos) (.nm i) := by
  refine ⟨_, pg_name hN hi hx hf, fun G F H ρ σ us ws d v ρ' Q j hl r hm k => ?_⟩
  unfold asgP at hm
  by_cases h : i < ρ.length
  · rw [if_pos h] at hm
    cases hm
    refine k _ (by simp) (by simp) (fun q hq => ?_) ?_
    · unfold slotsP at hq
      exact List.getElem?_set_ne (by intro e; subst e; simp at hq)
    · have hj := j.len
      simp [hl] at hj
      have j2 := (j.dat r).take (i := i) (by simp [hl, hj])
      rw [List.set_append_left _ _ h, List.set_append_left _ _ (by rw [← hl]; exact h)] at j2
      exact j2
  · rw [if_neg h] at hm; cases hm
theorem sgs_nil : SGs X [] [] := ⟨_, pgs_nil, fun G F H ρ σ us ws ds vs ρ' Q j hl r hm k => by
  cases ds with
  | nil => unfold Reps at r; subst r; unfold asgPs at hm; cases hm; exact ⟨rfl, rfl, k σ rfl rfl (fun _ _ => rfl) j⟩
  | cons d ds => unfold asgPs at hm; cases hm⟩
theorem sgs_cons {tg : Expr} {tgs : List Expr} {p : Pat} {ps : List Pat} (h : SG X tg p) (g : SGs X tgs ps) (hs : List.map (fun x => x.snd) (assignEach (tg :: tgs) X.env) = assign tg X.env :: List.map (fun x => x.snd) (assignEach tgs X.env) := by rfl) : SGs X (tg :: tgs) (p :: ps) := by
  obtain ⟨t, q, z⟩ := h
  obtain ⟨u, q2, z2⟩ := g
  refine ⟨_, pgs_cons q q2 hs, fun G F H ρ σ us ws ds vs ρ' Q j hl r hm k => ?_⟩
  cases ds with
  | nil => unfold asgPs at hm; cases hm
  | cons d ds =>
    unfold Reps at r
    obtain ⟨v, vr, rfl, r1, r2⟩ := r
    unfold asgPs at hm
    cases e : asgP p d ρ with
    | none => rw [e] at hm; cases hm
    | some ρ1 =>
      rw [e] at hm
      have key : (vr.length = ps.length) ∧ t v σ H fun σ' H' => u vr σ' H' Q := by
        have h2 : ∀ σ' : St, σ'.length = σ.length → ρ1.length = ρ.length → (∀ k, k ∉ slotsP p → σ'[k]? = σ[k]?) → J X.K G F H (ρ1 ++ us) (σ' ++ ws) → vr.length = ps.length ∧ u vr σ' H Q := fun σ' l1 l2 o1 j1 =>
          z2 G F H ρ1 σ' us ws ds vr ρ' Q j1 (by rw [l1, l2, hl]) r2 hm fun σ2 m1 m2 o2 j2 => k σ2 (m1.trans l1) (m2.trans l2) (fun q hq => by
            unfold slotsPs at hq
            simp only [List.mem_append, not_or] at hq
            rw [o2 q hq.2, o1 q hq.1]) j2
        have hlen : ∀ (n : Nat), vr.length = n → n = ps.length ∨ n ≠ ps.length := fun n _ => by omega
        by_cases hz : vr.length = ps.length
        · exact ⟨hz, z G F H ρ σ us ws d v ρ1 _ j hl r1 e fun σ' l1 l2 o1 j1 => (h2 σ' l1 l2 o1 j1).2⟩
        · -- lengths: by asgPs
          exfalso
          have : ∀ (ps : List Pat) (ds : List D) (ρ ρ' : Sl), asgPs ps ds ρ = some ρ' → ds.length = ps.length := by
            intro ps
            induction ps with
            | nil => intro ds ρ ρ' h; cases ds with
              | nil => rfl
              | cons d ds => unfold asgPs at h; cases h
            | cons p ps ih => intro ds ρ ρ' h; cases ds with
              | nil => unfold asgPs at h; cases h
              | cons d ds =>
                unfold asgPs at h
                cases e : asgP p d ρ with
                | none => rw [e] at h; cases h
                | some ρ1 => rw [e] at h; simp [ih _ _ _ h]
          exact hz (r2.len.trans (this _ _ _ _ hm))
      exact ⟨by simp [key.1], v, vr, rfl, key.2⟩
theorem sg_tp {es : List Expr} {k : Nat} {ps : List Pat} {n : Nat} (hc : X.calm = true) (h : SGs X es ps) (hn : ps.length = n := by rfl)
    (hn2 : (assignEach es X.env).length = n := by rfl) (hst : (assignEach es X.env).findIdx? (·.1) = none := by rfl) : SG X (.Tuple es k pos) (.tp ps) := by
  obtain ⟨t, q, z⟩ := h
  refine ⟨_, pg_tup hc q hn2 hst, fun G F H ρ σ us ws d v ρ' Q j hl r hm kk => ?_⟩
  cases d with
  | tup ds =>
    unfold asgP at hm
    unfold Rep at r
    obtain ⟨a, vs, rfl, h1, h2⟩ := r
    obtain ⟨l, y⟩ := z G F H ρ σ us ws ds vs ρ' Q j hl h2 hm fun σ' l1 l2 o j1 => kk σ' l1 l2 (by simpa [slotsP] using o) j1
    exact ⟨a, vs, rfl, j.ex.t h1, l.trans hn, y⟩
  | _ => unfold asgP at hm; cases hm
/-- a pattern takes data -/
def sAsgP (p : Pat) (m : Mo T) : So := toS m fun t ρ => if t.brw = true then none else match asgP p t.fz ρ with
  | none => none
  | some ρ' => some (.next, ρ')
theorem asgP_len {K : PySem.W.Frag} : True := trivial
theorem snd_asgP {t : TE} {g : TG} {p : Pat} (z : SndE K W t ma) (y : GOk K g p) : SndS K W (tAsg t g) (sAsgP p ma) := by
  refine z.toS (tk := fun b D σ H => g b σ H D.nx) fun t b _ G F H ρ σ us ws D fl ρ' j hl ht hm k => ?_
  by_cases hb : t.brw = true
  · simp only [if_pos hb] at hm; cases hm
  · simp only [if_neg hb] at hm
    cases e : asgP p t.fz ρ with
    | none => rw [e] at hm; cases hm
    | some ρ1 =>
      rw [e] at hm
      cases hm
      rw [← List.append_assoc, ← List.append_assoc] at j
      have e1 : (ρ ++ us ++ [some t])[(ρ ++ us).length]? = some (some t) := by simp
      obtain ⟨F', v, x1, m1, rd, j1⟩ := j.freeze e1 (by simpa using hb)
      have hv : v = b := by
        have : (ρ ++ us).length = (σ ++ ws).length := by simp [hl, ht]
        rw [this] at m1
        simp at m1
        exact m1.symm
      subst hv
      have e2 : (ρ ++ us ++ [some t]).set (ρ ++ us).length (some (.dat t.fz)) = (ρ ++ us) ++ [some (.dat t.fz)] := by simp
      rw [e2] at j1
      have j2 := j1.pre (by simp [hl, ht])
      exact y G F' H ρ σ us ws t.fz v ρ' _ j2 hl rd e fun σ' l1 l2 _ j3 => k σ' F' H x1 (by rw [l2, hl]) l1 j3
theorem ss_asg {tg : Expr} {p : Pat} (h : SE X W e ma) (g : SG X tg p) (hs : swapsWithSole [tg] e pos.line X.env = pure false := by rfl) (hw : swappedStores [tg] e X.env = pure none := by rfl) (h1 : List.map (fun x => x.snd) (assignEach [tg] X.env) = [assign tg X.env] := by rfl) : SS X W (.Assign [tg] e pos) (sAsgP p ma) := by
  obtain ⟨t, q, z⟩ := h
  obtain ⟨u, q2, z2⟩ := g
  exact ⟨_, ps_asg q q2 hs hw h1, snd_asgP z z2⟩
/-! #### while -/
def whileF (c : Mo Bool) (b : So) (ρ : Sl) : Option (Fl × Sl) := match c ρ with
  | none => none
  | some (.exc x, ρ1) => some (.exc x, ρ1)
  | some (.ok false, ρ1) => some (.next, ρ1)
  | some (.ok true, ρ1) => match b ρ1 with
    | none => none
    | some (.next, ρ2) => whileF c b ρ2
    | some (.cont, ρ2) => whileF c b ρ2
    | some (.brk, ρ2) => some (.next, ρ2)
    | some (.ret t, ρ2) => some (.ret t, ρ2)
    | some (.exc x, ρ2) => some (.exc x, ρ2)
partial_fixpoint
def whileN (c : Mo Bool) (b : So) : Nat → Sl → Option (Fl × Sl)
  | 0, _ => none
  | n + 1, ρ => match c ρ with
    | none => none
    | some (.exc x, ρ1) => some (.exc x, ρ1)
    | some (.ok false, ρ1) => some (.next, ρ1)
    | some (.ok true, ρ1) => match b ρ1 with
      | none => none
      | some (.next, ρ2) => whileN c b n ρ2
      | some (.cont, ρ2) => whileN c b n ρ2
      | some (.brk, ρ2) => some (.next, ρ2)
      | some (.ret t, ρ2) => some (.ret t, ρ2)
      | some (.exc x, ρ2) => some (.exc x, ρ2)
theorem whileN_of {c : Mo Bool} {b : So} {ρ : Sl} {o : Fl × Sl} (h : whileF c b ρ = some o) : ∃ n, whileN c b n ρ = some o := by
  refine whileF.partial_correctness c b (fun ρ o => ∃ n, whileN c b n ρ = some o) ?_ ρ o h
  intro w ih ρ o h
  cases e : c ρ with
  | none => rw [e] at h; cases h
  | some p =>
    obtain ⟨r, ρ1⟩ := p
    rw [e] at h
    cases r with
    | exc x => exact ⟨1, by unfold whileN; rw [e]; exact h⟩
    | ok t =>
      cases t with
      | false => exact ⟨1, by unfold whileN; rw [e]; exact h⟩
      | true =>
        simp only at h
        cases e2 : b ρ1 with
        | none => rw [e2] at h; cases h
        | some q =>
          obtain ⟨f, ρ2⟩ := q
          rw [e2] at h
          cases f with
          | next => obtain ⟨n, hn⟩ := ih ρ2 o h; exact ⟨n + 1, by unfold whileN; rw [e]; simp only; rw [e2]; exact hn⟩
          | cont => obtain ⟨n, hn⟩ := ih ρ2 o h; exact ⟨n + 1, by unfold whileN; rw [e]; simp only; rw [e2]; exact hn⟩
          | brk => exact ⟨1, by unfold whileN; rw [e]; simp only; rw [e2]; exact h⟩
          | ret t => exact ⟨1, by unfold whileN; rw [e]; simp only; rw [e2]; exact h⟩
          | exc t => exact ⟨1, by unfold whileN; rw [e]; simp only; rw [e2]; exact h⟩
theorem snd_while {t : TT} {v : TS} (h1 : SndT K W t na) (h2 : SndS K W v s) : SndS K W (tWhile t v) (whileF na s) := by
  intro G F H ρ σ us ws D fl ρ' j hl ht hm k
  obtain ⟨n, hn⟩ := whileN_of hm
  refine ⟨fun m σ' H' => ∃ F1 ρ1, Ex F F1 ∧ ρ1.length = σ.length ∧ σ'.length = σ.length ∧ J K G F1 H' (ρ1 ++ us) (σ' ++ ws) ∧ whileN na s m ρ1 = some (fl, ρ'), ⟨n, F, ρ, Ex.rfl, hl, rfl, j, hn⟩, ?_⟩
  rintro m σ' H' ⟨F1, ρ1, x1, l1, l2, j1, hn1⟩
  cases m with
  | zero => unfold whileN at hn1; cases hn1
  | succ m =>
    unfold whileN at hn1
    cases e : na ρ1 with
    | none => rw [e] at hn1; cases hn1
    | some p =>
      obtain ⟨r, ρ2⟩ := p
      rw [e] at hn1
      refine h1 G F1 H' ρ1 σ' us ws _ r ρ2 (by simpa using j1) (l1.trans l2.symm) ht e ?_
      cases r with
      | exc x =>
        cases hn1
        exact fun c d F2 H2 e2 m1 j2 xr => k c d σ' F2 H2 (x1.trans e2) (m1.trans l2) l2 j2 xr
      | ok b =>
        intro b' F2 H2 e2 m1 hb j2
        subst hb
        simp only [List.append_nil] at j2
        cases b' with
        | false =>
          cases hn1
          rw [if_neg Bool.false_ne_true]
          exact k σ' F2 H2 (x1.trans e2) (m1.trans l2) l2 j2
        | true =>
          rw [if_pos rfl]
          simp only at hn1
          cases e3 : s ρ2 with
          | none => rw [e3] at hn1; cases hn1
          | some q =>
            obtain ⟨f, ρ3⟩ := q
            rw [e3] at hn1
            refine ⟨fun σ3 H3 => ∃ F3 ρ3, Ex F F3 ∧ ρ3.length = σ.length ∧ σ3.length = σ.length ∧ J K G F3 H3 (ρ3 ++ us) (σ3 ++ ws) ∧ whileN na s m ρ3 = some (fl, ρ'), fun σ3 H3 hq => ⟨m, Nat.lt_succ_self m, hq⟩, ?_⟩
            refine h2 G F2 H2 ρ2 σ' us ws _ f ρ3 j2 m1 ht e3 ?_
            rw [l2]
            cases f with
            | next => exact fun σ3 F3 H3 e4 n1 n2 j3 => ⟨F3, ρ3, (x1.trans e2).trans e4, n1, n2, j3, hn1⟩
            | cont => exact fun σ3 F3 H3 e4 n1 n2 j3 => ⟨F3, ρ3, (x1.trans e2).trans e4, n1, n2, j3, hn1⟩
            | brk => cases hn1; exact fun σ3 F3 H3 e4 n1 n2 j3 => k σ3 F3 H3 ((x1.trans e2).trans e4) n1 n2 j3
            | ret t => cases hn1; exact fun v σ3 F3 H3 e4 n1 n2 j3 => k v σ3 F3 H3 ((x1.trans e2).trans e4) n1 n2 j3
            | exc x => cases hn1; exact fun c d σ3 F3 H3 e4 n1 n2 j3 => k c d σ3 F3 H3 ((x1.trans e2).trans e4) n1 n2 j3
theorem ss_while (hp : PassesOwn (model X.prog X.w) X.A X.env X.xe) (h1 : SC X W c na) (h2 : SSs X W sts s) : SS X W (.While c sts [] pos) (whileF na s) := by
  obtain ⟨t, p, z⟩ := h1
  obtain ⟨u, q, y⟩ := h2
  exact ⟨_, ps_while hp p q, snd_while z y⟩
end
end SL

set_option Elab.async false
set_option linter.all false
set_option maxRecDepth 100000
set_option maxHeartbeats 4000000
namespace SL
open PySem L2
section
variable {K : PySem.W.Frag} {G : Gm} {F F' H H' : Hp} {L : Sl} {M M' : St}
theorem J.cgM (j : J K G F H L M) (l : M'.length = M.length) (h : ∀ (k : Nat) (t : T), L[k]? = some (some t) → M'[k]? = M[k]?) : J K G F H L M' := by
  refine ⟨j.ex, by rw [j.len, l], fun k t e => ?_, fun i i' t t' v' ni e e' o o' m m' => ?_, j.base, j.frs, j.f0, j.bal⟩
  · obtain ⟨v, h1, h2⟩ := j.ok k t e
    exact ⟨v, (h k t e).trans h1, h2⟩
  · exact j.ne i i' t t' v' ni e e' o o' ((h i t e).symm.trans m) ((h i' t' e').symm.trans m')
/-- fewer slots are known -/
theorem J.cgL {L' : Sl} (j : J K G F H L M) (l : L'.length = L.length) (h : ∀ (k : Nat) (t : T), L'[k]? = some (some t) → L[k]? = some (some t)) : J K G F H L' M := by
  refine ⟨j.ex, by rw [l, j.len], fun k t e => j.ok k t (h k t e), fun i i' t t' v' ni e e' => j.ne i i' t t' v' ni (h i t e) (h i' t' e'), j.base, j.frs, j.f0, j.bal⟩
end
def wip (ρ : Sl) : List Nat → Sl
  | [] => ρ
  | v :: vs => (wip ρ vs).set v none
theorem wip_len (ρ : Sl) : ∀ vs : List Nat, (wip ρ vs).length = ρ.length
  | [] => rfl
  | v :: vs => by unfold wip; rw [List.length_set, wip_len ρ vs]
theorem wip_get {ρ : Sl} {k : Nat} {t : T} : ∀ {vs : List Nat}, (wip ρ vs)[k]? = some (some t) → ρ[k]? = some (some t) ∧ k ∉ vs
  | [], h => ⟨h, by simp⟩
  | v :: vs, h => by
    unfold wip at h
    by_cases hk : v = k
    · subst hk
      have hl : v < (wip ρ vs).length := by
        have := (List.getElem?_eq_some_iff.mp h).1
        simpa using this
      rw [List.getElem?_set_self hl] at h; cases h
    · rw [List.getElem?_set_ne hk] at h
      obtain ⟨h1, h2⟩ := wip_get h
      exact ⟨h1, by simp [h2, Ne.symm hk]⟩
theorem wipe_get {σ : St} {k : Nat} : ∀ {vs : List Nat}, k ∉ vs → (wipe σ vs)[k]? = σ[k]?
  | [], _ => rfl
  | v :: vs, h => by
    simp only [List.mem_cons, not_or] at h
    unfold wipe
    rw [List.getElem?_set_ne (Ne.symm h.1), wipe_get h.2]
theorem wipe_in {σ : St} {k : Nat} : ∀ {vs : List Nat}, k ∈ vs → (wipe σ vs)[k]? = if k < σ.length then some none else none
  | v :: vs, h => by
    unfold wipe
    by_cases hk : v = k
    · subst hk
      by_cases hl : v < (wipe σ vs).length
      · rw [List.getElem?_set_self hl, if_pos (by rw [wipe_length] at hl; exact hl)]
      · rw [if_neg (by rw [wipe_length] at hl; exact hl)]
        exact List.getElem?_eq_none_iff.mpr (by simp; omega)
    · simp only [List.mem_cons] at h
      rcases h with h | h
      · exact absurd h.symm hk
      · rw [List.getElem?_set_ne hk, wipe_in h]
theorem wipe_eq {σ σ' : St} {vs : List Nat} (l : σ'.length = σ.length) (h : ∀ k, k ∉ vs → σ'[k]? = σ[k]?) : wipe σ' vs = wipe σ vs := by
  apply List.ext_getElem?
  intro k
  by_cases hk : k ∈ vs
  · rw [wipe_in hk, wipe_in hk, l]
  · rw [wipe_get hk, wipe_get hk, h k hk]
theorem wip_app {ρ us : Sl} {k : Nat} {t : T} {vs : List Nat} (h : (wip ρ vs ++ us)[k]? = some (some t)) : (ρ ++ us)[k]? = some (some t) ∧ (k < ρ.length → k ∉ vs) := by
  by_cases hk : k < ρ.length
  · rw [List.getElem?_append_left (by rw [wip_len]; exact hk)] at h
    obtain ⟨h1, h2⟩ := wip_get h
    exact ⟨by rw [List.getElem?_append_left hk]; exact h1, fun _ => h2⟩
  · rw [List.getElem?_append_right (by rw [wip_len]; omega), wip_len] at h
    exact ⟨by rw [List.getElem?_append_right (by omega)]; exact h, fun z => absurd z hk⟩

/-! ### what is walked -/
def Wk (K : PySem.W.Frag) (It : L2.It) (F : Hp) (xs : List D) : Prop := ∀ F1 H, Ex F F1 → Ex F1 H → ∀ i, (xs.length ≤ i → It.stop i H) ∧ (∀ d, xs[i]? = some d → It.go i H ∧ ∀ x H', It.yld i H x H' →
  ∃ F', Ex F1 F' ∧ Ex H H' ∧ Ex F' H' ∧ (∀ a o, F' a = some o → F1 a = some o ∨ H a = none) ∧ Rep K F' d x)
theorem Wk.mono {K : PySem.W.Frag} {It : L2.It} {F F' : Hp} {xs : List D} (h : Wk K It F xs) (e : Ex F F') : Wk K It F' xs := fun F1 H a b => h F1 H (e.trans a) b
def SndI (K : PySem.W.Frag) (W : WX) (wi : TI) (m : Mo (List D)) : Prop :=
  ∀ (G : Gm) (F H : Hp) (ρ : Sl) (σ : St) (ts : Sl) (vs : St) (R : L2.It → Hp → Prop) (r : Rs (List D)) (ρ' : Sl), J K G F H (ρ ++ ts) (σ ++ vs) → ρ.length = σ.length → ts.length = vs.length → m ρ = some (r, ρ') →
    (match r with
      | .ok xs => ∀ It F' H', Ex F F' → ρ'.length = σ.length → Wk K It F' xs → J K G F' H' (ρ' ++ ts) (σ ++ vs) → R It H'
      | .exc x => ∀ c d F' H', Ex F F' → ρ'.length = σ.length → J K G F' H' (ρ' ++ ts) (σ ++ vs) → ExcR K F' x c d → W c d σ H') → wi σ H R
def SI (X : Cx) (W : WX) (tg iter : Expr) (m : Mo (List D)) : Prop := ∃ wi, PI X tg iter wi ∧ SndI X.K W wi m
theorem wk_seq {K : PySem.W.Frag} {F : Hp} {a : Addr} {vs : List V} {xs : List D} (h : SqL K F a vs) (r : Reps K F xs vs) : Wk K (Itl K a) F xs := by
  intro F1 H e1 e2 i
  have h2 : SqL K H a vs := e2.l (e1.l h)
  refine ⟨fun hi => ⟨vs, h2, by rw [r.len]; exact hi⟩, fun d hd => ?_⟩
  obtain ⟨v, hv, rv⟩ := r.get hd
  refine ⟨⟨vs, v, h2, hv⟩, fun x H' ⟨e, y⟩ => ?_⟩
  subst e
  have hx := y vs h2
  rw [hv] at hx
  cases hx
  exact ⟨F1, Ex.rfl, Ex.rfl, e2, fun a o z => .inl z, Rep.mono e1 _ _ rv⟩
theorem wk_tup {K : PySem.W.Frag} {F : Hp} {a : Addr} {vs : List V} {xs : List D} (h : SqT K F a vs) (r : Reps K F xs vs) : Wk K (Itt K a) F xs := by
  intro F1 H e1 e2 i
  have h2 : SqT K H a vs := e2.t (e1.t h)
  refine ⟨fun hi => ⟨vs, h2, by rw [r.len]; exact hi⟩, fun d hd => ?_⟩
  obtain ⟨v, hv, rv⟩ := r.get hd
  refine ⟨⟨vs, v, h2, hv⟩, fun x H' ⟨e, y⟩ => ?_⟩
  subst e
  have hx := y vs h2
  rw [hv] at hx
  cases hx
  exact ⟨F1, Ex.rfl, Ex.rfl, e2, fun a o z => .inl z, Rep.mono e1 _ _ rv⟩
def rngD (lo : Int) (n : Nat) : List D := (List.range n).map fun i => .int (lo + (i : Nat))
theorem wk_rng {K : PySem.W.Frag} {F : Hp} {lo : Int} {n : Nat} : Wk K (Itr lo n) F (rngD lo n) := by
  intro F1 H e1 e2 i
  refine ⟨fun hi => (show n ≤ i by simpa [rngD] using hi), fun d hd => ?_⟩
  unfold rngD at hd
  rw [List.getElem?_map] at hd
  cases e : (List.range n)[i]? with
  | none => rw [e] at hd; cases hd
  | some k =>
    rw [e] at hd
    have hk := List.getElem?_eq_some_iff.mp e
    obtain ⟨h1, h2⟩ := hk
    simp at h1 h2
    subst h2
    have hd2 : D.int (lo + (i : Nat)) = d := Option.some.inj hd
    subst hd2
    refine ⟨h1, fun x H' ⟨e1, y⟩ => ?_⟩
    subst e1 y
    exact ⟨F1, Ex.rfl, Ex.rfl, e2, fun a o z => .inl z, rep_int⟩
/-- the items of a list or tuple -/
def itemsD : D → Option (List D)
  | .lst xs => some xs
  | .tup xs => some xs
  | .scr ns => some (ns.map .int)
  | _ => none
def iSeq (m : Mo T) : Mo (List D) := bnd m fun t ρ => if t.brw = true then none else match itemsD t.fz with
  | none => none
  | some xs => some (.ok xs, ρ)
section
variable {X : Cx} {W : WX} {tg iter a c e : Expr} {es : List Expr} {ma mb mc : Mo T} {pos : Pos} {st : Stmt} {rest sts : List Stmt} {s u : So} {na : Mo Bool} {K : PySem.W.Frag} {n : Mo (List T)}
theorem PI.or {w1 w2 : TI} (h1 : PI X tg iter w1) (h2 : PI X tg iter w2) : PI X tg iter (fun σ H R => w1 σ H R ∨ w2 σ H R) := ⟨fun pins s σ H R I h => by
  rcases h with h | h
  · exact h1.run pins s σ H R I h
  · exact h2.run pins s σ H R I h⟩
/-- the last temporary frozen -/
theorem J.fzLast {G : Gm} {F H : Hp} {ρ us : Sl} {σ ws : St} {t : T} {v : V} (j : J K G F H (ρ ++ (us ++ [some t])) (σ ++ (ws ++ [some v]))) (hl : ρ.length = σ.length) (ht : us.length = ws.length) (hb : t.brw = false) :
    ∃ F', Ex F F' ∧ J K G F' H (ρ ++ (us ++ [some (.dat t.fz)])) (σ ++ (ws ++ [some v])) ∧ Rep K F' t.fz v := by
  rw [← List.append_assoc, ← List.append_assoc] at j
  have e1 : (ρ ++ us ++ [some t])[(ρ ++ us).length]? = some (some t) := by simp
  obtain ⟨F', w, x1, m1, rd, j1⟩ := j.freeze e1 hb
  have hv : w = v := by
    have : (ρ ++ us).length = (σ ++ ws).length := by simp [hl, ht]
    rw [this] at m1
    simp at m1
    exact m1.symm
  subst hv
  have e2 : (ρ ++ us ++ [some t]).set (ρ ++ us).length (some (.dat t.fz)) = (ρ ++ us) ++ [some (.dat t.fz)] := by simp
  rw [e2] at j1
  exact ⟨F', x1, by rw [← List.append_assoc, ← List.append_assoc]; exact j1, rd⟩
theorem si_seq (h : SE X W iter ma) : SI X W tg iter (iSeq ma) := by
  obtain ⟨te, p, z⟩ := h
  refine ⟨_, PI.or (pi_list p) (pi_tup p), ?_⟩
  intro G F H ρ σ ts vs R r ρ' j hl ht hm k
  unfold iSeq bnd at hm
  cases e : ma ρ with
  | none => rw [e] at hm; cases hm
  | some q =>
    obtain ⟨r1, ρ1⟩ := q
    rw [e] at hm
    cases r1 with
    | exc x =>
      cases hm
      exact Or.inl (z G F H ρ σ ts vs _ (.exc x) ρ' (by simpa using j) hl ht e k)
    | ok t =>
      simp only at hm
      by_cases hb : t.brw = true
      · rw [if_pos hb] at hm; cases hm
      · rw [if_neg hb] at hm
        cases hi : itemsD t.fz with
        | none => rw [hi] at hm; cases hm
        | some xs =>
          rw [hi] at hm
          cases hm
          have go : ∀ (Q : V → Hp → Prop), (∀ v F' H', Ex F F' → ρ'.length = σ.length → J X.K G F' H' (ρ' ++ ts) (σ ++ vs) → Rep X.K F' t.fz v → Q v H') → te σ H Q := fun Q hq =>
            z G F H ρ σ ts vs Q (.ok t) ρ' (by simpa using j) hl ht e fun v F' H' e1 l1 _ j1 => by
              obtain ⟨F2, x2, j2, rd⟩ := j1.fzLast l1 ht (by simpa using hb)
              exact hq v F2 H' (e1.trans x2) l1 (app_pre j2 l1 ht) rd
          cases hf : t.fz with
          | lst ys =>
            rw [hf] at hi; cases hi
            refine Or.inl (go _ fun v F' H' e1 l1 j1 rd => ?_)
            rw [hf] at rd
            unfold Rep at rd
            obtain ⟨a, us, rfl, h1, h2⟩ := rd
            have h3 : SqL X.K F' a us := Or.inl (Or.inl h1)
            exact ⟨a, rfl, ⟨us, j1.ex.l h3⟩, k _ F' H' e1 l1 (wk_seq h3 h2) j1⟩
          | scr ns =>
            rw [hf] at hi; cases hi
            refine Or.inl (go _ fun v F' H' e1 l1 j1 rd => ?_)
            rw [hf] at rd
            unfold Rep at rd
            obtain ⟨a, rfl, h1⟩ := rd
            exact ⟨a, rfl, ⟨_, j1.ex.l h1⟩, k _ F' H' e1 l1 (wk_seq h1 (reps_ints ns)) j1⟩
          | tup ys =>
            rw [hf] at hi; cases hi
            refine Or.inr (go _ fun v F' H' e1 l1 j1 rd => ?_)
            rw [hf] at rd
            unfold Rep at rd
            obtain ⟨a, us, rfl, h1, h2⟩ := rd
            exact ⟨a, rfl, ⟨us, j1.ex.t h1⟩, k _ F' H' e1 l1 (wk_tup h1 h2) j1⟩
          | non => rw [hf] at hi; cases hi
          | bl b => rw [hf] at hi; cases hi
          | int b => rw [hf] at hi; cases hi
          | str b => rw [hf] at hi; cases hi
          | obj C ns fs => rw [hf] at hi; cases hi
          | exn _ _ _ _ => rw [hf] at hi; cases hi
          | exi _ _ _ => rw [hf] at hi; cases hi
          | dic _ _ => rw [hf] at hi; cases hi
/-! range -/
def rng1 : List D → Option (List D)
  | [.int j] => if -100000 ≤ j ∧ j ≤ 100000 then some (rngD 0 j.toNat) else none
  | _ => none
def rng2 : List D → Option (List D)
  | [.int i, .int j] => if -100000 ≤ i ∧ i ≤ 100000 ∧ -100000 ≤ j ∧ j ≤ 100000 then some (rngD i (j - i).toNat) else none
  | _ => none
def iOf (f : List D → Option (List D)) (n : Mo (List T)) : Mo (List D) := bnd n fun ts ρ => match frzs ts with
  | none => none
  | some ds => match f ds with
    | none => none
    | some xs => some (.ok xs, ρ)
theorem snd_iOf {f : List D → Option (List D)} {ta : TA} {t2 : List V → TI} (z : SndA K W ta n)
    (h : ∀ F H σ R vs ds xs, Ex F H → Reps K F ds vs → f ds = some xs → (∀ It F' H', Ex F F' → Ex H H' → Ex F' H' → (∀ a o, F' a = some o → F a = some o ∨ H a = none) → Wk K It F' xs → R It H') → t2 vs σ H R) : SndI K W (fun σ H R => ta σ H fun vs H1 => t2 vs σ H1 R) (iOf f n) := by
  intro G F H ρ σ ts vs R r ρ' j hl ht hm k
  unfold iOf bnd at hm
  cases e : n ρ with
  | none => rw [e] at hm; cases hm
  | some q =>
    obtain ⟨r1, ρ1⟩ := q
    rw [e] at hm
    cases r1 with
    | exc x =>
      cases hm
      exact z G F H ρ σ ts vs _ (.exc x) ρ' (by simpa using j) hl ht e k
    | ok us =>
      simp only at hm
      cases hf : frzs us with
      | none => rw [hf] at hm; cases hm
      | some ds =>
        rw [hf] at hm
        simp only at hm
        cases hr : f ds with
        | none => rw [hr] at hm; cases hm
        | some xs =>
          rw [hr] at hm
          cases hm
          refine z G F H ρ σ ts vs _ (.ok us) ρ' (by simpa using j) hl ht e fun ws F' H' e1 l1 _ j1 => ?_
          unfold frzs at hf
          by_cases hb : us.any T.brw = true
          · rw [if_pos hb] at hf; cases hf
          · rw [if_neg hb] at hf
            cases hf
            rw [← List.append_assoc, ← List.append_assoc] at j1
            obtain ⟨F2, x2, j2, rd⟩ := j1.freezes (by simp [l1, ht]) (by simpa using hb)
            have j3 := j2.pre (by simp [l1, ht])
            exact h F2 H' σ R ws _ xs j3.ex rd hr fun It F3 H3 a1 a2 a3 a4 w => k It F3 H3 ((e1.trans x2).trans a1) l1 w (j3.grow a1 a2 a3 a4)
theorem si_rng1 {p : Pos} (hm : X.mg "range" = none) (g : SA X W [a] n) (hg : Gl X "range" := by rfl) (hs : starEach [a] X.env = [(false, eval a X.env)] := by rfl) : SI X W tg (.Call (.Name "range" p) [a] [] pos) (iOf rng1 n) := by
  obtain ⟨ta, q, z⟩ := g
  refine ⟨_, pi_range1 hg hm q hs, snd_iOf (t2 := fun vs σ H1 R => ∃ j : Int, vs = [.int j] ∧ -(2 ^ 62) ≤ j ∧ j < 2 ^ 62 ∧ R (Itr 0 j.toNat) H1) z fun F H σ R vs ds xs e rd hf k => ?_⟩
  match ds, hf with
  | [.int jj], hf =>
    simp only [rng1] at hf
    by_cases hz : -100000 ≤ jj ∧ jj ≤ 100000
    · rw [if_pos hz] at hf
      cases hf
      unfold Reps at rd
      obtain ⟨v, r, rfl, a1, a2⟩ := rd
      unfold Rep at a1
      unfold Reps at a2
      subst a1 a2
      exact ⟨jj, rfl, by omega, by omega, k _ F H Ex.rfl Ex.rfl e (fun _ _ z => .inl z) wk_rng⟩
    · rw [if_neg hz] at hf; cases hf
theorem si_rng2 {b : Expr} {p : Pos} (hm : X.mg "range" = none) (g : SA X W [a, b] n) (hg : Gl X "range" := by rfl) (hs : starEach [a, b] X.env = [(false, eval a X.env), (false, eval b X.env)] := by rfl) (hs2 : starEach [b] X.env = [(false, eval b X.env)] := by rfl) : SI X W tg (.Call (.Name "range" p) [a, b] [] pos) (iOf rng2 n) := by
  obtain ⟨ta, q, z⟩ := g
  refine ⟨_, pi_range2 hg hm q hs hs2, snd_iOf (t2 := fun vs σ H1 R => ∃ i j : Int, vs = [.int i, .int j] ∧ (-(2 ^ 62) ≤ i ∧ i < 2 ^ 62 ∧ -(2 ^ 62) ≤ j ∧ j < 2 ^ 62) ∧ R (Itr i (j - i).toNat) H1) z fun F H σ R vs ds xs e rd hf k => ?_⟩
  match ds, hf with
  | [.int ii, .int jj], hf =>
    simp only [rng2] at hf
    by_cases hz : -100000 ≤ ii ∧ ii ≤ 100000 ∧ -100000 ≤ jj ∧ jj ≤ 100000
    · rw [if_pos hz] at hf
      cases hf
      unfold Reps at rd
      obtain ⟨v, r, rfl, a1, a2⟩ := rd
      unfold Reps at a2
      obtain ⟨v2, r2, rfl, a2, a3⟩ := a2
      unfold Rep at a1 a2
      unfold Reps at a3
      subst a1 a2 a3
      exact ⟨ii, jj, rfl, by omega, k _ F H Ex.rfl Ex.rfl e (fun _ _ z => .inl z) wk_rng⟩
    · rw [if_neg hz] at hf; cases hf
/-! #### for -/
def forL (p : Pat) (b : So) : List D → So
  | [], ρ => some (.next, ρ)
  | d :: r, ρ => match asgP p d ρ with
    | none => none
    | some ρ1 => match b ρ1 with
      | none => none
      | some (.next, ρ2) => forL p b r ρ2
      | some (.cont, ρ2) => forL p b r ρ2
      | some (.brk, ρ2) => some (.next, ρ2)
      | some (.ret t, ρ2) => some (.ret t, ρ2)
      | some (.exc x, ρ2) => some (.exc x, ρ2)
def sFor (m : Mo (List D)) (p : Pat) (b : So) : So := toS m fun xs => forL p b xs
theorem snd_for {wi : TI} {m : Mo (List D)} {g : TG} {p : Pat} {tb : TS} (h1 : SndI K W wi m) (h2 : GOk K g p) (h3 : SndS K W tb s) : SndS K W (tFor wi g tb) (sFor m p s) := by
  intro G F H ρ σ us ws D fl ρ' j hl ht hm k
  unfold sFor toS at hm
  cases e : m ρ with
  | none => rw [e] at hm; cases hm
  | some q =>
    obtain ⟨r1, ρ1⟩ := q
    rw [e] at hm
    refine h1 G F H ρ σ us ws _ r1 ρ1 j hl ht e ?_
    cases r1 with
    | exc x => cases hm; exact fun c d F' H' e1 l1 j1 x1 => k c d σ F' H' e1 l1 rfl j1 x1
    | ok xs =>
      intro It F0 H0 e0 l0 w0 j0
      simp only at hm
      refine ⟨fun i m σ' H' => m = xs.length - i ∧ i ≤ xs.length ∧ ∃ F1 ρ1, Ex F0 F1 ∧ ρ1.length = σ.length ∧ σ'.length = σ.length ∧ J K G F1 H' (ρ1 ++ us) (σ' ++ ws) ∧ forL p s (xs.drop i) ρ1 = some (fl, ρ'),
        ⟨xs.length, rfl, Nat.zero_le _, F0, ρ1, Ex.rfl, l0, rfl, j0, hm⟩, ?_⟩
      rintro i m σ' H' ⟨hm1, hi, F1, ρ2, x1, l1, l2, j1, hf⟩
      have wk := w0 F1 H' x1 j1.ex i
      by_cases hlt : i < xs.length
      · right
        obtain ⟨d, hd⟩ : ∃ d, xs[i]? = some d := ⟨xs[i], by simp [hlt]⟩
        obtain ⟨wg, wy⟩ := wk.2 d hd
        refine ⟨wg, fun σ3 H3 => ∃ F3 ρ3, Ex F0 F3 ∧ ρ3.length = σ.length ∧ σ3.length = σ.length ∧ J K G F3 H3 (ρ3 ++ us) (σ3 ++ ws) ∧ forL p s (xs.drop (i + 1)) ρ3 = some (fl, ρ'), fun σ3 H3 q => ⟨xs.length - (i + 1), by omega, rfl, hlt, q⟩, fun x H2 hy => ?_⟩
        obtain ⟨F2, y1, y2, y3, y4, rd⟩ := wy x H2 hy
        have j2 := j1.grow y1 y2 y3 y4
        have hdrop : xs.drop i = d :: xs.drop (i + 1) := by
          rw [List.drop_eq_getElem_cons hlt]
          have : xs[i] = d := by
            have := List.getElem?_eq_some_iff.mp hd
            obtain ⟨_, q⟩ := this
            exact q
          rw [this]
        rw [hdrop] at hf
        unfold forL at hf
        cases ea : asgP p d ρ2 with
        | none => rw [ea] at hf; cases hf
        | some ρ3 =>
          rw [ea] at hf
          simp only at hf
          refine h2 G F2 H2 ρ2 σ' us ws d x ρ3 _ j2 (l1.trans l2.symm) rd ea fun σ4 m1 m2 _ j4 => ?_
          cases eb : s ρ3 with
          | none => rw [eb] at hf; cases hf
          | some q =>
            obtain ⟨f, ρ4⟩ := q
            rw [eb] at hf
            refine h3 G F2 H2 ρ3 σ4 us ws _ f ρ4 j4 (by rw [m2, m1, l1, l2]) ht eb ?_
            have ll : σ4.length = σ.length := m1.trans l2
            rw [ll]
            have xx : Ex F0 F2 := x1.trans y1
            cases f with
            | next => exact fun σ5 F5 H5 e5 n1 n2 j5 => ⟨F5, ρ4, xx.trans e5, n1, n2, j5, hf⟩
            | cont => exact fun σ5 F5 H5 e5 n1 n2 j5 => ⟨F5, ρ4, xx.trans e5, n1, n2, j5, hf⟩
            | brk => cases hf; exact fun σ5 F5 H5 e5 n1 n2 j5 => k σ5 F5 H5 ((e0.trans xx).trans e5) n1 n2 j5
            | ret t => cases hf; exact fun v σ5 F5 H5 e5 n1 n2 j5 => k v σ5 F5 H5 ((e0.trans xx).trans e5) n1 n2 j5
            | exc x => cases hf; exact fun c d σ5 F5 H5 e5 n1 n2 j5 => k c d σ5 F5 H5 ((e0.trans xx).trans e5) n1 n2 j5
      · left
        have hie : i = xs.length := by omega
        subst hie
        rw [List.drop_length] at hf
        unfold forL at hf
        cases hf
        exact ⟨wk.1 (Nat.le_refl _), k σ' F1 H' (e0.trans x1) l1 l2 j1⟩
theorem ss_for {m : Mo (List D)} {p : Pat} (hp : PassesOwn (model X.prog X.w) X.A X.env X.xe) (hc : X.calm = true) (h1 : SI X W tg iter m) (h2 : SG X tg p) (h3 : SSs X W sts s)
    (hs : ∀ x, foldedSetIterable iter X.env x = pure x := by intro _; rfl) : SS X W (.For tg iter sts [] pos) (sFor m p s) := by
  obtain ⟨wi, q1, z1⟩ := h1
  obtain ⟨g, q2, z2⟩ := h2
  obtain ⟨t, q3, z3⟩ := h3
  exact ⟨_, ps_for hp hc q1 q2 q3 hs, snd_for z1 z2 z3⟩
end
end SL

set_option Elab.async false
set_option linter.all false
set_option maxRecDepth 100000
set_option maxHeartbeats 4000000
namespace SL
open PySem L2
abbrev W0 : WX := fun _ _ _ _ => False
/-! ### comprehensions -/
def lcL (p : Pat) (t : Mo Bool) (e : Mo T) : List D → List D → Mo (List D)
  | [], acc, ρ => some (.ok acc, ρ)
  | d :: r, acc, ρ => match asgP p d ρ with
    | none => none
    | some ρ1 => match t ρ1 with
      | some (.ok true, ρ2) => (match e ρ2 with
        | some (.ok v, ρ3) => if v.brw = true then none else if acc.length < 100000 then lcL p t e r (acc ++ [v.fz]) (wip ρ3 (slotsP p)) else none
        | _ => none)
      | some (.ok false, ρ2) => lcL p t e r acc (wip ρ2 (slotsP p))
      | _ => none
def eLc (m : Mo (List D)) (p : Pat) (t : Mo Bool) (e : Mo T) : Mo T := fun ρ => match m ρ with
  | none => none
  | some (.exc x, ρ') => some (.exc x, ρ')
  | some (.ok xs, ρ') => match lcL p t e xs [] (wip ρ' (slotsP p)) with
    | some (.ok acc, ρ'') => some (.ok (.lst false acc), ρ'')
    | _ => none
section
variable {X : Cx} {W : WX} {tg iter a c e : Expr} {es : List Expr} {ma mb mc : Mo T} {pos : Pos} {st : Stmt} {rest sts : List Stmt} {s u : So} {na : Mo Bool} {K : PySem.W.Frag} {n : Mo (List T)}
theorem wipe_app {ρ us : Sl} {σ ws : St} {sp : List Nat} {G : Gm} {F H : Hp} (j : J K G F H (ρ ++ us) (σ ++ ws)) (hl : ρ.length = σ.length) {τ : St} (hτ : τ.length = σ.length) (ha : ∀ k, k ∉ sp → τ[k]? = σ[k]?) : J K G F H (wip ρ sp ++ us) (τ ++ ws) := by
  have j1 : J K G F H (wip ρ sp ++ us) (σ ++ ws) := j.cgL (by simp [wip_len]) fun k t e => (wip_app e).1
  refine j1.cgM (by simp [hτ]) fun k t e => ?_
  by_cases hk : k < σ.length
  · rw [List.getElem?_append_left (by rw [hτ]; exact hk), List.getElem?_append_left hk]
    exact ha k ((wip_app e).2 (by rw [hl]; exact hk))
  · rw [List.getElem?_append_right (by rw [hτ]; omega), List.getElem?_append_right (by omega), hτ]
theorem snd_lc {wi : TI} {m : Mo (List D)} {g : TG} {p : Pat} {tt : TT} {te : TE} (h1 : SndI K W wi m) (h2 : GOk K g p) (h3 : SndT K W0 tt na) (h4 : SndE K W0 te ma) : SndE K W (tLc wi g tt te (slotsP p)) (eLc m p na ma) := by
  intro G F H ρ σ us ws Q r ρ' j hl ht hm k
  simp only [List.append_nil] at j
  unfold eLc at hm
  cases e : m ρ with
  | none => rw [e] at hm; cases hm
  | some q =>
    obtain ⟨r1, ρ1⟩ := q
    rw [e] at hm
    refine h1 G F H ρ σ us ws _ r1 ρ1 j hl ht e ?_
    cases r1 with
    | exc x => cases hm; exact fun c d F' H' e1 l1 j1 x1 => k c d F' H' e1 l1 j1 x1
    | ok xs =>
      intro It F0 H0 e0 l0 w0 j0
      simp only at hm
      generalize hsp : slotsP p = sp at hm ⊢
      have hfin : ∃ accF, lcL p na ma xs [] (wip ρ1 sp) = some (.ok accF, ρ') ∧ r = .ok (.lst false accF) := by
        cases eL : lcL p na ma xs [] (wip ρ1 sp) with
        | none => rw [eL] at hm; cases hm
        | some q =>
          obtain ⟨r2, ρ2⟩ := q
          rw [eL] at hm
          cases r2 with
          | ok a => cases hm; exact ⟨a, rfl, rfl⟩
          | exc x => cases hm
      obtain ⟨accF, hL, rfl⟩ := hfin
      clear hm
      intro Dl hD
      have jD : J K G F0 (upd H0 Dl (.lst [])) (ρ1 ++ (us ++ [some (.lst false [])])) (σ ++ (ws ++ [some (.ref Dl)])) := by
        rw [← List.append_assoc, ← List.append_assoc]
        exact j0.push hD rfl rfl ⟨Dl, [], rfl, j0.ex.back hD, upd_same, reps_nil⟩
      have wl : (wipe σ sp).length = σ.length := wipe_length σ sp
      refine ⟨fun i mm H' => mm = xs.length - i ∧ i ≤ xs.length ∧ ∃ F1 ρ2 acc, Ex F0 F1 ∧ ρ2.length = σ.length ∧ (∀ (k : Nat) (t : T), ρ2[k]? = some (some t) → k ∉ sp) ∧ J K G F1 H' (ρ2 ++ (us ++ [some (.lst false acc)])) (wipe σ sp ++ (ws ++ [some (.ref Dl)])) ∧ lcL p na ma (xs.drop i) acc ρ2 = some (.ok accF, ρ'),
        ⟨xs.length, rfl, Nat.zero_le _, F0, wip ρ1 sp, [], Ex.rfl, by rw [wip_len]; exact l0, fun k t e => (wip_get e).2, wipe_app jD l0 wl (fun k hk => wipe_get hk), hL⟩, ?_⟩
      rintro i mm H' ⟨hm1, hi, F1, ρ2, acc, x1, l1, hno, j1, hf⟩
      have wk := w0 F1 H' x1 j1.ex i
      by_cases hlt : i < xs.length
      · right
        obtain ⟨d, hd⟩ : ∃ d, xs[i]? = some d := ⟨xs[i], by simp [hlt]⟩
        obtain ⟨wg, wy⟩ := wk.2 d hd
        refine ⟨wg, fun H3 => ∃ F3 ρ3 acc3, Ex F0 F3 ∧ ρ3.length = σ.length ∧ (∀ (k : Nat) (t : T), ρ3[k]? = some (some t) → k ∉ sp) ∧ J K G F3 H3 (ρ3 ++ (us ++ [some (.lst false acc3)])) (wipe σ sp ++ (ws ++ [some (.ref Dl)])) ∧ lcL p na ma (xs.drop (i + 1)) acc3 ρ3 = some (.ok accF, ρ'),
          fun H3 q => ⟨xs.length - (i + 1), by omega, rfl, hlt, q⟩, fun x H2 hy => ?_⟩
        obtain ⟨F2, y1, y2, y3, y4, rd⟩ := wy x H2 hy
        have j2 := j1.grow y1 y2 y3 y4
        have hdrop : xs.drop i = d :: xs.drop (i + 1) := by
          rw [List.drop_eq_getElem_cons hlt]
          have : xs[i] = d := by
            have := List.getElem?_eq_some_iff.mp hd
            obtain ⟨_, q⟩ := this
            exact q
          rw [this]
        rw [hdrop] at hf
        unfold lcL at hf
        cases ea : asgP p d ρ2 with
        | none => rw [ea] at hf; cases hf
        | some ρ3 =>
          rw [ea] at hf
          simp only at hf
          refine h2 G F2 H2 ρ2 (wipe σ sp) _ _ d x ρ3 _ j2 (by rw [l1, wl]) rd ea fun σ4 m1 m2 o4 j4 => ?_
          rw [hsp] at o4
          have w4 : wipe σ4 sp = wipe σ sp := by
            refine wipe_eq (m1.trans wl) fun k hk => ?_
            rw [o4 k hk, wipe_get hk]
          have back : ∀ {k : Nat}, k ∉ sp → (wipe σ sp)[k]? = σ4[k]? := fun {k} hk => (o4 k hk).symm
          refine ⟨w4, ?_⟩
          have l4 : ρ3.length = σ4.length := by rw [m2, m1, l1, wl]
          have l5 : σ4.length = σ.length := m1.trans wl
          have xx : Ex F0 F2 := x1.trans y1
          cases et : na ρ3 with
          | none => rw [et] at hf; cases hf
          | some q =>
            obtain ⟨rt, ρ4⟩ := q
            rw [et] at hf
            cases rt with
            | exc x => cases hf
            | ok b =>
              refine h3 G F2 H2 ρ3 σ4 _ _ _ (.ok b) ρ4 (by simpa using j4) l4 (by simp [ht]) et fun b' F5 H5 e5 n5 hb j5 => ?_
              subst hb
              simp only [List.append_nil] at j5
              cases b' with
              | false =>
                rw [if_neg Bool.false_ne_true]
                simp only at hf
                rw [hsp] at hf
                exact ⟨F5, wip ρ4 sp, acc, xx.trans e5, by rw [wip_len, n5, l5], fun k t e => (wip_get e).2, wipe_app j5 n5 (by rw [wl, l5]) (fun k hk => back hk), hf⟩
              | true =>
                rw [if_pos rfl]
                simp only at hf
                cases ee : ma ρ4 with
                | none => rw [ee] at hf; cases hf
                | some q =>
                  obtain ⟨rv, ρ5⟩ := q
                  rw [ee] at hf
                  cases rv with
                  | exc x => cases hf
                  | ok v =>
                    simp only at hf
                    by_cases hb : v.brw = true
                    · rw [if_pos hb] at hf; cases hf
                    · rw [if_neg hb] at hf
                      by_cases hz : acc.length < 100000
                      · rw [if_pos hz] at hf
                        rw [hsp] at hf
                        refine h4 G F5 H5 ρ4 σ4 _ _ _ (.ok v) ρ5 (by simpa using j5) n5 (by simp [ht]) ee fun y F6 H6 e6 n6 _ j6 => ?_
                        have hlen : (us ++ [some (T.lst false acc)]).length = (ws ++ [some (V.ref Dl)]).length := by simp [ht]
                        obtain ⟨F7, x7, j7, rd7⟩ := j6.fzLast n6 hlen (by simpa using hb)
                        have j8 := app_pre j7 n6 hlen
                        -- the list's place
                        have eidx : (ρ5 ++ (us ++ [some (T.lst false acc)]))[(ρ5 ++ us).length]? = some (some (.lst false acc)) := by
                          rw [← List.append_assoc]; simp
                        have midx : (σ4 ++ (ws ++ [some (V.ref Dl)]))[(ρ5 ++ us).length]? = some (some (.ref Dl)) := by
                          rw [← List.append_assoc]
                          have : (ρ5 ++ us).length = (σ4 ++ ws).length := by simp [n6, ht]
                          rw [this]; simp
                        obtain ⟨v8, m8, hold8, _⟩ := j8.ok _ _ eidx
                        rw [midx] at m8; cases m8
                        obtain ⟨aa, vs8, q1, q2, q3, q4⟩ := hold8
                        cases q1
                        refine ⟨vs8, q3, by rw [q4.len]; exact lt_line hz, ?_⟩
                        have j9 := j8.mut (t' := .lst false (acc ++ [v.fz])) (o := .lst (vs8 ++ [y])) eidx rfl rfl rfl midx ⟨Dl, _, rfl, q2, upd_same, Reps.app q4 (reps_cons rd7 reps_nil)⟩
                        have eset : (ρ5 ++ (us ++ [some (T.lst false acc)])).set (ρ5 ++ us).length (some (.lst false (acc ++ [v.fz]))) = ρ5 ++ (us ++ [some (.lst false (acc ++ [v.fz]))]) := by
                          rw [← List.append_assoc, ← List.append_assoc]; simp
                        rw [eset] at j9
                        exact ⟨F7, wip ρ5 sp, acc ++ [v.fz], ((xx.trans e5).trans e6).trans x7, by rw [wip_len, n6, l5], fun k t e => (wip_get e).2, wipe_app j9 n6 (by rw [wl, l5]) (fun k hk => back hk), hf⟩
                      · rw [if_neg hz] at hf; cases hf
      · left
        have hie : i = xs.length := by omega
        subst hie
        rw [List.drop_length] at hf
        unfold lcL at hf
        cases hf
        refine ⟨wk.1 (Nat.le_refl _), k (.ref Dl) F1 H' (e0.trans x1) l1 trivial ?_⟩
        refine j1.cgM (by simp [wl]) fun kk t e => ?_
        by_cases hk : kk < σ.length
        · rw [List.getElem?_append_left hk, List.getElem?_append_left (by rw [wl]; exact hk)]
          rw [List.getElem?_append_left (by rw [l1]; exact hk)] at e
          exact (wipe_get (hno kk t e)).symm
        · have h1 : σ.length ≤ kk := Nat.le_of_not_lt hk
          have h2 : (wipe σ sp).length ≤ kk := by rw [wl]; exact h1
          rw [List.getElem?_append_right (l₁ := σ) h1, List.getElem?_append_right (l₁ := wipe σ sp) h2, wl]
/-! one reading for a family of contexts -/
theorem fam_E {I : Type} {Y : I → Cx} {K : PySem.W.Frag} (hK : ∀ i, (Y i).K = K) (h : ∀ i, SE (Y i) W e ma) : ∃ te, (∀ i, PE (Y i) e te) ∧ SndE K W te ma := by
  refine ⟨fun σ H Q => ∀ i, ∃ t, PE (Y i) e t ∧ t σ H Q, fun i => ⟨fun pins s σ H Q I hq => ?_⟩, ?_⟩
  · obtain ⟨t, p, q⟩ := hq i
    exact p.run pins s σ H Q I q
  · intro G F H ρ σ us ws Q r ρ' j hl ht hm k i
    obtain ⟨t, p, z⟩ := h i
    rw [hK i] at z
    exact ⟨t, p, z G F H ρ σ us ws Q r ρ' j hl ht hm k⟩
theorem fam_T {I : Type} {Y : I → Cx} {K : PySem.W.Frag} (hK : ∀ i, (Y i).K = K) (h : ∀ i, SC (Y i) W e na) : ∃ te, (∀ i, PT (Y i) e te) ∧ SndT K W te na := by
  refine ⟨fun σ H Q => ∀ i, ∃ t, PT (Y i) e t ∧ t σ H Q, fun i => ⟨fun pins s σ H Q I hq => ?_⟩, ?_⟩
  · obtain ⟨t, p, q⟩ := hq i
    exact p.run pins s σ H Q I q
  · intro G F H ρ σ us ws Q r ρ' j hl ht hm k i
    obtain ⟨t, p, z⟩ := h i
    rw [hK i] at z
    exact ⟨t, p, z G F H ρ σ us ws Q r ρ' j hl ht hm k⟩
theorem fam_G {I : Type} {Y : I → Cx} {K : PySem.W.Frag} {p : Pat} (hK : ∀ i, (Y i).K = K) (h : ∀ i, SG (Y i) tg p) : ∃ g, (∀ i, PG (Y i) tg g) ∧ GOk K g p := by
  refine ⟨fun v σ H Q => ∀ i, ∃ t, PG (Y i) tg t ∧ t v σ H Q, fun i => ⟨fun pins s σ H v u Q I r hq => ?_⟩, ?_⟩
  · obtain ⟨t, q, z⟩ := hq i
    exact q.run pins s σ H v u Q I r z
  · intro G F H ρ σ us ws d v ρ' Q j hl r hm k i
    obtain ⟨t, q, z⟩ := h i
    rw [hK i] at z
    exact ⟨t, q, z G F H ρ σ us ws d v ρ' Q j hl r hm k⟩
abbrev BI := Shared × Hp × Addr × List (Str × Addr) × List Addr
abbrev blkX (X : Cx) (scope : Scope) (i : BI) : Cx := X.blk i.1 i.2.1 scope (compEnvC scope i.2.2.2.1 i.2.2.1 X.env) i.2.2.2.2
theorem se_lc {m : Mo (List D)} {p : Pat} {scope : Scope} {own : List (Str × Nat)} (hc : X.calm = true) (hN : X.N.Nodup) (hi : SI X W tg iter m) (ok : BlkOk X.N X.env.scope scope own) (hv : slotsP p = own.map (·.2))
    (hg : ∀ i : BI, SG (blkX X scope i) tg p) (he : ∀ i : BI, SE (blkX X scope i) W0 e ma) (hs : ∀ x, foldedSetIterable iter X.env x = pure x := by intro _; rfl) :
    SE X W (.ListComp e [⟨tg, iter, [], 0⟩] scope pos) (eLc m p (ret true) ma) := by
  obtain ⟨wi, q1, z1⟩ := hi
  obtain ⟨g, q2, z2⟩ := fam_G (Y := blkX X scope) (K := X.K) (fun _ => rfl) hg
  obtain ⟨te, q3, z3⟩ := fam_E (Y := blkX X scope) (K := X.K) (fun _ => rfl) he
  refine ⟨_, pe_lc hc hN q1 ok (fun s H C cl fp => q2 (s, H, C, cl, fp)) (fun s H C cl fp => pts_nil) (fun s H C cl fp => q3 (s, H, C, cl, fp)) hs, ?_⟩
  rw [← hv]
  exact snd_lc z1 z2 (snd_retB (b := true)) z3
theorem se_lcIf {m : Mo (List D)} {p : Pat} {scope : Scope} {own : List (Str × Nat)} (hc : X.calm = true) (hN : X.N.Nodup) (hi : SI X W tg iter m) (ok : BlkOk X.N X.env.scope scope own) (hv : slotsP p = own.map (·.2))
    (hg : ∀ i : BI, SG (blkX X scope i) tg p) (ht : ∀ i : BI, SC (blkX X scope i) W0 c na) (he : ∀ i : BI, SE (blkX X scope i) W0 e ma) (hs : ∀ x, foldedSetIterable iter X.env x = pure x := by intro _; rfl) :
    SE X W (.ListComp e [⟨tg, iter, [c], 0⟩] scope pos) (eLc m p na ma) := by
  obtain ⟨wi, q1, z1⟩ := hi
  obtain ⟨g, q2, z2⟩ := fam_G (Y := blkX X scope) (K := X.K) (fun _ => rfl) hg
  obtain ⟨te, q3, z3⟩ := fam_E (Y := blkX X scope) (K := X.K) (fun _ => rfl) he
  obtain ⟨tt, q4, z4⟩ := fam_T (Y := blkX X scope) (K := X.K) (fun _ => rfl) ht
  refine ⟨_, pe_lc hc hN q1 ok (fun s H C cl fp => q2 (s, H, C, cl, fp)) (fun s H C cl fp => pts_one (q4 (s, H, C, cl, fp))) (fun s H C cl fp => q3 (s, H, C, cl, fp)) hs, ?_⟩
  rw [← hv]
  exact snd_lc z1 z2 z4 z3
/-- name = [..] on one line -/
theorem ss_setLc {i : Nat} {y : Str} {py spos : Pos} {m : Mo (List D)} {p : Pat} {scope : Scope} {own : List (Str × Nat)} (hc : X.calm = true) (hN : X.N.Nodup) (hy : X.N[i]? = some y) (hyl : X.env.scope.names.lookup y = some .local)
    (hsw : swapsWith (.ListComp e [⟨tg, iter, [], 0⟩] scope pos) (some (.Name y py)) spos.line X.env = pure true) (hi : SI X W tg iter m) (ok : BlkOk X.N X.env.scope scope own) (hv : slotsP p = own.map (·.2))
    (hg : ∀ i : BI, SG (blkX X scope i) tg p) (he : ∀ i : BI, SE (blkX X scope i) W0 e ma) (hs : ∀ x, foldedSetIterable iter X.env x = pure x := by intro _; rfl) :
    SS X W (.Assign [.Name y py] (.ListComp e [⟨tg, iter, [], 0⟩] scope pos) spos) (sAsg i (eLc m p (ret true) ma)) := by
  obtain ⟨wi, q1, z1⟩ := hi
  obtain ⟨g, q2, z2⟩ := fam_G (Y := blkX X scope) (K := X.K) (fun _ => rfl) hg
  obtain ⟨te, q3, z3⟩ := fam_E (Y := blkX X scope) (K := X.K) (fun _ => rfl) he
  refine ⟨_, ps_setLc hc hN hy hyl hsw q1 ok (fun s H C cl fp => q2 (s, H, C, cl, fp)) (fun s H C cl fp => pts_nil) (fun s H C cl fp => q3 (s, H, C, cl, fp)) hs, ?_⟩
  rw [← hv]
  refine (snd_lc z1 z2 (snd_retB (b := true)) z3).toS (tk := fun b D σ H => D.nx (σ.set i (some b)) H) fun a b _ G F H ρ σ us ws D fl ρ' j hl ht hm k => ?_
  by_cases hi : i < ρ.length
  · simp only [if_pos hi] at hm
    cases hm
    refine k _ F H Ex.rfl (by simpa using hl) (by simp) ?_
    rw [← List.append_assoc, ← List.append_assoc] at j
    have j2 := j.take (i := i) (by simp [hl, ht])
    rw [List.set_append_left _ _ hi, List.set_append_left _ _ (by rw [← hl]; exact hi)] at j2
    exact j2
  · simp only [if_neg hi] at hm
    cases hm
theorem ss_setLcIf {i : Nat} {y : Str} {py spos : Pos} {m : Mo (List D)} {p : Pat} {scope : Scope} {own : List (Str × Nat)} (hc : X.calm = true) (hN : X.N.Nodup) (hy : X.N[i]? = some y) (hyl : X.env.scope.names.lookup y = some .local)
    (hsw : swapsWith (.ListComp e [⟨tg, iter, [c], 0⟩] scope pos) (some (.Name y py)) spos.line X.env = pure true) (hi : SI X W tg iter m) (ok : BlkOk X.N X.env.scope scope own) (hv : slotsP p = own.map (·.2))
    (hg : ∀ i : BI, SG (blkX X scope i) tg p) (ht : ∀ i : BI, SC (blkX X scope i) W0 c na) (he : ∀ i : BI, SE (blkX X scope i) W0 e ma) (hs : ∀ x, foldedSetIterable iter X.env x = pure x := by intro _; rfl) :
    SS X W (.Assign [.Name y py] (.ListComp e [⟨tg, iter, [c], 0⟩] scope pos) spos) (sAsg i (eLc m p na ma)) := by
  obtain ⟨wi, q1, z1⟩ := hi
  obtain ⟨g, q2, z2⟩ := fam_G (Y := blkX X scope) (K := X.K) (fun _ => rfl) hg
  obtain ⟨te, q3, z3⟩ := fam_E (Y := blkX X scope) (K := X.K) (fun _ => rfl) he
  obtain ⟨tt, q4, z4⟩ := fam_T (Y := blkX X scope) (K := X.K) (fun _ => rfl) ht
  refine ⟨_, ps_setLc hc hN hy hyl hsw q1 ok (fun s H C cl fp => q2 (s, H, C, cl, fp)) (fun s H C cl fp => pts_one (q4 (s, H, C, cl, fp))) (fun s H C cl fp => q3 (s, H, C, cl, fp)) hs, ?_⟩
  rw [← hv]
  refine (snd_lc z1 z2 z4 z3).toS (tk := fun b D σ H => D.nx (σ.set i (some b)) H) fun a b _ G F H ρ σ us ws D fl ρ' j hl ht hm k => ?_
  by_cases hi : i < ρ.length
  · simp only [if_pos hi] at hm
    cases hm
    refine k _ F H Ex.rfl (by simpa using hl) (by simp) ?_
    rw [← List.append_assoc, ← List.append_assoc] at j
    have j2 := j.take (i := i) (by simp [hl, ht])
    rw [List.set_append_left _ _ hi, List.set_append_left _ _ (by rw [← hl]; exact hi)] at j2
    exact j2
  · simp only [if_neg hi] at hm
    cases hm
end
end SL

set_option Elab.async false
set_option linter.all false
set_option maxRecDepth 100000
set_option maxHeartbeats 4000000
namespace SL
open PySem L2
/-! ### defs over data -/
abbrev FnD := List D → Option (Rs T)
def RetOk (K : PySem.W.Frag) (F H : Hp) (Q : VK) (E : XK) : Rs T → Prop
  | .ok t => t.brw = false ∧ ∀ v F' H', Ex F F' → Ex H H' → Ex F' H' → (∀ a o, F' a = some o → F a = some o ∨ H a = none) → Hold K F' H' t v → (t.own = true → ∀ a, v = .ref a → H a = none) → Q v H'
  | .exc x => ∀ c dd F' H', Ex F F' → Ex H H' → Ex F' H' → (∀ a o, F' a = some o → F a = some o ∨ H a = none) → ExcR K F' x c dd → E c dd H'
def spD (K : PySem.W.Frag) (a : Nat) (f : FnD) : Sp := fun vs H Q E => ∃ F ds r, Ex F H ∧ Reps K F ds vs ∧ ds.length = a ∧ f ds = some r ∧ RetOk K F H Q E r
def callM (a : Nat) (f : FnD) (dds : List D) (ts : List T) : Mo T := match frzs ts with
  | none => nop
  | some ds => if (ds ++ dds).length = a then (match f (ds ++ dds) with
    | none => nop
    | some (.ok t) => if t.brw = true then nop else ret t
    | some (.exc x) => fun ρ => some (.exc x, ρ)) else nop
section
variable {X : Cx} {W : WX} {a c e : Expr} {es : List Expr} {ma mb mc : Mo T} {pos : Pos} {K : PySem.W.Frag} {n : Mo (List T)}
theorem J.ret {G : Gm} {F H F' H' : Hp} {L : Sl} {M : St} {t : T} {v : V} (j : J K G F H L M) (ef : Ex F F') (eh : Ex H H') (ex : Ex F' H') (fr : ∀ a o, F' a = some o → F a = some o ∨ H a = none) (hold : Hold K F' H' t v) (hb : t.brw = false)
    (hn : t.own = true → ∀ a, v = .ref a → H a = none) : J K G F' H' (L ++ [some t]) (M ++ [some v]) := by
  by_cases ho : t.own = true
  · obtain ⟨p, u, ea, fa, ha⟩ := hold.adr ho
    subst ea
    have hp := hn ho p rfl
    have jg : J K G F' (fun b => if b = p then none else H' b) L M := by
      refine j.grow ef (fun b o hbo => ?_) (fun b o hbo => ?_) fr
      · have hbx : b ≠ p := by rintro rfl; rw [hp] at hbo; cases hbo
        show (if b = p then none else H' b) = some o
        rw [if_neg hbx]; exact eh b o hbo
      · have hbx : b ≠ p := by rintro rfl; rw [fa] at hbo; cases hbo
        show (if b = p then none else H' b) = some o
        rw [if_neg hbx]; exact ex b o hbo
    have hH : upd (fun b => if b = p then none else H' b) p u = H' := by
      funext b
      by_cases hbx : b = p
      · subst hbx; rw [upd_same, ha]
      · rw [upd_ne hbx]; simp [hbx]
    have := jg.push (p := p) (o := u) (t := t) (by simp) ho hb (by rw [hH]; exact hold)
    rw [hH] at this
    exact this
  · cases t with
    | dat d => exact (j.grow ef eh ex fr).dat hold
    | lst _ _ => exact absurd rfl ho
    | ins _ _ _ _ => exact absurd rfl ho
theorem snd_callM {k : Nat} {f : FnD} {dds : List D} {dvs : List V} (hd : ∀ F, Reps K F dds dvs) (ts : List T) (vs : List V) :
    SndX K W (ts.map some) (vs.map some) plT pmT (fun _ _ => True) (fun σ H Q => spD K k f (vs ++ dvs) H Q (WE W σ)) (callM k f dds ts) := by
  intro G F H ρ σ us ws Q r ρ' j hl ht hm kk
  unfold callM at hm
  cases hf : frzs ts with
  | none => rw [hf] at hm; cases hm
  | some ds =>
    rw [hf] at hm
    simp only at hm
    by_cases ha : (ds ++ dds).length = k
    · rw [if_pos ha] at hm
      unfold frzs at hf
      by_cases hb : ts.any T.brw = true
      · rw [if_pos hb] at hf; cases hf
      · rw [if_neg hb] at hf
        cases hf
        rw [← List.append_assoc, ← List.append_assoc] at j
        obtain ⟨F1, x1, j1, r1⟩ := j.freezes (by simp [hl, ht]) (by simpa using hb)
        have j2 := j1.pre (by simp [hl, ht])
        cases hq : f (ts.map T.fz ++ dds) with
        | none => rw [hq] at hm; cases hm
        | some o =>
          rw [hq] at hm
          refine ⟨F1, _, o, j2.ex, r1.app (hd F1), ha, hq, ?_⟩
          cases o with
          | ok t =>
            simp only at hm
            by_cases hb2 : t.brw = true
            · rw [if_pos hb2] at hm; cases hm
            · rw [if_neg hb2] at hm
              cases hm
              refine ⟨by simpa using hb2, fun v F' H' e1 e2 e3 e4 rd hn => ?_⟩
              exact kk v F' H' (x1.trans e1) hl trivial (by rw [← List.append_assoc, ← List.append_assoc]; exact j2.ret e1 e2 e3 e4 rd (by simpa using hb2) hn)
          | exc x =>
            cases hm
            intro c dd F' H' e1 e2 e3 e4 rx
            exact kk c dd F' H' (x1.trans e1) hl (j2.grow e1 e2 e3 e4) rx
    · rw [if_neg ha] at hm; cases hm
/-- no exception comes -/
def noX (m : Mo T) : Mo T := fun ρ => match m ρ with
  | some (.ok t, ρ') => some (.ok t, ρ')
  | _ => none
theorem snd_callM0 {k : Nat} {f : FnD} {dds : List D} {dvs : List V} (hd : ∀ F, Reps K F dds dvs) (ts : List T) (vs : List V) :
    SndX K W (ts.map some) (vs.map some) plT pmT (fun _ _ => True) (fun σ H Q => spD K k f (vs ++ dvs) H Q E0) (noX (callM k f dds ts)) := by
  intro G F H ρ σ us ws Q r ρ' j hl ht hm kk
  unfold noX at hm
  cases e : callM k f dds ts ρ with
  | none => rw [e] at hm; cases hm
  | some q =>
    obtain ⟨r1, ρ1⟩ := q
    rw [e] at hm
    cases r1 with
    | exc x => cases hm
    | ok t =>
      cases hm
      exact snd_callM (W := W0) hd ts vs G F H ρ σ us ws Q _ ρ' j hl ht e kk
/-- a def over data that stands behind a module's name -/
structure DefOk (P : Program) (w : World) (K : PySem.W.Frag) (mg : Str → Option Value) (base : Heap) (k : Nat) (x : Str) (a : Nat) (dds : List D) (f : FnD) : Prop where
  ex : ∃ fa fd ps dvs ds, FnOk P w K mg base (L2.CX P w) k fa fd ps (spD K a f) ∧ mg x = some (.ref fa) ∧ PySem.W.keepIn K (.ref fa) = true ∧ Binds K fd ps ds ∧ Vals dvs ds ∧ ∀ F, Reps K F dds dvs
def eCall (a : Nat) (f : FnD) (dds : List D) (n : Mo (List T)) : Mo T := bnd n (callM a f dds)
def eCall0 (a : Nat) (f : FnD) (dds : List D) (n : Mo (List T)) : Mo T := bnd n fun ts => noX (callM a f dds ts)
theorem pass00 {σ : St} : PassesAt (L2.CX X.prog X.w) X σ (WE W0 σ) := fun _ _ _ _ _ _ h => by
  obtain ⟨_, _, _, _, _, _, _, _, _, _, _, _, z⟩ := h
  exact z.elim
theorem se_call {k : Nat} {x : Str} {p : Pos} {ar : Nat} {dds : List D} {f : FnD} (h : DefOk X.prog X.w X.K X.mg X.base k x ar dds f) (hr : Room k X.A) (hx : ∀ σ, PassesAt (L2.CX X.prog X.w) X σ (WE W σ)) (g : SA X W (e :: es) n) (hg : Gl X x := by rfl)
    (hdb : (x == ("__debug__" : Str)) = false := by decide) (he : starEach (e :: es) X.env = (false, eval e X.env) :: starEach es X.env := by rfl) (hpl : (backTo pos (starEach es X.env)).any (·.1) = false := by rfl) :
    SE X W (.Call (.Name x p) (e :: es) [] pos) (eCall ar f dds n) := by
  obtain ⟨fa, fd, ps, dvs, ds, F, hm, kp, hb, hd, hr2⟩ := h.ex
  obtain ⟨ta, q, z⟩ := g
  exact ⟨_, pe_callSD F hr hg hm kp hb hd hx q hdb he hpl, SndX.bnd (t2 := fun vs σ H Q => spD X.K ar f (vs ++ dvs) H Q (WE W σ)) rfl z fun us xs _ => snd_callM hr2 us xs⟩
theorem se_call0 {k : Nat} {x : Str} {p : Pos} {ar : Nat} {dds : List D} {f : FnD} (h : DefOk X.prog X.w X.K X.mg X.base k x ar dds f) (hr : Room k X.A) (g : SA X W (e :: es) n) (hg : Gl X x := by rfl)
    (hdb : (x == ("__debug__" : Str)) = false := by decide) (he : starEach (e :: es) X.env = (false, eval e X.env) :: starEach es X.env := by rfl) (hpl : (backTo pos (starEach es X.env)).any (·.1) = false := by rfl) :
    SE X W (.Call (.Name x p) (e :: es) [] pos) (eCall0 ar f dds n) := by
  obtain ⟨fa, fd, ps, dvs, ds, F, hm, kp, hb, hd, hr2⟩ := h.ex
  obtain ⟨ta, q, z⟩ := g
  exact ⟨_, pe_callSD F hr hg hm kp hb hd (E := fun _ => E0) (fun σ => pass00) q hdb he hpl, SndX.bnd (t2 := fun vs σ H Q => spD X.K ar f (vs ++ dvs) H Q E0) rfl z fun us xs _ => snd_callM0 hr2 us xs⟩

/-! ### instances -/
def idxOf (f : Str) : List Str → List D → Option D
  | g :: ns, d :: ds => if g = f then some d else idxOf f ns ds
  | _, _ => none
theorem idx_rep {K : PySem.W.Frag} {F : Hp} {f : Str} : ∀ {ns : List Str} {ds : List D} {vs : List V} {d : D}, idxOf f ns ds = some d → Reps K F ds vs → ∃ v, (ns.zip vs).lookup f = some v ∧ Rep K F d v
  | [], ds, vs, d, h, r => by unfold idxOf at h; cases h
  | g :: ns, [], vs, d, h, r => by unfold idxOf at h; cases h
  | g :: ns, x :: ds, vs, d, h, r => by
    unfold Reps at r
    obtain ⟨v, vr, rfl, r1, r2⟩ := r
    unfold idxOf at h
    by_cases e : g = f
    · rw [if_pos e] at h
      cases h
      exact ⟨v, by subst e; simp [List.lookup], r1⟩
    · rw [if_neg e] at h
      obtain ⟨u, hu, ru⟩ := idx_rep h r2
      refine ⟨u, ?_, ru⟩
      have : (f == g) = false := beq_eq_false_iff_ne.mpr (Ne.symm e)
      simp only [List.zip_cons_cons, List.lookup, this]
      exact hu
theorem zip_none {f : Str} : ∀ {ns : List Str} {vs : List V}, ns.contains f = false → (ns.zip vs).lookup f = none
  | [], _, _ => rfl
  | g :: ns, [], _ => rfl
  | g :: ns, v :: vs, h => by
    simp only [List.contains_cons, Bool.or_eq_false_iff] at h
    simp only [List.zip_cons_cons, List.lookup, h.1]
    exact zip_none h.2
/-- the classes whose attributes are read as they stand -/
structure FldOk (K : PySem.W.Frag) (cs : List Str) (f : Str) : Prop where
  ok : ∀ C ∈ cs, Cls K (He.ga K C) ∧ NoAttr K (He.ga K C) f
def fldM (cs : List Str) (f : Str) : List D → Option Out := one fun d => match d with
  | .obj C ns fs => if cs.contains C = true then (idxOf f ns fs).map .dt else none
  | _ => none
def eFld (cs : List Str) (f : Str) (m : Mo T) : Mo T := bnd m fun t => opM (fldM cs f) [t]
theorem se_fld {cs : List Str} {f : Str} (h : FldOk X.K cs f) (he : SE X W e ma) (hb : attributeBase e f X.env (eval e X.env) = eval e X.env := by rfl) : SE X W (.Attribute e f pos) (eFld cs f ma) := by
  obtain ⟨te, p, z⟩ := he
  refine ⟨_, pe_fld p hb, SndX.bnd (t2 := fun x σ H Q => ∃ a C dx fs v, x = .ref a ∧ H a = some (.ins C dx fs) ∧ Cls X.K C ∧ NoAttr X.K C f ∧ fs.lookup f = some v ∧ Q v H) rfl z fun t x _ => ?_⟩
  refine snd_out (f := fldM cs f) [t] [x] fun F H σ Q ds o e rd hf q => ?_
  obtain ⟨d, rfl, r1⟩ := reps1 rd
  unfold fldM one at hf
  cases d with
  | obj C ns fs =>
    simp only at hf
    by_cases hc : cs.contains C = true
    · rw [if_pos hc] at hf
      cases hi : idxOf f ns fs with
      | none => rw [hi] at hf; cases hf
      | some y =>
        rw [hi] at hf
        cases hf
        unfold Rep at r1
        obtain ⟨aa, dx, vs, rfl, h1, h2, h3⟩ := r1
        obtain ⟨v, hv, rv⟩ := idx_rep hi h3
        obtain ⟨c1, c2⟩ := h.ok C (by simpa using hc)
        exact ⟨aa, _, dx, _, v, rfl, e _ _ h1, c1, c2, hv, q.val e rv⟩
    · rw [if_neg hc] at hf; cases hf
  | _ => cases hf
/-- an instance of the class C whose attributes do not hide the name m -/
def chk (C m : Str) (t : T) : Mo T := if t.brw = true then nop else match t.fz with
  | .obj C' ns fs => if C' = C ∧ ns.contains m = false then ret (.dat (.obj C' ns fs)) else nop
  | _ => nop
theorem snd_chk {C m : Str} {t : T} {x : V} : SndX K W [some t] [some x] plT pmT (fun t v => v = x) (fun σ H Q => ∃ a dx fs, x = .ref a ∧ H a = some (.ins (He.ga K C) dx fs) ∧ fs.lookup m = none ∧ Q x H) (chk C m t) := by
  intro G F H ρ σ us ws Q r ρ' j hl ht hm k
  unfold chk at hm
  by_cases hb : t.brw = true
  · rw [if_pos hb] at hm; cases hm
  · rw [if_neg hb] at hm
    obtain ⟨F1, x1, j1, rd⟩ := j.fzLast hl ht (by simpa using hb)
    cases hf : t.fz with
    | obj C' ns fs =>
      rw [hf] at hm rd j1
      simp only at hm
      by_cases hc : C' = C ∧ ns.contains m = false
      · rw [if_pos hc] at hm
        cases hm
        obtain ⟨rfl, h2⟩ := hc
        have rd' := rd
        unfold Rep at rd'
        obtain ⟨aa, dx, vs, rfl, h1, h3, h4⟩ := rd'
        exact ⟨aa, dx, _, rfl, j1.ex _ _ h1, zip_none h2, k (.ref aa) F1 H x1 hl rfl j1⟩
      · rw [if_neg hc] at hm; cases hm
    | _ => rw [hf] at hm; cases hm
/-- a method over data -/
structure MetOk (P : Program) (w : World) (K : PySem.W.Frag) (mg : Str → Option Value) (base : Heap) (k : Nat) (C m : Str) (a : Nat) (dds : List D) (f : FnD) : Prop where
  ex : ∃ fa fd ps dvs ds, FnOk P w K mg base (L2.CX P w) k fa fd ps (spD K a f) ∧ Cls K (He.ga K C) ∧ Meth K (He.ga K C) m fa ∧ Binds K fd ps ds ∧ Vals dvs ds ∧ ∀ F, Reps K F dds dvs
def eMet (C m : Str) (a : Nat) (f : FnD) (dds : List D) (mo : Mo T) (n : Mo (List T)) : Mo T := bnd mo fun t => bnd (chk C m t) fun t => bnd n fun ts => noX (callM a f dds (t :: ts))
theorem snd_met {C m : Str} {ar : Nat} {dds : List D} {dvs : List V} {f : FnD} {ta : TE} {t : TA} (hd : ∀ F, Reps K F dds dvs) (z1 : SndE K W ta ma) (z2 : SndA K W t n) : SndE K W (tMeth (He.ga K C) m (spD K ar f) dvs E0 ta t) (eMet C m ar f dds ma n) := by
  refine SndX.bnd (t2 := fun x σ H Q => ∃ a dx fs, x = .ref a ∧ H a = some (.ins (He.ga K C) dx fs) ∧ fs.lookup m = none ∧ t σ H fun vs H2 => spD K ar f (x :: (vs ++ dvs)) H2 Q E0) rfl z1 fun u x _ => ?_
  refine SndX.pre (t1 := fun σ H Q => ∃ a dx fs, x = .ref a ∧ H a = some (.ins (He.ga K C) dx fs) ∧ fs.lookup m = none ∧ Q x H) (t2 := fun y σ H Q => t σ H fun vs H2 => spD K ar f (x :: (vs ++ dvs)) H2 Q E0) rfl snd_chk fun u y hy => ?_
  subst hy
  refine SndX.bnd (L0 := [some u]) (M0 := [some y]) (t2 := fun vs σ H2 Q => spD K ar f (y :: (vs ++ dvs)) H2 Q E0) rfl z2 fun us xs _ => ?_
  exact snd_callM0 hd (u :: us) (y :: xs)
theorem se_met {k : Nat} {C m : Str} {ar : Nat} {dds : List D} {f : FnD} {o : Expr} {apos : Pos} {pl : Sem Bool} (h : MetOk X.prog X.w X.K X.mg X.base k C m ar dds f) (hr : Room k X.A) (ho : SE X W o ma) (g : SA X W (e :: es) n)
    (hst : starEach (e :: es) X.env = (false, eval e X.env) :: starEach es X.env := by rfl) (hpl : (backTo pos (starEach es X.env)).any (·.1) = false := by rfl)
    (ht : eval (.Call (.Attribute o m apos) (e :: es) [] pos) X.env = (do
      let ov ← eval o X.env
      standAt apos.atName
      let (f, first) ← holding [ov] (getMethod ov m pl)
      callWith pos f first (backTo pos (starEach (e :: es) X.env)) (backToKw pos (keywordEach [] X.env))) := by rfl) :
    SE X W (.Call (.Attribute o m apos) (e :: es) [] pos) (eMet C m ar f dds ma n) := by
  obtain ⟨fa, fd, ps, dvs, ds, F, hc, hm, hb, hd, hr2⟩ := h.ex
  obtain ⟨to, q1, z1⟩ := ho
  obtain ⟨ta, q, z⟩ := g
  exact ⟨_, pe_meth q1 hc hm F hr hb hd passL q hst hpl ht, snd_met hr2 z1 z⟩
theorem se_met0 {k : Nat} {C m : Str} {ar : Nat} {dds : List D} {f : FnD} {o : Expr} {apos : Pos} {pl : Sem Bool} (h : MetOk X.prog X.w X.K X.mg X.base k C m ar dds f) (hr : Room k X.A) (ho : SE X W o ma)
    (ht : eval (.Call (.Attribute o m apos) [] [] pos) X.env = (do
      let ov ← eval o X.env
      standAt apos.atName
      let (f, first) ← holding [ov] (getMethod ov m pl)
      callWith pos f first (backTo pos (starEach [] X.env)) (backToKw pos (keywordEach [] X.env))) := by rfl) :
    SE X W (.Call (.Attribute o m apos) [] [] pos) (eMet C m ar f dds ma (ret [])) := by
  obtain ⟨fa, fd, ps, dvs, ds, F, hc, hm, hb, hd, hr2⟩ := h.ex
  obtain ⟨to, q1, z1⟩ := ho
  refine ⟨_, pe_meth0 q1 hc hm F hr hb hd passL ht, snd_met hr2 z1 fun G F H ρ σ us ws Q r ρ' j hl ht hm k => ?_⟩
  cases hm
  exact k [] F H Ex.rfl hl rfl j
/-- a property over data -/
structure PrpOk (P : Program) (w : World) (K : PySem.W.Frag) (mg : Str → Option Value) (base : Heap) (k : Nat) (C m : Str) (f : FnD) : Prop where
  ex : ∃ pa fa fd ps, FnOk P w K mg base (L2.CX P w) k fa fd ps (spD K 1 f) ∧ Cls K (He.ga K C) ∧ PropOf K (He.ga K C) m pa fa ∧ Binds K fd ps []
def ePrp (C : Str) (f : FnD) (mo : Mo T) : Mo T := bnd mo fun t => bnd (chk C "" t) fun t => noX (callM 1 f [] [t])
theorem se_prp {k : Nat} {C m : Str} {f : FnD} {o : Expr} (h : PrpOk X.prog X.w X.K X.mg X.base k C m f) (hr : Room (k + 1) X.A) (ho : SE X W o ma) (hab : attributeBase o m X.env (eval o X.env) = eval o X.env := by rfl) :
    SE X W (.Attribute o m pos) (ePrp C f ma) := by
  obtain ⟨pa, fa, fd, ps, F, hc, hm, hb⟩ := h.ex
  obtain ⟨to, q1, z1⟩ := ho
  refine ⟨_, pe_prop q1 hc hm F hr hb .nil passL hab, ?_⟩
  refine SndX.bnd (t2 := fun (x : V) σ H (Q : VK) => ∃ a dx fs, x = .ref a ∧ H a = some (.ins (He.ga X.K C) dx fs) ∧ spD X.K 1 f (.ref a :: []) H Q E0) rfl z1 fun u x _ => ?_
  have q : SndX X.K W [some u] [some x] plT pmT (fun _ _ => True) (fun σ H Q => ∃ a dx fs, x = .ref a ∧ H a = some (.ins (He.ga X.K C) dx fs) ∧ fs.lookup ("" : Str) = none ∧ spD X.K 1 f ([x] ++ []) H Q E0) (bnd (chk C "" u) fun t => noX (callM 1 f [] [t])) := by
    refine SndX.pre (t1 := fun σ H Q => ∃ a dx fs, x = .ref a ∧ H a = some (.ins (He.ga X.K C) dx fs) ∧ fs.lookup ("" : Str) = none ∧ Q x H) (t2 := fun y σ H Q => spD X.K 1 f ([x] ++ []) H Q E0) rfl snd_chk fun u y hy => ?_
    subst hy
    exact snd_callM0 (dvs := []) (fun _ => reps_nil) [u] [y]
  refine q.cg fun σ H Q ⟨a, dx, fs, e1, e2, _, e3⟩ => ⟨a, dx, fs, e1, e2, ?_⟩
  subst e1
  exact e3

/-! ### defs whose first argument is lent (self of __init__, a list that is changed) -/
abbrev FnB := T → List D → Option (Rs D × T)
def Apart (H H' : Hp) (v : V) : Prop := ∀ b o, H b = some o → v ≠ .ref b → H' b = some o
def RetB (K : PySem.W.Frag) (F H : Hp) (v0 : V) (Q : VK) (E : XK) (t' : T) : Rs D → Prop
  | .ok d => ∀ v F' H', Ex F F' → Apart H H' v0 → Ex F' H' → (∀ a o, F' a = some o → F a = some o ∨ H a = none) → Hold K F' H' t' v0 → Rep K F' d v → Q v H'
  | .exc x => ∀ c dd F' H', Ex F F' → Apart H H' v0 → Ex F' H' → (∀ a o, F' a = some o → F a = some o ∨ H a = none) → Hold K F' H' t' v0 → ExcR K F' x c dd → E c dd H'
def spB (K : PySem.W.Frag) (a : Nat) (f : FnB) : Sp := fun vs H Q E => ∃ F t v0 ds vs' r t', vs = v0 :: vs' ∧ Ex F H ∧ Hold K F H t v0 ∧ t.own = true ∧ t.brw = true ∧ Reps K F ds vs' ∧ ds.length = a ∧ f t ds = some (r, t') ∧ RetB K F H v0 Q E t' r
/-- a class that is made: its __init__ -/
structure MakOk (P : Program) (w : World) (K : PySem.W.Frag) (mg : Str → Option Value) (base : Heap) (k : Nat) (C : Str) (a : Nat) (dds : List D) (f : FnB) : Prop where
  ex : ∃ fa fd ps dvs ds, FnOk P w K mg base (L2.CX P w) k fa fd ps (spB K a f) ∧ Mk K (He.ga K C) fa ∧ mg C = some (.ref (He.ga K C)) ∧ Binds K fd ps ds ∧ Vals dvs ds ∧ ∀ F, Reps K F dds dvs
def makM (C : Str) (a : Nat) (f : FnB) (dds : List D) (ts : List T) : Mo T := match frzs ts with
  | none => nop
  | some ds => if (ds ++ dds).length = a then (match f (.ins true C [] []) (ds ++ dds) with
    | some (.ok .non, .ins true C' ns fs) => ret (.ins false C' ns fs)
    | _ => nop) else nop
theorem snd_makM {C : Str} {k : Nat} {f : FnB} {dds : List D} {dvs : List V} (hd : ∀ F, Reps K F dds dvs) (ts : List T) (vs : List V) :
    SndX K W (ts.map some) (vs.map some) plT pmT (fun _ _ => True) (fun σ H Q => ∀ x dx, H x = none → H dx = none → dx ≠ x →
      spB K k f (.ref x :: (vs ++ dvs)) (upd (upd H dx (.own x)) x (.ins (He.ga K C) dx [])) (fun v H2 => v = .non ∧ Q (.ref x) H2) E0) (makM C k f dds ts) := by
  intro G F H ρ σ us ws Q r ρ' j hl ht hm kk x dx hx hdx hne
  unfold makM at hm
  cases hf : frzs ts with
  | none => rw [hf] at hm; cases hm
  | some ds =>
    rw [hf] at hm
    simp only at hm
    by_cases ha : (ds ++ dds).length = k
    · rw [if_pos ha] at hm
      unfold frzs at hf
      by_cases hb : ts.any T.brw = true
      · rw [if_pos hb] at hf; cases hf
      · rw [if_neg hb] at hf
        cases hf
        rw [← List.append_assoc, ← List.append_assoc] at j
        obtain ⟨F1, x1, j1, r1⟩ := j.freezes (by simp [hl, ht]) (by simpa using hb)
        have j2 := j1.pre (by simp [hl, ht])
        cases hq : f (.ins true C [] []) (ts.map T.fz ++ dds) with
        | none => rw [hq] at hm; cases hm
        | some o =>
          obtain ⟨o1, t'⟩ := o
          rw [hq] at hm
          cases o1 with
          | exc x => cases hm
          | ok d =>
            cases d with
            | non =>
              cases t' with
              | dat d => cases hm
              | lst b xs => cases hm
              | ins b C' ns fs =>
                cases b with
                | false => cases hm
                | true =>
                  cases hm
                  -- the dict cell is known data, the instance is new
                  have j3 : J K G (upd F1 dx (.own x)) (upd H dx (.own x)) (ρ ++ us) (σ ++ ws) := j2.frz hdx
                  have hx2 : (upd H dx (.own x)) x = none := by rw [upd_ne (Ne.symm hne)]; exact hx
                  have fx : (upd F1 dx (.own x)) x = none := j3.ex.back hx2
                  have j4 := j3.heap (o := .ins (He.ga K C) dx []) hx2
                  have eF : Ex F1 (upd F1 dx (.own x)) := Ex.new (j2.ex.back hdx)
                  refine ⟨upd F1 dx (.own x), .ins true C [] [], .ref x, _, _, .ok .non, .ins true C' ns fs, rfl, j4.ex, ⟨x, dx, [], rfl, fx, by rw [upd_same]; rfl, rfl, reps_nil⟩, rfl, rfl, Reps.mono eF _ _ (r1.app (hd F1)), ha, hq, ?_⟩
                  intro v F' H' e1 e2 e3 e4 hold rd
                  unfold Rep at rd
                  refine ⟨rd, kk (.ref x) F' H' (x1.trans (eF.trans e1)) hl trivial ?_⟩
                  -- back to the caller's slots: x left out of what is known
                  obtain ⟨a', dx', vs', q1, q2, q3, q4, q5⟩ := hold
                  cases q1
                  have jg : J K G F' (fun b => if b = x then none else H' b) (ρ ++ us) (σ ++ ws) := by
                    refine j3.grow e1 (fun b o hbo => ?_) (fun b o hbo => ?_) (fun b o hbo => ?_)
                    · have hbx : b ≠ x := by rintro rfl; rw [hx2] at hbo; cases hbo
                      show (if b = x then none else H' b) = some o
                      rw [if_neg hbx]
                      exact e2 b o (by rw [upd_ne hbx]; exact hbo) (by rintro z; cases z; exact hbx rfl)
                    · have hbx : b ≠ x := by rintro rfl; rw [q2] at hbo; cases hbo
                      show (if b = x then none else H' b) = some o
                      rw [if_neg hbx]
                      exact e3 b o hbo
                    · rcases e4 b o hbo with z | z
                      · exact Or.inl z
                      · have hbx : b ≠ x := by rintro rfl; rw [upd_same] at z; cases z
                        rw [upd_ne hbx] at z
                        exact Or.inr z
                  have hpush := jg.push (p := x) (o := .ins (He.ga K C') dx' (ns.zip vs')) (t := .ins false C' ns fs) (by simp) rfl rfl ⟨x, dx', vs', rfl, q2, upd_same, q4, q5⟩
                  have hH : upd (fun b => if b = x then none else H' b) x (.ins (He.ga K C') dx' (ns.zip vs')) = H' := by
                    funext b
                    by_cases hbx : b = x
                    · subst hbx; rw [upd_same, q3]
                    · rw [upd_ne hbx]; simp [hbx]
                  rw [hH] at hpush
                  rw [← List.append_assoc, ← List.append_assoc]
                  exact hpush
            | _ => cases hm
    · rw [if_neg ha] at hm; cases hm
def eMak (C : Str) (a : Nat) (f : FnB) (dds : List D) (n : Mo (List T)) : Mo T := bnd n (makM C a f dds)
theorem se_mak {k : Nat} {C : Str} {p : Pos} {ar : Nat} {dds : List D} {f : FnB} (h : MakOk X.prog X.w X.K X.mg X.base k C ar dds f) (hr : Room (k + 1) X.A) (g : SA X W (e :: es) n) (hg : Gl X C := by rfl)
    (hdb : (C == ("__debug__" : Str)) = false := by decide) (he : starEach (e :: es) X.env = (false, eval e X.env) :: starEach es X.env := by rfl) (hpl : (backTo pos (starEach es X.env)).any (·.1) = false := by rfl) :
    SE X W (.Call (.Name C p) (e :: es) [] pos) (eMak C ar f dds n) := by
  obtain ⟨fa, fd, ps, dvs, ds, F, M, hm, hb, hd, hr2⟩ := h.ex
  obtain ⟨ta, q, z⟩ := g
  exact ⟨_, pe_make M F hr hg hm hb hd passL q hdb he hpl, SndX.bnd (t2 := fun (vs : List V) σ H (Q : VK) => ∀ x dx, H x = none → H dx = none → dx ≠ x → spB X.K ar f (.ref x :: (vs ++ dvs)) (upd (upd H dx (.own x)) x (.ins (He.ga X.K C) dx [])) (fun v H2 => v = .non ∧ Q (.ref x) H2) E0) rfl z fun us xs _ => snd_makM hr2 us xs⟩
end
end SL

set_option Elab.async false
set_option linter.all false
set_option maxRecDepth 100000
set_option maxHeartbeats 4000000
namespace SL
open PySem PySem.Spec L2
theorem J.last {K : PySem.W.Frag} {G : Gm} {F H : Hp} {ρ us : Sl} {σ ws : L2.St} {t : T} {v : V} (j : J K G F H (ρ ++ (us ++ [some t])) (σ ++ (ws ++ [some v]))) (hl : ρ.length = σ.length) (ht : us.length = ws.length) : Hold K F H t v := by
  have e1 : (ρ ++ (us ++ [some t]))[(ρ ++ us).length]? = some (some t) := by rw [← List.append_assoc]; simp
  obtain ⟨w, m1, h, _⟩ := j.ok _ _ e1
  have : (σ ++ (ws ++ [some v]))[(ρ ++ us).length]? = some (some v) := by
    rw [← List.append_assoc]
    have : (ρ ++ us).length = (σ ++ ws).length := by simp [hl, ht]
    rw [this]; simp
  rw [this] at m1; cases m1
  exact h
/-! ### a def's body is its function -/
def bodyD (m : Nat) (s : So) : FnD := fun ds => match s (ds.map (fun d => some (T.dat d)) ++ List.replicate m none) with
  | some (.next, _) => some (.ok (.dat .non))
  | some (.ret t, _) => if t.brw = true then none else some (.ok t)
  | some (.exc x, _) => some (.exc x)
  | _ => none
def finB (r : Rs D) (ρ : Sl) : Option (Rs D × T) := match ρ[0]? with
  | some (some t) => if t.brw = true then some (r, t) else none
  | _ => none
def bodyB (m : Nat) (s : So) : FnB := fun t ds => match s (some t :: (ds.map (fun d => some (T.dat d)) ++ List.replicate m none)) with
  | some (.next, ρ) => finB (.ok .non) ρ
  | some (.ret u, ρ) => if u.brw = true then none else finB (.ok u.fz) ρ
  | some (.exc x, ρ) => finB (.exc x) ρ
  | _ => none
theorem slot_dat {ds : List D} {m i : Nat} {t : T} (h : (ds.map (fun d => some (T.dat d)) ++ List.replicate m none)[i]? = some (some t)) : ∃ d, ds[i]? = some d ∧ t = .dat d := by
  by_cases hi : i < ds.length
  · rw [List.getElem?_append_left (by simpa using hi), List.getElem?_map] at h
    cases e : ds[i]? with
    | none => rw [e] at h; cases h
    | some d => rw [e] at h; cases h; exact ⟨d, rfl, rfl⟩
  · rw [List.getElem?_append_right (by simp; omega), List.getElem?_replicate] at h
    split at h <;> cases h
theorem start_dat {N : List Str} {vs : List V} {i : Nat} {v : V} (h : vs[i]? = some v) : (L2.start N vs)[i]? = some (some v) := by
  unfold L2.start
  have hi := (List.getElem?_eq_some_iff.mp h).1
  rw [List.getElem?_append_left (by simpa using hi), List.getElem?_map, h]; rfl
theorem j_start {K : PySem.W.Frag} {F H : Hp} {ds : List D} {vs : List V} {N : List Str} {m : Nat} (e : Ex F H) (r : Reps K F ds vs) (hN : N.length = ds.length + m) : J K ⟨F, H, fun _ => False⟩ F H (ds.map (fun d => some (T.dat d)) ++ List.replicate m none) (L2.start N vs) := by
  refine ⟨e, by unfold L2.start; simp [r.len]; omega, fun i t h => ?_, fun i j t t' v ni h h' o => ?_, fun a o h _ => h, fun a o h => .inl h, Ex.rfl, fun a h => h.elim⟩
  · obtain ⟨d, h1, rfl⟩ := slot_dat h
    obtain ⟨v, h2, h3⟩ := r.get h1
    exact ⟨v, start_dat h2, h3, fun o => by cases o⟩
  · obtain ⟨d, h1, rfl⟩ := slot_dat h
    cases o
theorem j_startB {K : PySem.W.Frag} {F H : Hp} {t0 : T} {v0 : V} {ds : List D} {vs : List V} {N : List Str} {m : Nat} (e : Ex F H) (h0 : Hold K F H t0 v0) (ho : t0.own = true) (hb : t0.brw = true) (r : Reps K F ds vs) (hN : N.length = ds.length + 1 + m) :
    J K ⟨F, H, fun a => v0 = .ref a⟩ F H (some t0 :: (ds.map (fun d => some (T.dat d)) ++ List.replicate m none)) (L2.start N (v0 :: vs)) := by
  have st : L2.start N (v0 :: vs) = some v0 :: (vs.map some ++ List.replicate m none) := by
    unfold L2.start
    simp [r.len]; omega
  rw [st]
  refine ⟨e, by simp [r.len], fun i t h => ?_, fun i j t t' v ni h h' o o' => ?_, fun a o h _ => h, fun a o h => .inl h, Ex.rfl, fun a h => ?_⟩
  · cases i with
    | zero =>
      simp at h; subst h
      exact ⟨v0, by simp, h0, fun _ a ea => by rw [hb]; exact ea⟩
    | succ i =>
      simp only [List.getElem?_cons_succ] at h
      obtain ⟨d, h1, rfl⟩ := slot_dat h
      obtain ⟨v, h2, h3⟩ := r.get h1
      refine ⟨v, ?_, h3, fun o => by cases o⟩
      simp only [List.getElem?_cons_succ]
      have hi := (List.getElem?_eq_some_iff.mp h2).1
      rw [List.getElem?_append_left (by simpa using hi), List.getElem?_map, h2]; rfl
  · cases i with
    | zero =>
      cases j with
      | zero => exact absurd rfl ni
      | succ j =>
        simp only [List.getElem?_cons_succ] at h'
        obtain ⟨d, _, rfl⟩ := slot_dat h'
        cases o'
    | succ i =>
      simp only [List.getElem?_cons_succ] at h
      obtain ⟨d, _, rfl⟩ := slot_dat h
      cases o
  · obtain ⟨b, u, e1, e2, e3⟩ := h0.adr ho
    have h' : v0 = .ref a := h
    rw [h'] at e1; cases e1
    exact ⟨u, e3⟩
section
variable {P : Program} {w : World} {K : PySem.W.Frag} {mg : Str → Option Value} {base : Heap} {x qual : Str} {params : Arguments} {body : List Stmt} {scope : Scope} {dvs : List V} {kws : List (Str × V)} {f : Addr} {fd : FuncData} {N ps : List Str} {k : Nat}
theorem fnD (F : FunD K x qual params body scope dvs kws f fd) (S : FnScope N ps scope) (sem : So) (m : Nat) (hm : N.length = ps.length + m)
    (hb : ∀ (cdv : Value) (A : Around) (outer : List Env) (s : Shared) (H : Hp) (E : XK), Room k (A.deeper (PyProof.Rows.envOfC qual scope s.heap.objs.size f cdv)) → SSs (cxOf (L2.CX P w) P w K mg base N qual scope f cdv A outer s H E) (fun c d _ H => E c d H) body sem) :
    FnOk P w K mg base (L2.CX P w) (k + 1) f fd ps (spD K ps.length (bodyD m sem)) := by
  refine F.ok S (fun vs H Q E h => ?_) (fun cdv A outer s H vs Q E hr h => ?_)
  · obtain ⟨F0, ds, r, _, rd, hl, _, _⟩ := h
    rw [rd.len, hl]
  · obtain ⟨F0, ds, r, ex, rd, hl, hf, hret⟩ := h
    obtain ⟨t, p, z⟩ := hb cdv A outer s H E hr
    refine ⟨t, p, ?_⟩
    have j0 := j_start (N := N) (m := m) ex rd (by rw [hm, hl])
    have hlen := j0.len
    unfold bodyD at hf
    cases e : sem (ds.map (fun d => some (T.dat d)) ++ List.replicate m none) with
    | none => rw [e] at hf; cases hf
    | some q =>
      obtain ⟨fl, ρ'⟩ := q
      rw [e] at hf
      refine z ⟨F0, H, fun _ => False⟩ F0 H _ (L2.start N vs) [] [] _ fl ρ' (by rw [List.append_nil, List.append_nil]; exact j0) hlen rfl e ?_
      have goal : ∀ {F' H' : Hp} {L : Sl} {M : St} (j : J K ⟨F0, H, fun _ => False⟩ F' H' L M), Ex H H' ∧ Ex F' H' ∧ ∀ a o, F' a = some o → F0 a = some o ∨ H a = none :=
        fun j => ⟨fun a o h => j.base a o h (fun z => z), j.ex, j.frs⟩
      cases fl with
      | next =>
        cases hf
        intro σ' F' H' e1 l1 l2 j1
        obtain ⟨g1, g2, g3⟩ := goal j1
        exact hret.2 .non F' H' e1 g1 g2 g3 (show Rep K F' .non .non from rep_non) (fun o => by cases o)
      | brk => cases hf
      | cont => cases hf
      | ret u =>
        simp only at hf
        by_cases hb : u.brw = true
        · rw [if_pos hb] at hf; cases hf
        · rw [if_neg hb] at hf
          cases hf
          intro v σ' F' H' e1 l1 l2 j1
          obtain ⟨g1, g2, g3⟩ := goal j1
          refine hret.2 v F' H' e1 g1 g2 g3 (j1.last (l1.trans l2.symm) rfl) fun ho a ea => ?_
          subst ea
          have e9 : (ρ' ++ ([] ++ [some u]))[ρ'.length]? = some (some u) := by simp
          obtain ⟨w9, m9, _, br⟩ := j1.ok _ _ e9
          have : (σ' ++ ([] ++ [some (V.ref a)]))[ρ'.length]? = some (some (V.ref a)) := by rw [l1.trans l2.symm]; simp
          rw [this] at m9; cases m9
          have := br ho a rfl
          rw [if_neg hb] at this
          exact this.1
      | exc x =>
        cases hf
        intro c d σ' F' H' e1 l1 l2 j1 rx
        obtain ⟨g1, g2, g3⟩ := goal j1
        exact hret c d F' H' e1 g1 g2 g3 rx
theorem fnB (F : FunD K x qual params body scope dvs kws f fd) (S : FnScope N ps scope) (sem : So) (m a : Nat) (ha : ps.length = a + 1) (hm : N.length = ps.length + m)
    (hb : ∀ (cdv : Value) (A : Around) (outer : List Env) (s : Shared) (H : Hp) (E : XK), Room k (A.deeper (PyProof.Rows.envOfC qual scope s.heap.objs.size f cdv)) → SSs (cxOf (L2.CX P w) P w K mg base N qual scope f cdv A outer s H E) (fun c d _ H => E c d H) body sem) :
    FnOk P w K mg base (L2.CX P w) (k + 1) f fd ps (spB K a (bodyB m sem)) := by
  refine F.ok S (fun vs H Q E h => ?_) (fun cdv A outer s H vs Q E hr h => ?_)
  · obtain ⟨F0, t, v0, ds, vs', r, t', rfl, _, _, _, _, rd, hl, _, _⟩ := h
    simp [rd.len, hl, ha]
  · obtain ⟨F0, t0, v0, ds, vs', r, t', rfl, ex, hold, ho, hbr, rd, hl, hf, hret⟩ := h
    obtain ⟨t, p, z⟩ := hb cdv A outer s H E hr
    refine ⟨t, p, ?_⟩
    have j0 := j_startB (N := N) (m := m) ex hold ho hbr rd (by rw [hm, ha, hl])
    have hlen := j0.len
    unfold bodyB at hf
    cases e : sem (some t0 :: (ds.map (fun d => some (T.dat d)) ++ List.replicate m none)) with
    | none => rw [e] at hf; cases hf
    | some q =>
      obtain ⟨fl, ρ'⟩ := q
      rw [e] at hf
      refine z _ F0 H _ (L2.start N (v0 :: vs')) [] [] _ fl ρ' (by rw [List.append_nil, List.append_nil]; exact j0) hlen rfl e ?_
      have goal : ∀ {F' H' : Hp} {us : Sl} {σ' ws : St} {r1 : Rs D} (j : J K ⟨F0, H, fun a => v0 = .ref a⟩ F' H' (ρ' ++ us) (σ' ++ ws)), finB r1 ρ' = some (r, t') → r1 = r ∧ Apart H H' v0 ∧ Ex F' H' ∧ (∀ a o, F' a = some o → F0 a = some o ∨ H a = none) ∧ Hold K F' H' t' v0 := by
        intro F' H' us σ' ws r1 j hfin
        unfold finB at hfin
        cases e0 : ρ'[0]? with
        | none => rw [e0] at hfin; cases hfin
        | some ot =>
          cases ot with
          | none => rw [e0] at hfin; cases hfin
          | some u =>
            rw [e0] at hfin
            simp only at hfin
            by_cases hb : u.brw = true
            · rw [if_pos hb] at hfin
              cases hfin
              have hi : 0 < ρ'.length := (List.getElem?_eq_some_iff.mp e0).1
              have e1 : (ρ' ++ us)[0]? = some (some t') := by rw [List.getElem?_append_left hi]; exact e0
              obtain ⟨v, _, h2, h3⟩ := j.ok 0 t' e1
              have ot : t'.own = true := by cases t' with
                | dat d => cases hb
                | lst _ _ => rfl
                | ins _ _ _ _ => rfl
              obtain ⟨a, _, ea, _, _⟩ := h2.adr ot
              have hv := h3 ot a ea
              rw [if_pos hb] at hv
              have hv' : v0 = .ref a := hv
              rw [ea, ← hv'] at h2
              exact ⟨rfl, fun b o hb nb => j.base b o hb nb, j.ex, j.frs, h2⟩
            · rw [if_neg hb] at hfin; cases hfin
      cases fl with
      | next =>
        intro σ' F' H' e1 l1 l2 j1
        obtain ⟨rfl, g1, g2, g3, g4⟩ := goal j1 hf
        exact hret .non F' H' e1 g1 g2 g3 g4 rep_non
      | brk => cases hf
      | cont => cases hf
      | ret u =>
        simp only at hf
        by_cases hb : u.brw = true
        · rw [if_pos hb] at hf; cases hf
        · rw [if_neg hb] at hf
          intro v σ' F' H' e1 l1 l2 j1
          obtain ⟨F2, x2, j2, rd2⟩ := j1.fzLast (l1.trans l2.symm) rfl (by simpa using hb)
          obtain ⟨rfl, g1, g2, g3, g4⟩ := goal j2 hf
          exact hret v F2 H' (e1.trans x2) g1 g2 g3 g4 rd2
      | exc x =>
        intro c d σ' F' H' e1 l1 l2 j1 rx
        obtain ⟨rfl, g1, g2, g3, g4⟩ := goal j1 hf
        exact hret c d F' H' e1 g1 g2 g3 g4 rx
end
/-! ### the outer form of what a slot holds -/
def SV (K : PySem.W.Frag) (F H : Hp) : D → V → Prop
  | .lst xs, v => ∃ a vs, v = .ref a ∧ H a = some (.lst vs) ∧ Reps K F xs vs
  | .obj C ns xs, v => ∃ a dx vs, v = .ref a ∧ H a = some (.ins (He.ga K C) dx (ns.zip vs)) ∧ ns.length = xs.length ∧ Reps K F xs vs
  | d, v => Rep K F d v
theorem SV.of {K : PySem.W.Frag} {F H : Hp} {d : D} {v : V} (e : Ex F H) (h : Rep K F d v) : SV K F H d v := by
  cases d with
  | tup xs => exact h
  | lst xs => unfold Rep at h; obtain ⟨a, vs, e1, e2, e3⟩ := h; exact ⟨a, vs, e1, e _ _ e2, e3⟩
  | scr ns => exact h
  | obj C ns xs => unfold Rep at h; obtain ⟨a, dx, vs, e1, e2, e3, e4⟩ := h; exact ⟨a, dx, vs, e1, e _ _ e2, e3, e4⟩
  | exn _ _ _ _ => exact h
  | exi _ _ _ => exact h
  | dic _ _ => exact h
  | non => exact h
  | bl b => exact h
  | int b => exact h
  | str b => exact h
theorem SV.hold {K : PySem.W.Frag} {F H : Hp} {t : T} {v : V} (e : Ex F H) (h : Hold K F H t v) : SV K F H t.fz v := by
  cases t with
  | dat d => exact SV.of e h
  | lst b xs => obtain ⟨a, vs, e1, e2, e3, e4⟩ := h; exact ⟨a, vs, e1, e3, e4⟩
  | ins b C ns xs => obtain ⟨a, dx, vs, e1, e2, e3, e4, e5⟩ := h; exact ⟨a, dx, vs, e1, e3, e4, e5⟩
/-- the slot i as it stands -/
def atS (i : Nat) (ρ : Sl) : Option T := match ρ[i]? with
  | some (some t) => some t
  | _ => none
theorem atS_some {i : Nat} {ρ : Sl} {t : T} (h : atS i ρ = some t) : ρ[i]? = some (some t) := by
  unfold atS at h
  cases e : ρ[i]? with
  | none => rw [e] at h; cases h
  | some ot => cases ot with
    | none => rw [e] at h; cases h
    | some u => rw [e] at h; cases h; rfl
section
variable {X : Cx} {W : WX} {a c e : Expr} {es : List Expr} {ma mb mc : Mo T} {pos : Pos} {K : PySem.W.Frag} {n : Mo (List T)}
theorem J.slot {G : Gm} {F H : Hp} {ρ us : Sl} {σ ws : St} {i : Nat} {t : T} (j : J K G F H (ρ ++ us) (σ ++ ws)) (hl : ρ.length = σ.length) (h : atS i ρ = some t) : ∃ v, σ[i]? = some (some v) ∧ Hold K F H t v ∧ i < ρ.length ∧ (ρ ++ us)[i]? = some (some t) ∧ (σ ++ ws)[i]? = some (some v) := by
  have h := atS_some h
  have hi : i < ρ.length := (List.getElem?_eq_some_iff.mp h).1
  have e1 : (ρ ++ us)[i]? = some (some t) := by rw [List.getElem?_append_left hi]; exact h
  obtain ⟨v, h1, h2, _⟩ := j.ok i t e1
  exact ⟨v, by rw [List.getElem?_append_left (by rw [← hl]; exact hi)] at h1; exact h1, h2, hi, e1, h1⟩
/-- an operation on the slot i and nothing else -/
def s1M (f : D → Option Out) (i : Nat) : Mo T := fun ρ => match atS i ρ with
  | none => none
  | some t => outM (f t.fz) ρ
theorem snd_outM {G : Gm} {F H : Hp} {ρ us : Sl} {σ ws : St} {o : Option Out} {ρ' : Sl} {r : Rs T} {Q : VK} {F0 : Hp} (j : J K G F H (ρ ++ us) (σ ++ ws)) (hl : ρ.length = σ.length) (hu : us.length = ws.length) (x0 : Ex F0 F) (hm : outM o ρ = some (r, ρ'))
    (k : match r with
      | .ok a => ∀ (b : V) (F' H' : Hp), Ex F0 F' → ρ'.length = σ.length → True → J K G F' H' (ρ' ++ (us ++ [some a])) (σ ++ (ws ++ [some b])) → Q b H'
      | .exc x => True) : ∃ o', o = some o' ∧ OutOk K F H Q o' := by
  cases o with
  | none => cases hm
  | some o =>
    refine ⟨o, rfl, ?_⟩
    cases o with
    | dt d =>
      cases hm
      intro v F' H' e1 e2 e3 e4 rd
      have j3 := j.grow e1 e2 e3 e4
      exact k v F' H' (x0.trans e1) hl trivial (by rw [← List.append_assoc, ← List.append_assoc]; exact j3.dat rd)
    | nl xs =>
      cases hm
      intro p vs hp rd
      refine k (.ref p) F _ x0 hl trivial ?_
      rw [← List.append_assoc, ← List.append_assoc]
      exact j.push hp rfl rfl ⟨p, vs, rfl, j.ex.back hp, upd_same, rd⟩
theorem snd_s1 {i : Nat} {f : D → Option Out} {te : TE} (h : ∀ F H σ Q v d o, Ex F H → σ[i]? = some (some v) → SV K F H d v → f d = some o → OutOk K F H Q o → te σ H Q) : SndE K W te (s1M f i) := by
  intro G F H ρ σ us ws Q r ρ' j hl ht hm k
  simp only [List.append_nil] at j
  unfold s1M at hm
  cases e : atS i ρ with
  | none => rw [e] at hm; cases hm
  | some t =>
    rw [e] at hm
    simp only at hm
    obtain ⟨v, h1, h2, _⟩ := j.slot hl e
    obtain ⟨o, ho, q⟩ := snd_outM (Q := Q) j hl ht Ex.rfl hm (by cases r with
      | ok a => exact k
      | exc x => trivial)
    exact h F H σ Q v t.fz o j.ex h1 (SV.hold j.ex h2) ho q
/-- an operation on the slot i and an expression's value -/
def s2M (f : D → D → Option Out) (i : Nat) (mb : Mo T) : Mo T := fun ρ => match atS i ρ with
  | none => none
  | some _ => bnd mb (fun u ρ1 => if u.brw = true then none else match atS i ρ1 with
    | none => none
    | some t => outM (f t.fz u.fz) ρ1) ρ
theorem snd_s2 {i : Nat} {f : D → D → Option Out} {tb : TE} {r : R2} (z : SndE K W tb mb) (h : ∀ F H Q x y d u o, Ex F H → SV K F H d x → Rep K F u y → f d u = some o → OutOk K F H Q o → r x y H Q) : SndE K W (tOp r (tVar i) tb) (s2M f i mb) := by
  intro G F H ρ σ us ws Q r1 ρ' j hl ht hm k
  simp only [List.append_nil] at j
  unfold s2M at hm
  cases e : atS i ρ with
  | none => rw [e] at hm; cases hm
  | some t =>
    rw [e] at hm
    simp only at hm
    obtain ⟨v, h1, h2, _⟩ := j.slot hl e
    refine ⟨v, h1, ?_⟩
    unfold bnd at hm
    cases eb : mb ρ with
    | none => rw [eb] at hm; cases hm
    | some q =>
      obtain ⟨r2, ρ1⟩ := q
      rw [eb] at hm
      refine z G F H ρ σ us ws _ r2 ρ1 (by simpa using j) hl ht eb ?_
      cases r2 with
      | exc x => cases hm; exact k
      | ok u =>
        intro y F' H' e1 l1 _ j1
        simp only at hm
        by_cases hb : u.brw = true
        · rw [if_pos hb] at hm; cases hm
        · rw [if_neg hb] at hm
          cases e2 : atS i ρ1 with
          | none => rw [e2] at hm; cases hm
          | some t1 =>
            rw [e2] at hm
            simp only at hm
            obtain ⟨F2, x2, j2, rd⟩ := j1.fzLast l1 ht (by simpa using hb)
            have j3 := app_pre j2 l1 ht
            obtain ⟨v2, g1, g2, _⟩ := j3.slot l1 e2
            rw [h1] at g1; cases g1
            obtain ⟨o, ho, q⟩ := snd_outM (Q := Q) j3 l1 ht (e1.trans x2) hm (by cases r1 with
              | ok a => exact k
              | exc x => trivial)
            exact h F2 H' Q v y t1.fz u.fz o j3.ex (SV.hold j3.ex g2) rd ho q
theorem se_ixS {i : Nat} {x : Str} {px : Pos} {r : R2} {f : D → D → Option Out} (hr : IxR X r) (h : ∀ F H Q x y d u o, Ex F H → SV X.K F H d x → Rep X.K F u y → f d u = some o → OutOk X.K F H Q o → r x y H Q) (hb : SE X W e mb) (hN : X.N[i]? = some x := by rfl)
    (hv : Vis X.env.scope x := by first | exact Or.inl rfl | exact Or.inr (Or.inl rfl) | exact Or.inr (Or.inr rfl)) (hd : (x == ("__debug__" : Str)) = false := by decide) (hcd : (x == ("__classdict__" : Str)) = false := by decide) (hs : PlainIx e := by intro _ _; rfl) :
    SE X W (.Subscript (.Name x px) e pos) (s2M f i mb) := by
  obtain ⟨tb, pb, sb⟩ := hb
  exact ⟨_, pe_ix hr (pe_var hN hv hd hcd) pb hs, snd_s2 sb h⟩
theorem se_fldS {i : Nat} {x f : Str} {px : Pos} {cs : List Str} (h : FldOk X.K cs f) (hN : X.N[i]? = some x := by rfl) (hv : Vis X.env.scope x := by first | exact Or.inl rfl | exact Or.inr (Or.inl rfl) | exact Or.inr (Or.inr rfl)) (hd : (x == ("__debug__" : Str)) = false := by decide)
    (hcd : (x == ("__classdict__" : Str)) = false := by decide) (hb : attributeBase (.Name x px) f X.env (eval (.Name x px) X.env) = eval (.Name x px) X.env := by rfl) :
    SE X W (.Attribute (.Name x px) f pos) (s1M (fun d => fldM cs f [d]) i) := by
  refine ⟨_, pe_fld (pe_var hN hv hd hcd) hb, snd_s1 fun F H σ Q v d o e hv sv hf q => ⟨v, hv, ?_⟩⟩
  unfold fldM one at hf
  cases d with
  | obj C ns fs =>
    simp only at hf
    by_cases hc : cs.contains C = true
    · rw [if_pos hc] at hf
      cases hi : idxOf f ns fs with
      | none => rw [hi] at hf; cases hf
      | some y =>
        rw [hi] at hf
        cases hf
        obtain ⟨aa, dx, vs, rfl, h1, h2, h3⟩ := sv
        obtain ⟨v, hv, rv⟩ := idx_rep hi h3
        obtain ⟨c1, c2⟩ := h.ok C (by simpa using hc)
        exact ⟨aa, _, dx, _, v, rfl, h1, c1, c2, hv, q.val e rv⟩
    · rw [if_neg hc] at hf; cases hf
  | _ => cases hf
/-- a built-in of one argument, the slot i -/
theorem se_B1S {i : Nat} {id : String} {x y : Str} {p py : Pos} {r : List V → Hp → VK → Prop} {f : D → Option Out} (hc : CallR X (.builtin id) r) (h : ∀ F H Q v d o, Ex F H → SV X.K F H d v → f d = some o → OutOk X.K F H Q o → r [v] H Q) (hm : X.mg x = none)
    (hv : bootBuiltins x = some (.builtin id)) (hg : Gl X x := by rfl) (hN : X.N[i]? = some y := by rfl) (hvi : Vis X.env.scope y := by first | exact Or.inl rfl | exact Or.inr (Or.inl rfl) | exact Or.inr (Or.inr rfl)) (hdy : (y == ("__debug__" : Str)) = false := by decide)
    (hcd : (y == ("__classdict__" : Str)) = false := by decide) (hn : x ≠ "__name__" := by decide) (hd : (x == ("__debug__" : Str)) = false := by decide) (he : starEach [.Name y py] X.env = (false, eval (.Name y py) X.env) :: starEach [] X.env := by rfl) (hpl : (backTo pos (starEach [] X.env)).any (·.1) = false := by rfl) :
    SE X W (.Call (.Name x p) [.Name y py] [] pos) (s1M f i) :=
  ⟨_, pe_callB hc hg hm hv (pa_cons (pe_var hN hvi hdy hcd) pa_nil he) hn hd he hpl, snd_s1 fun F H σ Q v d o e hv sv hf q => ⟨v, hv, h F H Q v d o e sv hf q⟩⟩
theorem se_Ty1S {i : Nat} {id : String} {x y : Str} {p py : Pos} {r : List V → Hp → VK → Prop} {f : D → Option Out} (hc : CallR X (.type id) r) (h : ∀ F H Q v d o, Ex F H → SV X.K F H d v → f d = some o → OutOk X.K F H Q o → r [v] H Q) (hm : X.mg x = none)
    (hv : bootBuiltins x = some (.type id)) (hg : Gl X x := by rfl) (hN : X.N[i]? = some y := by rfl) (hvi : Vis X.env.scope y := by first | exact Or.inl rfl | exact Or.inr (Or.inl rfl) | exact Or.inr (Or.inr rfl)) (hdy : (y == ("__debug__" : Str)) = false := by decide)
    (hcd : (y == ("__classdict__" : Str)) = false := by decide) (hn : x ≠ "__name__" := by decide) (hd : (x == ("__debug__" : Str)) = false := by decide) (he : starEach [.Name y py] X.env = (false, eval (.Name y py) X.env) :: starEach [] X.env := by rfl) (hpl : (backTo pos (starEach [] X.env)).any (·.1) = false := by rfl) :
    SE X W (.Call (.Name x p) [.Name y py] [] pos) (s1M f i) :=
  ⟨_, pe_callTy hc hg hm hv (pa_cons (pe_var hN hvi hdy hcd) pa_nil he) hn hd he hpl, snd_s1 fun F H σ Q v d o e hv sv hf q => ⟨v, hv, h F H Q v d o e sv hf q⟩⟩
/-- a slice of the slot i -/
def sSlM (f : D → Option Int → Option Int → Option Out) (i : Nat) (ml mh : Mo (Option Int)) : Mo T := fun ρ => match atS i ρ with
  | none => none
  | some _ => bnd ml (fun lo => bnd mh fun hi ρ1 => match atS i ρ1 with
    | none => none
    | some t => outM (f t.fz lo hi) ρ1) ρ
theorem se_slS {i : Nat} {x : Str} {px p2 : Pos} {r : V → Option Int → Option Int → Hp → VK → Prop} {f : D → Option Int → Option Int → Option Out} {lo hi : Option Expr} {ml mh : Mo (Option Int)} (hr : SlR X r)
    (h : ∀ F H Q x d lo hi o, Ex F H → SV X.K F H d x → f d lo hi = some o → OutOk X.K F H Q o → r x lo hi H Q) (hl : SO X W lo ml) (hh : SO X W hi mh) (hN : X.N[i]? = some x := by rfl)
    (hv : Vis X.env.scope x := by first | exact Or.inl rfl | exact Or.inr (Or.inl rfl) | exact Or.inr (Or.inr rfl)) (hd : (x == ("__debug__" : Str)) = false := by decide) (hcd : (x == ("__classdict__" : Str)) = false := by decide) :
    SE X W (.Subscript (.Name x px) (.Slice lo hi none p2) pos) (sSlM f i ml mh) := by
  obtain ⟨tl, pl, sl⟩ := hl
  obtain ⟨th, ph, sh⟩ := hh
  refine ⟨_, pe_slice hr (pe_var hN hv hd hcd) pl ph, ?_⟩
  intro G F H ρ σ us ws Q r1 ρ' j hl ht hm k
  simp only [List.append_nil] at j
  unfold sSlM at hm
  cases e : atS i ρ with
  | none => rw [e] at hm; cases hm
  | some t =>
    rw [e] at hm
    simp only at hm
    obtain ⟨v, h1, h2, _⟩ := j.slot hl e
    refine ⟨v, h1, ?_⟩
    have key : SndX X.K W [] [] plT pmT (fun _ _ => True) (fun σ' H Q => tl σ' H fun l H2 => th σ' H2 fun u H3 => σ'[i]? = some (some v) → r v l u H3 Q) (bnd ml (fun lo => bnd mh fun hi ρ1 => match atS i ρ1 with
        | none => none
        | some t => outM (f t.fz lo hi) ρ1)) := by
      refine SndX.bnd (t2 := fun l σ' H2 Q => th σ' H2 fun u H3 => σ'[i]? = some (some v) → r v l u H3 Q) rfl sl fun l l' el => ?_
      subst el
      refine SndX.bnd (L0 := [] ++ []) (M0 := [] ++ []) (t2 := fun u σ' H3 Q => σ'[i]? = some (some v) → r v l' u H3 Q) rfl sh fun u u' eu => ?_
      subst eu
      intro G F H ρ σ us ws Q r2 ρ' j hl ht hm k hσ
      simp only [List.append_nil] at j
      dsimp only at hm
      cases e : atS i ρ with
      | none => rw [e] at hm; cases hm
      | some t =>
        rw [e] at hm
        simp only at hm
        obtain ⟨v2, g1, g2, _⟩ := j.slot hl e
        rw [hσ] at g1; cases g1
        obtain ⟨o, ho, q⟩ := snd_outM (Q := Q) j hl ht Ex.rfl hm (by cases r2 with
          | ok a => exact k
          | exc x => trivial)
        exact h F H Q v t.fz l' u' o j.ex (SV.hold j.ex g2) ho q
    have := key G F H ρ σ us ws Q r1 ρ' (by simpa using j) hl ht hm k
    simpa [h1] using this
end
end SL

set_option Elab.async false
set_option linter.all false
set_option maxRecDepth 100000
set_option maxHeartbeats 4000000
namespace SL
open PySem PySem.Spec L2
/-! ### the operations on data -/
section
variable {X : Cx}
theorem OpR.or {f : Value → Value → Sem Value} {r r' : R2} (h : OpR X f r) (h' : OpR X f r') : OpR X f (fun x y H Q => r x y H Q ∨ r' x y H Q) := by
  intro pins s σ H x y v u Q I rx ry q
  rcases q with q | q
  · exact h pins s σ H x y v u Q I rx ry q
  · exact h' pins s σ H x y v u Q I rx ry q
theorem CallR.or {f : Value} {r r' : List V → Hp → VK → Prop} (h : CallR X f r) (h' : CallR X f r') : CallR X f (fun x H Q => r x H Q ∨ r' x H Q) := by
  intro pins s σ H xs us Q I r q
  rcases q with q | q
  · exact h pins s σ H xs us Q I r q
  · exact h' pins s σ H xs us Q I r q
end
def addF : D → D → Option Out
  | .int i, .int j => some (.dt (.int (i + j)))
  | .str i, .str j => if i.length + j.length ≤ 100000 then some (.dt (.str (i ++ j))) else none
  | .lst xs, .lst ys => if xs.length + ys.length ≤ 100000 then some (.nl (xs ++ ys)) else none
  | .tup xs, .tup ys => if xs.length + ys.length ≤ 100000 then some (.dt (.tup (xs ++ ys))) else none
  | _, _ => none
def subF : D → D → Option Out
  | .int i, .int j => some (.dt (.int (i - j)))
  | _, _ => none
def sml (i : Int) : Prop := -18446744073709551616 < i ∧ i < 18446744073709551616
instance (i : Int) : Decidable (sml i) := by unfold sml; infer_instance
def mulF : D → D → Option Out
  | .int i, .int j => if sml i ∨ sml j then some (.dt (.int (i * j))) else none
  | .tup xs, .int k => if 2 ≤ k ∧ k ≤ 1000 ∧ xs.length ≤ 1000 ∧ xs ≠ [] then some (.dt (.tup (List.replicate k.toNat xs).flatten)) else none
  | .lst xs, .int k => if -1000 ≤ k ∧ k ≤ 1000 ∧ xs.length ≤ 100 then some (.nl (List.replicate k.toNat xs).flatten) else none
  | _, _ => none
def divF : D → D → Option Out
  | .int i, .int j => if 0 < j ∧ j < 4611686018427387904 then some (.dt (.int (i / j))) else none
  | _, _ => none
def modF : D → D → Option Out
  | .int i, .int j => if 0 < j then some (.dt (.int (i % j))) else none
  | _, _ => none
def powF : D → D → Option Out
  | .int i, .int j => if 0 ≤ j ∧ j ≤ 1000 ∧ sml i then some (.dt (.int (i ^ j.toNat))) else none
  | _, _ => none
def shrF : D → D → Option Out
  | .int i, .int j => if 0 ≤ j then some (.dt (.int (i / 2 ^ j.toNat))) else none
  | _, _ => none
def shlF : D → D → Option Out
  | .int i, .int j => if 0 ≤ j ∧ j ≤ 5000 ∧ Builtin.Int.intBits i ≤ 60000000 then some (.dt (.int (i * 2 ^ j.toNat))) else none
  | _, _ => none
def negF : D → Option Out
  | .int i => some (.dt (.int (-i)))
  | _ => none
def ltF : D → D → Option Out
  | .int i, .int j => some (.dt (.bl (decide (i < j))))
  | .str i, .str j => some (.dt (.bl (decide (i.cps.toList < j.cps.toList))))
  | _, _ => none
def leF : D → D → Option Out
  | .int i, .int j => some (.dt (.bl (decide (i ≤ j))))
  | .str i, .str j => some (.dt (.bl (!decide (j.cps.toList < i.cps.toList))))
  | _, _ => none
def gtF : D → D → Option Out
  | .int i, .int j => some (.dt (.bl (decide (j < i))))
  | _, _ => none
def geF : D → D → Option Out
  | .int i, .int j => some (.dt (.bl (decide (j ≤ i))))
  | _, _ => none
def isNon : D → Bool
  | .non => true
  | _ => false
def isNF (d e : D) : Option Out := match e with
  | .non => some (.dt (.bl (isNon d)))
  | _ => none
def notNF (d e : D) : Option Out := match e with
  | .non => some (.dt (.bl (!isNon d)))
  | _ => none
/-! equality of data -/
mutual
def toP : D → PyData
  | .non => .none
  | .bl b => .bool b
  | .int i => .int i
  | .str s => .str s
  | .tup xs => .tuple (toPs xs)
  | .lst xs => .list (toPs xs)
  | .scr ns => .none
  | .obj _ _ _ => .none
  | .exn _ _ _ _ => .none
  | .exi _ _ _ => .none
  | .dic _ _ => .none
def toPs : List D → List PyData
  | [] => []
  | x :: xs => toP x :: toPs xs
end
mutual
def shp : Nat → D → Bool
  | _, .non => true
  | _, .bl _ => true
  | _, .int _ => true
  | _, .str s => PyData.strOk s
  | 0, .tup _ => false
  | 0, .lst _ => false
  | n + 1, .tup xs => shps n xs
  | n + 1, .lst xs => shps n xs
  | _, .scr _ => false
  | _, .obj _ _ _ => false
  | _, .exn _ _ _ _ => false
  | _, .exi _ _ _ => false
  | _, .dic _ _ => false
def shps : Nat → List D → Bool
  | _, [] => true
  | n, x :: xs => shp n x && shps n xs
end
def eqD (d e : D) : Bool := PyData.eqv (toP d) (toP e)
def eqF (d e : D) : Option Out := if shp 40 d = true ∧ shp 40 e = true then some (.dt (.bl (eqD d e))) else none
def neF (d e : D) : Option Out := if shp 40 d = true ∧ shp 40 e = true then some (.dt (.bl (!eqD d e))) else none
mutual
theorem shp_dep : ∀ (n : Nat) (d : D), shp n d = true → (toP d).canLay0 = true ∧ (toP d).depth ≤ n
  | n, .non, h => by unfold toP; exact ⟨rfl, by unfold PyData.depth; omega⟩
  | n, .bl b, h => by unfold toP; exact ⟨rfl, by unfold PyData.depth; omega⟩
  | n, .int b, h => by unfold toP; exact ⟨rfl, by unfold PyData.depth; omega⟩
  | n, .str b, h => by
    unfold shp at h
    unfold toP
    exact ⟨by unfold PyData.canLay0; exact h, by unfold PyData.depth; omega⟩
  | 0, .tup xs, h => by unfold shp at h; cases h
  | 0, .lst xs, h => by unfold shp at h; cases h
  | n + 1, .tup xs, h => by
    unfold shp at h
    obtain ⟨h1, h2⟩ := shps_dep n xs h
    unfold toP
    exact ⟨by unfold PyData.canLay0; exact h1, by unfold PyData.depth; omega⟩
  | n + 1, .lst xs, h => by
    unfold shp at h
    obtain ⟨h1, h2⟩ := shps_dep n xs h
    unfold toP
    exact ⟨by unfold PyData.canLay0; exact h1, by unfold PyData.depth; omega⟩
  | n, .scr _, h => by unfold shp at h; cases h
  | n, .obj _ _ _, h => by unfold shp at h; cases h
  | n, .exn _ _ _ _, h => by unfold shp at h; cases h
  | n, .exi _ _ _, h => by unfold shp at h; cases h
  | n, .dic _ _, h => by unfold shp at h; cases h
theorem shps_dep : ∀ (n : Nat) (xs : List D), shps n xs = true → PyData.canLayAll0 (toPs xs) = true ∧ PyData.depthAll (toPs xs) ≤ n
  | n, [], h => by unfold toPs; exact ⟨rfl, by unfold PyData.depthAll; omega⟩
  | n, x :: xs, h => by
    unfold shps at h
    rw [Bool.and_eq_true] at h
    obtain ⟨a1, a2⟩ := shp_dep n x h.1
    obtain ⟨b1, b2⟩ := shps_dep n xs h.2
    unfold toPs
    refine ⟨by unfold PyData.canLayAll0; rw [a1, b1]; rfl, ?_⟩
    unfold PyData.depthAll
    omega
end
theorem shp_shaped {d : D} (h : shp 40 d = true) : SeqAt.shaped (toP d) = true := by
  obtain ⟨h1, h2⟩ := shp_dep 40 d h
  unfold SeqAt.shaped
  rw [h1, decide_eq_true (by omega : (toP d).depth ≤ 64)]
  rfl
mutual
theorem shp_dp {K : PySem.W.Frag} {F : Hp} : ∀ (n : Nat) (d : D) (v : V), shp n d = true → Rep K F d v → Dp K F v (toP d)
  | n, .non, v, h, r => by unfold Rep at r; subst r; unfold toP; exact .non
  | n, .bl b, v, h, r => by unfold Rep at r; subst r; unfold toP; exact .bl b
  | n, .int b, v, h, r => by unfold Rep at r; subst r; unfold toP; exact .int b
  | n, .str b, v, h, r => by unfold Rep at r; subst r; unfold toP; exact .str b
  | 0, .tup xs, v, h, r => by unfold shp at h; cases h
  | 0, .lst xs, v, h, r => by unfold shp at h; cases h
  | n + 1, .tup xs, v, h, r => by
    unfold Rep at r
    obtain ⟨a, vs, rfl, h1, h2⟩ := r
    unfold toP
    unfold shp at h
    exact .tup h1 (shps_dp n xs vs h h2)
  | n + 1, .lst xs, v, h, r => by
    unfold Rep at r
    obtain ⟨a, vs, rfl, h1, h2⟩ := r
    unfold toP
    unfold shp at h
    exact .lst (Or.inl (Or.inl h1)) (shps_dp n xs vs h h2)
  | n, .scr _, v, h, r => by unfold shp at h; cases h
  | n, .obj _ _ _, v, h, r => by unfold shp at h; cases h
  | n, .exn _ _ _ _, v, h, r => by unfold shp at h; cases h
  | n, .exi _ _ _, v, h, r => by unfold shp at h; cases h
  | n, .dic _ _, v, h, r => by unfold shp at h; cases h
theorem shps_dp {K : PySem.W.Frag} {F : Hp} : ∀ (n : Nat) (xs : List D) (vs : List V), shps n xs = true → Reps K F xs vs → DpAll K F vs (toPs xs)
  | n, [], vs, h, r => by unfold Reps at r; subst r; unfold toPs; exact .nil
  | n, x :: xs, vs, h, r => by
    unfold Reps at r
    obtain ⟨v, vr, rfl, r1, r2⟩ := r
    unfold shps at h
    rw [Bool.and_eq_true] at h
    unfold toPs
    exact .cons (shp_dp n x v h.1 r1) (shps_dp n xs vr h.2 r2)
end
section
variable {K : PySem.W.Frag}
theorem ri {F : Hp} {i : Int} {v : V} (h : Rep K F (.int i) v) : v = .int i := by unfold Rep at h; exact h
theorem rs {F : Hp} {i : Str} {v : V} (h : Rep K F (.str i) v) : v = .str i := by unfold Rep at h; exact h
theorem rb {F : Hp} {i : Bool} {v : V} (h : Rep K F (.bl i) v) : v = .bl i := by unfold Rep at h; exact h
theorem rn {F : Hp} {v : V} (h : Rep K F .non v) : v = .non := by unfold Rep at h; exact h
theorem o2_add : Op2 K (fun x y H Q => rI0 (fun i j => .int (i + j)) x y H Q ∨ (rCat x y H Q ∨ (rCatA K x y H Q ∨ (∃ i j, x = V.str i ∧ y = V.str j ∧ i.length + j.length ≤ sizeLine ∧ Q (.str (i ++ j)) H)))) addF := by
  intro F H Q x y d e o ex r1 r2 hf q
  unfold addF at hf
  split at hf
  · cases hf; cases ri r1; cases ri r2; exact .inl ⟨_, _, rfl, rfl, q.int ex⟩
  · split at hf
    · next h => cases hf; cases rs r1; cases rs r2; exact .inr (.inr (.inr ⟨_, _, rfl, rfl, big_line h, q.str ex⟩))
    · cases hf
  · split at hf
    · next h =>
      cases hf
      unfold Rep at r1 r2
      obtain ⟨a, vs, rfl, h1, h2⟩ := r1
      obtain ⟨b, us, rfl, g1, g2⟩ := r2
      exact .inr (.inl ⟨a, b, vs, us, rfl, rfl, ex _ _ h1, ex _ _ g1, by rw [h2.len, g2.len]; exact big_line h, fun p hp => q p _ hp (h2.app g2)⟩)
    · cases hf
  · split at hf
    · next h =>
      cases hf
      have r1' := r1
      have r2' := r2
      unfold Rep at r1 r2
      obtain ⟨a, vs, rfl, h1, h2⟩ := r1
      obtain ⟨b, us, rfl, g1, g2⟩ := r2
      refine .inr (.inr (.inl ⟨a, b, vs, us, rfl, rfl, ex.t h1, ex.t g1, by rw [h2.len, g2.len]; exact big_line h, fun hv => ?_, fun _ hu => ?_, fun _ _ p hp => q.tup ex (h2.app g2) hp⟩))
      · subst hv
        have e0 := List.eq_nil_of_length_eq_zero h2.len.symm
        subst e0
        exact q.val ex r2'
      · subst hu
        have e0 := List.eq_nil_of_length_eq_zero g2.len.symm
        subst e0
        exact q.val ex (by rw [List.append_nil]; exact r1')
    · cases hf
  · cases hf
theorem o2_sub : Op2 K (rI0 fun i j => .int (i - j)) subF := by
  intro F H Q x y d e o ex r1 r2 hf q
  unfold subF at hf
  split at hf
  · cases hf; cases ri r1; cases ri r2; exact ⟨_, _, rfl, rfl, q.int ex⟩
  · cases hf
theorem o2_mul : Op2 K (fun x y H Q => rI CMul (fun i j => .int (i * j)) x y H Q ∨ (rRepT K x y H Q ∨ rRep x y H Q)) mulF := by
  intro F H Q x y d e o ex r1 r2 hf q
  unfold mulF at hf
  split at hf
  · split at hf
    · next h => cases hf; cases ri r1; cases ri r2; exact .inl ⟨_, _, rfl, rfl, by unfold CMul; unfold sml at h; simpa using h, q.int ex⟩
    · cases hf
  · split at hf
    · next h =>
      cases hf
      cases ri r2
      unfold Rep at r1
      obtain ⟨a, vs, rfl, h1, h2⟩ := r1
      refine .inr (.inl ⟨a, _, vs, rfl, rfl, ex.t h1, fun hv => ?_, h.1, h.2.1, by rw [h2.len]; exact h.2.2.1, fun p hp => q.tup ex (Reps.flat _ h2) hp⟩)
      subst hv
      have := h2.len
      simp at this
      exact h.2.2.2 (List.eq_nil_of_length_eq_zero this.symm)
    · cases hf
  · split at hf
    · next h =>
      cases hf
      cases ri r2
      unfold Rep at r1
      obtain ⟨a, vs, rfl, h1, h2⟩ := r1
      rename_i k
      refine .inr (.inr ⟨a, _, vs, rfl, rfl, ex _ _ h1, by omega, by omega, ?_, fun p hp => q p _ hp (Reps.flat _ h2)⟩)
      rw [h2.len]
      have hk : k.toNat ≤ 1000 := by omega
      exact big_line (Nat.le_trans (Nat.mul_le_mul h.2.2 hk) (by decide))
    · cases hf
  · cases hf
theorem o2_div : Op2 K (rI CDivW fun i j => .int (i / j)) divF := by
  intro F H Q x y d e o ex r1 r2 hf q
  unfold divF at hf
  split at hf
  · split at hf
    · next h =>
      cases hf; cases ri r1; cases ri r2
      exact ⟨_, _, rfl, rfl, wide_div (b := 62) h.1 (by omega) (by decide) (by decide), q.int ex⟩
    · cases hf
  · cases hf
theorem o2_mod : Op2 K (rI (fun _ j => 0 < j) fun i j => .int (i % j)) modF := by
  intro F H Q x y d e o ex r1 r2 hf q
  unfold modF at hf
  split at hf
  · split at hf
    · next h => cases hf; cases ri r1; cases ri r2; exact ⟨_, _, rfl, rfl, h, q.int ex⟩
    · cases hf
  · cases hf
theorem o2_pow : Op2 K (rI CPow fun i j => .int (i ^ j.toNat)) powF := by
  intro F H Q x y d e o ex r1 r2 hf q
  unfold powF at hf
  split at hf
  · split at hf
    · next h =>
      cases hf; cases ri r1; cases ri r2
      refine ⟨_, _, rfl, rfl, ⟨h.1, by omega, ?_⟩, q.int ex⟩
      have := h.2.2
      unfold sml at this
      omega
    · cases hf
  · cases hf
theorem o2_shr : Op2 K (rI (fun _ j => 0 ≤ j) fun i j => .int (i / 2 ^ j.toNat)) shrF := by
  intro F H Q x y d e o ex r1 r2 hf q
  unfold shrF at hf
  split at hf
  · split at hf
    · next h => cases hf; cases ri r1; cases ri r2; exact ⟨_, _, rfl, rfl, h, q.int ex⟩
    · cases hf
  · cases hf
theorem o2_shl : Op2 K (rI CShl fun i j => .int (i * 2 ^ j.toNat)) shlF := by
  intro F H Q x y d e o ex r1 r2 hf q
  unfold shlF at hf
  split at hf
  · split at hf
    · next h =>
      cases hf; cases ri r1; cases ri r2
      exact ⟨_, _, rfl, rfl, ⟨h.1, by omega⟩, q.int ex⟩
    · cases hf
  · cases hf
theorem o1_neg : Op1 K (rU fun i => .int (-i)) negF := by
  intro F H Q x d o ex r1 hf q
  unfold negF at hf
  split at hf
  · cases hf; cases ri r1; exact ⟨_, rfl, q.int ex⟩
  · cases hf
theorem o2_lt : Op2 K (fun x y H Q => rI0 (fun i j => .bl (decide (i < j))) x y H Q ∨ (∃ i j, x = V.str i ∧ y = V.str j ∧ Q (.bl (decide (i.cps.toList < j.cps.toList))) H)) ltF := by
  intro F H Q x y d e o ex r1 r2 hf q
  unfold ltF at hf
  split at hf
  · cases hf; cases ri r1; cases ri r2; exact .inl ⟨_, _, rfl, rfl, q.bl ex⟩
  · cases hf; cases rs r1; cases rs r2; exact .inr ⟨_, _, rfl, rfl, q.bl ex⟩
  · cases hf
theorem o2_le : Op2 K (fun x y H Q => rI0 (fun i j => .bl (decide (i ≤ j))) x y H Q ∨ (∃ i j, x = V.str i ∧ y = V.str j ∧ Q (.bl (!decide (j.cps.toList < i.cps.toList))) H)) leF := by
  intro F H Q x y d e o ex r1 r2 hf q
  unfold leF at hf
  split at hf
  · cases hf; cases ri r1; cases ri r2; exact .inl ⟨_, _, rfl, rfl, q.bl ex⟩
  · cases hf; cases rs r1; cases rs r2; exact .inr ⟨_, _, rfl, rfl, q.bl ex⟩
  · cases hf
theorem o2_gt : Op2 K (rI0 fun i j => .bl (decide (j < i))) gtF := by
  intro F H Q x y d e o ex r1 r2 hf q
  unfold gtF at hf
  split at hf
  · cases hf; cases ri r1; cases ri r2; exact ⟨_, _, rfl, rfl, q.bl ex⟩
  · cases hf
theorem o2_ge : Op2 K (rI0 fun i j => .bl (decide (j ≤ i))) geF := by
  intro F H Q x y d e o ex r1 r2 hf q
  unfold geF at hf
  split at hf
  · cases hf; cases ri r1; cases ri r2; exact ⟨_, _, rfl, rfl, q.bl ex⟩
  · cases hf
theorem non_ref {F : Hp} {d : D} {v : V} (h : Rep K F d v) : (decide (v = .non)) = isNon d := by
  cases d with
  | non => cases rn h; rfl
  | bl b => cases rb h; rfl
  | int b => cases ri h; rfl
  | str b => cases rs h; rfl
  | tup xs => unfold Rep at h; obtain ⟨a, vs, rfl, _⟩ := h; rfl
  | lst xs => unfold Rep at h; obtain ⟨a, vs, rfl, _⟩ := h; rfl
  | scr xs => unfold Rep at h; obtain ⟨a, rfl, _⟩ := h; rfl
  | obj C ns xs => unfold Rep at h; obtain ⟨a, dx, vs, rfl, _⟩ := h; rfl
  | exn _ _ _ _ => unfold Rep at h; obtain ⟨vs, rfl, _⟩ := h; rfl
  | exi _ _ _ => unfold Rep at h; obtain ⟨a, dx, vs, rfl, _⟩ := h; rfl
  | dic _ _ => unfold Rep at h; obtain ⟨a, vs, rfl, _⟩ := h; rfl
theorem o2_isN : Op2 K (fun x y H Q => y = .non ∧ Q (.bl (decide (x = .non))) H) isNF := by
  intro F H Q x y d e o ex r1 r2 hf q
  unfold isNF at hf
  cases e with
  | non =>
    cases hf; cases rn r2
    refine ⟨rfl, ?_⟩
    have h := non_ref r1
    rw [h]
    exact q.bl ex
  | _ => cases hf
theorem o2_notN : Op2 K (fun x y H Q => y = .non ∧ Q (.bl (!decide (x = .non))) H) notNF := by
  intro F H Q x y d e o ex r1 r2 hf q
  unfold notNF at hf
  cases e with
  | non =>
    cases hf; cases rn r2
    refine ⟨rfl, ?_⟩
    have h := non_ref r1
    rw [h]
    exact q.bl ex
  | _ => cases hf
theorem o2_eq : Op2 K (rEqD K) eqF := by
  intro F H Q x y d e o ex r1 r2 hf q
  unfold eqF at hf
  split at hf
  · next h =>
    cases hf
    exact ⟨toP d, toP e, shp_dp 40 d x h.1 (Rep.mono ex _ _ r1), shp_dp 40 e y h.2 (Rep.mono ex _ _ r2), shp_shaped h.1, shp_shaped h.2, q.bl ex⟩
  · cases hf
theorem o2_ne : Op2 K (rNeD K) neF := by
  intro F H Q x y d e o ex r1 r2 hf q
  unfold neF at hf
  split at hf
  · next h =>
    cases hf
    exact ⟨toP d, toP e, shp_dp 40 d x h.1 (Rep.mono ex _ _ r1), shp_dp 40 e y h.2 (Rep.mono ex _ _ r2), shp_shaped h.1, shp_shaped h.2, q.bl ex⟩
  · cases hf
end
section
variable {X : Cx}
theorem op_add_all : OpR X (binaryOp .Add) (fun x y H Q => rI0 (fun i j => .int (i + j)) x y H Q ∨ (rCat x y H Q ∨ (rCatA X.K x y H Q ∨ (∃ i j, x = V.str i ∧ y = V.str j ∧ i.length + j.length ≤ sizeLine ∧ Q (.str (i ++ j)) H)))) := OpR.or op_add (OpR.or op_cat (OpR.or op_catA op_add_str))
theorem op_mul_all : OpR X (binaryOp .Mult) (fun x y H Q => rI CMul (fun i j => .int (i * j)) x y H Q ∨ (rRepT X.K x y H Q ∨ rRep x y H Q)) := OpR.or op_mul (OpR.or op_repT op_rep)
theorem op_lt_all : OpR X (compareOp .Lt) (fun x y H Q => rI0 (fun i j => .bl (decide (i < j))) x y H Q ∨ (∃ i j, x = V.str i ∧ y = V.str j ∧ Q (.bl (decide (i.cps.toList < j.cps.toList))) H)) := OpR.or op_lt op_lt_str
theorem op_le_all : OpR X (compareOp .LtE) (fun x y H Q => rI0 (fun i j => .bl (decide (i ≤ j))) x y H Q ∨ (∃ i j, x = V.str i ∧ y = V.str j ∧ Q (.bl (!decide (j.cps.toList < i.cps.toList))) H)) := OpR.or op_le op_le_str
end
/-! #### items, lengths, slices: by the outer form -/
def ixF : D → D → Option Out
  | .lst xs, .int i => (atI xs i).map .dt
  | .tup xs, .int i => (atI xs i).map .dt
  | .scr ns, .int i => (atI ns i).map fun n => .dt (.int n)
  | .str s, .int i => if s.length ≤ 100000 then (atI s.cps.toList i).map fun c => .dt (.str ⟨#[c]⟩) else none
  | _, _ => none
theorem atI_reps {K : PySem.W.Frag} {F : Hp} {xs : List D} {vs : List V} {i : Int} {d : D} (r : Reps K F xs vs) (h : atI xs i = some d) : ∃ v, atI vs i = some v ∧ Rep K F d v := by
  unfold atI at h ⊢
  rw [r.len]
  cases e : ixN xs.length i with
  | none => rw [e] at h; cases h
  | some j =>
    rw [e] at h
    obtain ⟨v, h1, h2⟩ := r.get h
    exact ⟨v, h1, h2⟩
theorem atI_map {α β : Type} {f : α → β} {xs : List α} {i : Int} {d : α} (h : atI xs i = some d) : atI (xs.map f) i = some (f d) := by
  unfold atI at h ⊢
  rw [List.length_map]
  cases e : ixN xs.length i with
  | none => rw [e] at h; cases h
  | some j =>
    rw [e] at h
    show (xs.map f)[j]? = _
    rw [List.getElem?_map]
    have h' : xs[j]? = some d := h
    rw [h']; rfl
theorem sv_ix {K : PySem.W.Frag} : ∀ F H Q x y d u o, Ex F H → SV K F H d x → Rep K F u y → ixF d u = some o → OutOk K F H Q o → (rIxL K x y H Q ∨ (rIxT K x y H Q ∨ rIxS x y H Q)) := by
  intro F H Q x y d u o ex sv r2 hf q
  unfold ixF at hf
  split at hf
  · next xs i =>
    cases e : atI xs i with
    | none => rw [e] at hf; cases hf
    | some z =>
      rw [e] at hf; cases hf
      cases ri r2
      obtain ⟨a, vs, rfl, h1, h2⟩ := sv
      obtain ⟨v, hv, rv⟩ := atI_reps h2 e
      exact .inl ⟨a, vs, i, v, rfl, rfl, Or.inl (Or.inl h1), hv, q.val ex rv⟩
  · next xs i =>
    cases e : atI xs i with
    | none => rw [e] at hf; cases hf
    | some z =>
      rw [e] at hf; cases hf
      cases ri r2
      have sv : Rep K F (.tup xs) x := sv
      unfold Rep at sv
      obtain ⟨a, vs, rfl, h1, h2⟩ := sv
      obtain ⟨v, hv, rv⟩ := atI_reps h2 e
      exact .inr (.inl ⟨a, vs, i, v, rfl, rfl, ex.t h1, hv, q.val ex rv⟩)
  · next xs i =>
    cases e : atI xs i with
    | none => rw [e] at hf; cases hf
    | some z =>
      rw [e] at hf; cases hf
      cases ri r2
      have sv : Rep K F (.scr xs) x := sv
      unfold Rep at sv
      obtain ⟨a, rfl, h1⟩ := sv
      exact .inl ⟨a, _, i, .int z, rfl, rfl, ex.l h1, atI_map e, q.int ex⟩
  · next s i =>
    split at hf
    · next h =>
      cases e : atI s.cps.toList i with
      | none => rw [e] at hf; cases hf
      | some z =>
        rw [e] at hf; cases hf
        cases ri r2
        have sv : Rep K F (.str s) x := sv
        cases rs sv
        exact .inr (.inr ⟨_, _, z, rfl, rfl, big_line h, e, q.str ex⟩)
    · cases hf
  · cases hf
theorem o2_ix {K : PySem.W.Frag} : Op2 K (fun x y H Q => rIxL K x y H Q ∨ (rIxT K x y H Q ∨ rIxS x y H Q)) ixF := fun F H Q x y d e o ex r1 r2 hf q => sv_ix F H Q x y d e o ex (SV.of ex r1) r2 hf q
theorem ix_all {X : Cx} : IxR X (fun x y H Q => rIxL X.K x y H Q ∨ (rIxT X.K x y H Q ∨ rIxS x y H Q)) := ix_list.or (ix_tup.or ix_str)
def lenD : D → Option Nat
  | .lst xs => some xs.length
  | .tup xs => some xs.length
  | .scr ns => some ns.length
  | .str s => if s.length ≤ 100000 then some s.length else none
  | _ => none
def lenF (d : D) : Option Out := (lenD d).map fun n => .dt (.int (n : Nat))
theorem sv_len {K : PySem.W.Frag} : ∀ F H Q v d o, Ex F H → SV K F H d v → lenF d = some o → OutOk K F H Q o → (∃ x n, [v] = [x] ∧ LenV K x H n ∧ Q (.int n) H) := by
  intro F H Q v d o ex sv hf q
  unfold lenF lenD at hf
  cases d with
  | lst xs =>
    cases hf
    obtain ⟨a, vs, rfl, h1, h2⟩ := sv
    exact ⟨_, xs.length, rfl, Or.inl ⟨vs, Or.inl (Or.inl h1), h2.len.symm⟩, q.int ex⟩
  | tup xs =>
    cases hf
    have sv : Rep K F (.tup xs) v := sv
    unfold Rep at sv
    obtain ⟨a, vs, rfl, h1, h2⟩ := sv
    exact ⟨_, xs.length, rfl, Or.inr ⟨vs, ex.t h1, h2.len.symm⟩, q.int ex⟩
  | scr xs =>
    cases hf
    have sv : Rep K F (.scr xs) v := sv
    unfold Rep at sv
    obtain ⟨a, rfl, h1⟩ := sv
    exact ⟨_, xs.length, rfl, Or.inl ⟨_, ex.l h1, by simp⟩, q.int ex⟩
  | str s =>
    simp only at hf
    split at hf
    · next h =>
      cases hf
      have sv : Rep K F (.str s) v := sv
      cases rs sv
      exact ⟨_, s.length, rfl, ⟨big_line h, rfl⟩, q.int ex⟩
    · cases hf
  | _ => cases hf
theorem co_len {K : PySem.W.Frag} : CallOk K (fun xs H Q => ∃ x n, xs = [x] ∧ LenV K x H n ∧ Q (.int n) H) (one lenF) := by
  intro F H Q vs ds o ex rd hf q
  match ds, hf with
  | [d], hf =>
    unfold Reps at rd
    obtain ⟨v, r, rfl, a1, a2⟩ := rd
    unfold Reps at a2
    subst a2
    exact sv_len F H Q v d o ex (SV.of ex a1) hf q
/-- the items from lo to hi -/
def cut {α : Type} (xs : List α) (lo hi : Option Int) : List α := (xs.drop (HT.sIx xs.length 0 lo)).take (HT.sIx xs.length xs.length hi - HT.sIx xs.length 0 lo)
def slF (d : D) (lo hi : Option Int) : Option Out := match d with
  | .lst xs => some (.nl (cut xs lo hi))
  | .tup xs => some (.dt (.tup (cut xs lo hi)))
  | .scr ns => some (.nl (cut (ns.map .int) lo hi))
  | .str s => if s.length ≤ 100000 then some (.dt (.str (cutS s lo hi))) else none
  | _ => none
theorem cut_reps {K : PySem.W.Frag} {F : Hp} {xs : List D} {vs : List V} (r : Reps K F xs vs) (lo hi : Option Int) : Reps K F (cut xs lo hi) (cutV vs lo hi) := by
  unfold cut cutV
  rw [r.len]
  exact (r.drop _).take _
theorem sv_sl {K : PySem.W.Frag} : ∀ F H Q x d lo hi o, Ex F H → SV K F H d x → slF d lo hi = some o → OutOk K F H Q o → (rSlL K x lo hi H Q ∨ (rSlA K x lo hi H Q ∨ rSlS x lo hi H Q)) := by
  intro F H Q x d lo hi o ex sv hf q
  unfold slF at hf
  cases d with
  | lst xs =>
    cases hf
    obtain ⟨a, vs, rfl, h1, h2⟩ := sv
    exact .inl ⟨a, vs, rfl, Or.inl (Or.inl h1), fun p hp => q p _ hp (cut_reps h2 lo hi)⟩
  | tup xs =>
    cases hf
    have sv : Rep K F (.tup xs) x := sv
    have sv2 := sv
    unfold Rep at sv
    obtain ⟨a, vs, rfl, h1, h2⟩ := sv
    refine .inr (.inl ⟨a, vs, rfl, ex.t h1, fun hw => ?_, fun _ p hp => q.tup ex (cut_reps h2 lo hi) hp⟩)
    have ev : cut xs lo hi = xs := by
      rw [h2.len] at hw
      unfold cut
      rw [hw.1, hw.2]
      simp
    rw [ev] at q
    exact q.val ex sv2
  | scr xs =>
    cases hf
    have sv : Rep K F (.scr xs) x := sv
    unfold Rep at sv
    obtain ⟨a, rfl, h1⟩ := sv
    refine .inl ⟨a, _, rfl, ex.l h1, fun p hp => q p _ hp (cut_reps (reps_ints xs) lo hi)⟩
  | str s =>
    simp only at hf
    split at hf
    · next h =>
      cases hf
      have sv : Rep K F (.str s) x := sv
      cases rs sv
      exact .inr (.inr ⟨s, rfl, big_line h, q.str ex⟩)
    · cases hf
  | _ => cases hf
end SL

set_option Elab.async false
set_option linter.all false
set_option maxRecDepth 100000
set_option maxHeartbeats 4000000
namespace SL
open PySem PySem.Spec L2
/-! ### built-ins -/
def intsOf : List D → Option (List Int)
  | [] => some []
  | .int i :: r => (intsOf r).map (i :: ·)
  | _ :: _ => none
def boolsOf : List D → Option (List Bool)
  | [] => some []
  | .bl i :: r => (boolsOf r).map (i :: ·)
  | _ :: _ => none
section
variable {K : PySem.W.Frag}
theorem ints_rep {F : Hp} : ∀ {xs : List D} {vs : List V} {ns : List Int}, intsOf xs = some ns → Reps K F xs vs → vs = ns.map V.int
  | [], vs, ns, h, r => by unfold intsOf at h; cases h; unfold Reps at r; exact r
  | x :: xs, vs, ns, h, r => by
    unfold Reps at r
    obtain ⟨v, vr, rfl, r1, r2⟩ := r
    cases x with
    | int i =>
      unfold intsOf at h
      cases e : intsOf xs with
      | none => rw [e] at h; cases h
      | some ms =>
        rw [e] at h; cases h
        cases ri r1
        rw [ints_rep e r2]; rfl
    | _ => unfold intsOf at h; cases h
theorem bools_rep {F : Hp} : ∀ {xs : List D} {vs : List V} {ns : List Bool}, boolsOf xs = some ns → Reps K F xs vs → vs = ns.map V.bl
  | [], vs, ns, h, r => by unfold boolsOf at h; cases h; unfold Reps at r; exact r
  | x :: xs, vs, ns, h, r => by
    unfold Reps at r
    obtain ⟨v, vr, rfl, r1, r2⟩ := r
    cases x with
    | bl i =>
      unfold boolsOf at h
      cases e : boolsOf xs with
      | none => rw [e] at h; cases h
      | some ms =>
        rw [e] at h; cases h
        cases rb r1
        rw [bools_rep e r2]; rfl
    | _ => unfold boolsOf at h; cases h
def absF : List D → Option Out
  | [.int i] => some (.dt (.int (if i < 0 then -i else i)))
  | _ => none
theorem co_abs : CallOk K (fun xs H Q => ∃ i, xs = [.int i] ∧ Q (.int (if i < 0 then -i else i)) H) absF := by
  intro F H Q vs ds o ex rd hf q
  unfold absF at hf
  split at hf
  · cases hf
    obtain ⟨x, r, rfl, a1, a2⟩ := (by unfold Reps at rd; exact rd)
    unfold Reps at a2
    subst a2
    cases ri a1
    exact ⟨_, rfl, q.int ex⟩
  · cases hf
theorem reps_two {F : Hp} {d e : D} {vs : List V} (r : Reps K F [d, e] vs) : ∃ x y, vs = [x, y] ∧ Rep K F d x ∧ Rep K F e y := by
  unfold Reps at r
  obtain ⟨v, vr, rfl, r1, r2⟩ := r
  unfold Reps at r2
  obtain ⟨w, wr, rfl, r3, r4⟩ := r2
  unfold Reps at r4
  subst r4
  exact ⟨_, _, rfl, r1, r3⟩
theorem reps_one {F : Hp} {d : D} {vs : List V} (r : Reps K F [d] vs) : ∃ x, vs = [x] ∧ Rep K F d x := by
  unfold Reps at r
  obtain ⟨v, vr, rfl, r1, r2⟩ := r
  unfold Reps at r2
  subst r2
  exact ⟨_, rfl, r1⟩
def max2F : List D → Option Out
  | [.int i, .int j] => some (.dt (.int (if j > i then j else i)))
  | _ => none
def min2F : List D → Option Out
  | [.int i, .int j] => some (.dt (.int (if j < i then j else i)))
  | _ => none
theorem co_max2 : CallOk K (fun xs H Q => ∃ i j, xs = [.int i, .int j] ∧ Q (.int (if j > i then j else i)) H) max2F := by
  intro F H Q vs ds o ex rd hf q
  unfold max2F at hf
  split at hf
  · cases hf
    obtain ⟨x, y, rfl, a1, a2⟩ := reps_two rd
    cases ri a1; cases ri a2
    exact ⟨_, _, rfl, q.int ex⟩
  · cases hf
theorem co_min2 : CallOk K (fun xs H Q => ∃ i j, xs = [.int i, .int j] ∧ Q (.int (if j < i then j else i)) H) min2F := by
  intro F H Q vs ds o ex rd hf q
  unfold min2F at hf
  split at hf
  · cases hf
    obtain ⟨x, y, rfl, a1, a2⟩ := reps_two rd
    cases ri a1; cases ri a2
    exact ⟨_, _, rfl, q.int ex⟩
  · cases hf
def maxL : List Int → Int
  | [] => 0
  | n :: ns => ns.foldl max n
def minL : List Int → Int
  | [] => 0
  | n :: ns => ns.foldl min n
theorem foldl_max : ∀ (ns : List Int) (n : Int), (ns.foldl max n = n ∨ ns.foldl max n ∈ ns) ∧ n ≤ ns.foldl max n ∧ ∀ y ∈ ns, y ≤ ns.foldl max n
  | [], n => ⟨.inl rfl, Int.le_refl _, fun y h => by cases h⟩
  | m :: ns, n => by
    obtain ⟨h1, h2, h3⟩ := foldl_max ns (max n m)
    simp only [List.foldl_cons]
    refine ⟨?_, by omega, fun y hy => ?_⟩
    · rcases h1 with h | h
      · by_cases c : n ≤ m
        · right; rw [h]; rw [show max n m = m by omega]; exact List.mem_cons_self
        · left; rw [h]; omega
      · right; exact List.mem_cons_of_mem _ h
    · rcases List.mem_cons.mp hy with rfl | hy
      · omega
      · exact h3 y hy
theorem foldl_min : ∀ (ns : List Int) (n : Int), (ns.foldl min n = n ∨ ns.foldl min n ∈ ns) ∧ ns.foldl min n ≤ n ∧ ∀ y ∈ ns, ns.foldl min n ≤ y
  | [], n => ⟨.inl rfl, Int.le_refl _, fun y h => by cases h⟩
  | m :: ns, n => by
    obtain ⟨h1, h2, h3⟩ := foldl_min ns (min n m)
    simp only [List.foldl_cons]
    refine ⟨?_, by omega, fun y hy => ?_⟩
    · rcases h1 with h | h
      · by_cases c : m ≤ n
        · right; rw [h]; rw [show min n m = m by omega]; exact List.mem_cons_self
        · left; rw [h]; omega
      · right; exact List.mem_cons_of_mem _ h
    · rcases List.mem_cons.mp hy with rfl | hy
      · omega
      · exact h3 y hy
theorem maxL_spec {ns : List Int} (h : ns ≠ []) : maxL ns ∈ ns ∧ ∀ y ∈ ns, y ≤ maxL ns := by
  cases ns with
  | nil => exact absurd rfl h
  | cons n ns =>
    obtain ⟨h1, h2, h3⟩ := foldl_max ns n
    refine ⟨?_, fun y hy => ?_⟩
    · rcases h1 with h | h
      · show ns.foldl max n ∈ n :: ns; rw [h]; exact List.mem_cons_self
      · exact List.mem_cons_of_mem _ h
    · rcases List.mem_cons.mp hy with rfl | hy
      · exact h2
      · exact h3 y hy
theorem minL_spec {ns : List Int} (h : ns ≠ []) : minL ns ∈ ns ∧ ∀ y ∈ ns, minL ns ≤ y := by
  cases ns with
  | nil => exact absurd rfl h
  | cons n ns =>
    obtain ⟨h1, h2, h3⟩ := foldl_min ns n
    refine ⟨?_, fun y hy => ?_⟩
    · rcases h1 with h | h
      · show ns.foldl min n ∈ n :: ns; rw [h]; exact List.mem_cons_self
      · exact List.mem_cons_of_mem _ h
    · rcases List.mem_cons.mp hy with rfl | hy
      · exact h2
      · exact h3 y hy
def maxF : List D → Option Out
  | [.lst xs] => match intsOf xs with
    | some (n :: ns) => some (.dt (.int (maxL (n :: ns))))
    | _ => none
  | _ => none
def minF : List D → Option Out
  | [.lst xs] => match intsOf xs with
    | some (n :: ns) => some (.dt (.int (minL (n :: ns))))
    | _ => none
  | _ => none
def sumF : List D → Option Out
  | [.lst xs] => (intsOf xs).map fun ns => .dt (.int ns.sum)
  | _ => none
def allF : List D → Option Out
  | [.lst xs] => (boolsOf xs).map fun ns => .dt (.bl (ns.all id))
  | _ => none
def anyF : List D → Option Out
  | [.lst xs] => (boolsOf xs).map fun ns => .dt (.bl (ns.any id))
  | _ => none
theorem lst_ex {F H : Hp} {xs : List D} {v : V} (ex : Ex F H) (h : Rep K F (.lst xs) v) : ∃ a vs, v = .ref a ∧ SqL K H a vs ∧ Reps K F xs vs := by
  unfold Rep at h
  obtain ⟨a, vs, e1, e2, e3⟩ := h
  exact ⟨a, vs, e1, Or.inl (Or.inl (ex _ _ e2)), e3⟩
theorem co_max : CallOk K (rMax K) maxF := by
  intro F H Q vs ds o ex rd hf q
  unfold maxF at hf
  split at hf
  · split at hf
    · next n ns hi =>
      cases hf
      obtain ⟨x, rfl, a1⟩ := reps_one rd
      obtain ⟨a, us, rfl, e2, e3⟩ := lst_ex ex a1
      rw [ints_rep hi e3] at e2
      refine ⟨a, _, rfl, e2, by simp, fun m hm hle => ?_⟩
      obtain ⟨p1, p2⟩ := maxL_spec (ns := n :: ns) (by simp)
      have : m = maxL (n :: ns) := Int.le_antisymm (p2 m hm) (hle _ p1)
      rw [this]; exact q.int ex
    · cases hf
  · cases hf
theorem co_min : CallOk K (rMin K) minF := by
  intro F H Q vs ds o ex rd hf q
  unfold minF at hf
  split at hf
  · split at hf
    · next n ns hi =>
      cases hf
      obtain ⟨x, rfl, a1⟩ := reps_one rd
      obtain ⟨a, us, rfl, e2, e3⟩ := lst_ex ex a1
      rw [ints_rep hi e3] at e2
      refine ⟨a, _, rfl, e2, by simp, fun m hm hle => ?_⟩
      obtain ⟨p1, p2⟩ := minL_spec (ns := n :: ns) (by simp)
      have : m = minL (n :: ns) := Int.le_antisymm (hle _ p1) (p2 m hm)
      rw [this]; exact q.int ex
    · cases hf
  · cases hf
theorem co_sum : CallOk K (rSum K) sumF := by
  intro F H Q vs ds o ex rd hf q
  unfold sumF at hf
  split at hf
  · next xs =>
    cases hi : intsOf xs with
    | none => rw [hi] at hf; cases hf
    | some ns =>
      rw [hi] at hf; cases hf
      obtain ⟨x, rfl, a1⟩ := reps_one rd
      obtain ⟨a, us, rfl, e2, e3⟩ := lst_ex ex a1
      rw [ints_rep hi e3] at e2
      exact ⟨a, _, rfl, e2, q.int ex⟩
  · cases hf
theorem co_all : CallOk K (rAll K) allF := by
  intro F H Q vs ds o ex rd hf q
  unfold allF at hf
  split at hf
  · next xs =>
    cases hi : boolsOf xs with
    | none => rw [hi] at hf; cases hf
    | some ns =>
      rw [hi] at hf; cases hf
      obtain ⟨x, rfl, a1⟩ := reps_one rd
      obtain ⟨a, us, rfl, e2, e3⟩ := lst_ex ex a1
      rw [bools_rep hi e3] at e2
      exact ⟨a, _, rfl, e2, q.bl ex⟩
  · cases hf
theorem co_any : CallOk K (rAny K) anyF := by
  intro F H Q vs ds o ex rd hf q
  unfold anyF at hf
  split at hf
  · next xs =>
    cases hi : boolsOf xs with
    | none => rw [hi] at hf; cases hf
    | some ns =>
      rw [hi] at hf; cases hf
      obtain ⟨x, rfl, a1⟩ := reps_one rd
      obtain ⟨a, us, rfl, e2, e3⟩ := lst_ex ex a1
      rw [bools_rep hi e3] at e2
      exact ⟨a, _, rfl, e2, q.bl ex⟩
  · cases hf
/-! int(n), list(x), tuple(x) -/
def intF : List D → Option Out
  | [.int i] => some (.dt (.int i))
  | _ => none
theorem co_int : CallOk K (fun xs H Q => (∃ i, xs = [.int i] ∧ Q (.int i) H) ∨ ∃ k, xs = [.bl k] ∧ Q (.int (if k then 1 else 0)) H) intF := by
  intro F H Q vs ds o ex rd hf q
  unfold intF at hf
  split at hf
  · cases hf
    obtain ⟨x, rfl, a1⟩ := reps_one rd
    cases ri a1
    exact .inl ⟨_, rfl, q.int ex⟩
  · cases hf
def lstF (d : D) : Option Out := (itemsD d).map .nl
theorem sv_lst : ∀ F H Q v d o, Ex F H → SV K F H d v → lstF d = some o → OutOk K F H Q o → (∃ p ys, [v] = [V.ref p] ∧ (SqL K H p ys ∨ SqT K H p ys) ∧ ∀ l, H l = none → Q (.ref l) (upd H l (.lst ys))) := by
  intro F H Q v d o ex sv hf q
  unfold lstF itemsD at hf
  cases d with
  | lst xs =>
    cases hf
    obtain ⟨a, vs, rfl, h1, h2⟩ := sv
    exact ⟨a, vs, rfl, .inl (Or.inl (Or.inl h1)), fun l hl => q l vs hl h2⟩
  | tup xs =>
    cases hf
    have sv : Rep K F (.tup xs) v := sv
    unfold Rep at sv
    obtain ⟨a, vs, rfl, h1, h2⟩ := sv
    exact ⟨a, vs, rfl, .inr (ex.t h1), fun l hl => q l vs hl h2⟩
  | scr xs =>
    cases hf
    have sv : Rep K F (.scr xs) v := sv
    unfold Rep at sv
    obtain ⟨a, rfl, h1⟩ := sv
    exact ⟨a, _, rfl, .inl (ex.l h1), fun l hl => q l _ hl (reps_ints xs)⟩
  | _ => cases hf
theorem co_lst : CallOk K (fun xs H Q => ∃ p ys, xs = [V.ref p] ∧ (SqL K H p ys ∨ SqT K H p ys) ∧ ∀ l, H l = none → Q (.ref l) (upd H l (.lst ys))) (one lstF) := by
  intro F H Q vs ds o ex rd hf q
  match ds, hf with
  | [d], hf =>
    obtain ⟨x, rfl, a1⟩ := reps_one rd
    exact sv_lst F H Q x d o ex (SV.of ex a1) hf q
def tupF (d : D) : Option Out := match d with
  | .lst xs => some (.dt (.tup xs))
  | .tup xs => some (.dt (.tup xs))
  | .scr xs => some (.dt (.tup (xs.map .int)))
  | _ => none
theorem sv_tup : ∀ F H Q v d o, Ex F H → SV K F H d v → tupF d = some o → OutOk K F H Q o → (∃ p ys, [v] = [V.ref p] ∧ ((SqL K H p ys ∧ ∀ l, H l = none → Q (.ref l) (upd H l (.tup ys))) ∨ (SqT K H p ys ∧ Q (.ref p) H))) := by
  intro F H Q v d o ex sv hf q
  unfold tupF at hf
  cases d with
  | lst xs =>
    cases hf
    obtain ⟨a, vs, rfl, h1, h2⟩ := sv
    exact ⟨a, vs, rfl, .inl ⟨Or.inl (Or.inl h1), fun l hl => q.tup ex h2 hl⟩⟩
  | tup xs =>
    cases hf
    have sv : Rep K F (.tup xs) v := sv
    have sv2 := sv
    unfold Rep at sv
    obtain ⟨a, vs, rfl, h1, h2⟩ := sv
    exact ⟨a, vs, rfl, .inr ⟨ex.t h1, q.val ex sv2⟩⟩
  | scr xs =>
    cases hf
    have sv : Rep K F (.scr xs) v := sv
    unfold Rep at sv
    obtain ⟨a, rfl, h1⟩ := sv
    exact ⟨a, _, rfl, .inl ⟨ex.l h1, fun l hl => q.tup ex (reps_ints xs) hl⟩⟩
  | _ => cases hf
theorem co_tup : CallOk K (fun xs H Q => ∃ p ys, xs = [V.ref p] ∧ ((SqL K H p ys ∧ ∀ l, H l = none → Q (.ref l) (upd H l (.tup ys))) ∨ (SqT K H p ys ∧ Q (.ref p) H))) (one tupF) := by
  intro F H Q vs ds o ex rd hf q
  match ds, hf with
  | [d], hf =>
    obtain ⟨x, rfl, a1⟩ := reps_one rd
    exact sv_tup F H Q x d o ex (SV.of ex a1) hf q
/-! x in t, t flat -/
def flatD : D → Bool
  | .non => true
  | .bl _ => true
  | .int _ => true
  | .str _ => true
  | _ => false
def eqFl (d e : D) : Bool := match d, e with
  | .non, .non => true
  | .bl a, .bl b => a == b
  | .bl a, .int b => (if a then 1 else 0) == b
  | .int a, .bl b => a == (if b then 1 else 0)
  | .int a, .int b => a == b
  | .str a, .str b => a == b
  | _, _ => false
def inD (d : D) (xs : List D) : Bool := xs.any fun e => eqFl e d
def inF (d e : D) : Option Out := match itemsD e with
  | some xs => if flatD d = true ∧ xs.all flatD = true then some (.dt (.bl (inD d xs))) else none
  | none => none
def ninF (d e : D) : Option Out := match itemsD e with
  | some xs => if flatD d = true ∧ xs.all flatD = true then some (.dt (.bl (!inD d xs))) else none
  | none => none
theorem flat_rep {F : Hp} {d : D} {v : V} (h : flatD d = true) (r : Rep K F d v) : flatV v = true := by
  cases d with
  | non => cases rn r; rfl
  | bl b => cases rb r; rfl
  | int b => cases ri r; rfl
  | str b => cases rs r; rfl
  | _ => cases h
theorem eqFl_rep {F : Hp} {d e : D} {v u : V} (h : flatD d = true) (g : flatD e = true) (r : Rep K F d v) (s : Rep K F e u) : eqV v u = eqFl d e := by
  cases d with
  | non => cases rn r; cases e with
    | non => cases rn s; rfl
    | bl b => cases rb s; rfl
    | int b => cases ri s; rfl
    | str b => cases rs s; rfl
    | _ => cases g
  | bl a => cases rb r; cases e with
    | non => cases rn s; rfl
    | bl b => cases rb s; rfl
    | int b => cases ri s; rfl
    | str b => cases rs s; rfl
    | _ => cases g
  | int a => cases ri r; cases e with
    | non => cases rn s; rfl
    | bl b => cases rb s; rfl
    | int b => cases ri s; rfl
    | str b => cases rs s; rfl
    | _ => cases g
  | str a => cases rs r; cases e with
    | non => cases rn s; rfl
    | bl b => cases rb s; rfl
    | int b => cases ri s; rfl
    | str b => cases rs s; rfl
    | _ => cases g
  | _ => cases h
theorem in_rep {F : Hp} {d : D} {v : V} (h : flatD d = true) (r : Rep K F d v) : ∀ {xs : List D} {vs : List V}, xs.all flatD = true → Reps K F xs vs → vs.all flatV = true ∧ inV v vs = inD d xs
  | [], vs, g, s => by unfold Reps at s; subst s; exact ⟨rfl, rfl⟩
  | x :: xs, vs, g, s => by
    unfold Reps at s
    obtain ⟨u, ur, rfl, s1, s2⟩ := s
    rw [List.all_cons, Bool.and_eq_true] at g
    obtain ⟨g1, g2⟩ := in_rep h r g.2 s2
    refine ⟨by rw [List.all_cons, flat_rep g.1 s1, g1]; rfl, ?_⟩
    unfold inV inD at *
    rw [List.any_cons, List.any_cons, g2, eqFl_rep g.1 h s1 r]
theorem items_rep {F H : Hp} {e : D} {y : V} {xs : List D} (ex : Ex F H) (h : itemsD e = some xs) (r : Rep K F e y) : ∃ p vs, y = .ref p ∧ (SqL K H p vs ∨ SqT K H p vs) ∧ Reps K F xs vs := by
  unfold itemsD at h
  cases e with
  | lst ys => cases h; obtain ⟨a, vs, rfl, h1, h2⟩ := lst_ex ex r; exact ⟨a, vs, rfl, .inl h1, h2⟩
  | tup ys => cases h; unfold Rep at r; obtain ⟨a, vs, rfl, h1, h2⟩ := r; exact ⟨a, vs, rfl, .inr (ex.t h1), h2⟩
  | scr ns => cases h; unfold Rep at r; obtain ⟨a, rfl, h1⟩ := r; exact ⟨a, _, rfl, .inl (ex.l h1), reps_ints ns⟩
  | _ => cases h
theorem o2_in : Op2 K (rIn K false) inF := by
  intro F H Q x y d e o ex r1 r2 hf q
  unfold inF at hf
  split at hf
  · next xs hi =>
    split at hf
    · next h =>
      cases hf
      obtain ⟨p, vs, rfl, h1, h2⟩ := items_rep ex hi r2
      obtain ⟨g1, g2⟩ := in_rep h.1 r1 h.2 h2
      refine ⟨p, vs, rfl, h1, flat_rep h.1 r1, g1, ?_⟩
      show Q (.bl (inV x vs)) H
      rw [g2]; exact q.bl ex
    · cases hf
  · cases hf
theorem o2_nin : Op2 K (rIn K true) ninF := by
  intro F H Q x y d e o ex r1 r2 hf q
  unfold ninF at hf
  split at hf
  · next xs hi =>
    split at hf
    · next h =>
      cases hf
      obtain ⟨p, vs, rfl, h1, h2⟩ := items_rep ex hi r2
      obtain ⟨g1, g2⟩ := in_rep h.1 r1 h.2 h2
      refine ⟨p, vs, rfl, h1, flat_rep h.1 r1, g1, ?_⟩
      show Q (.bl (!inV x vs)) H
      rw [g2]; exact q.bl ex
    · cases hf
  · cases hf
/-! isinstance -/
def tyN : D → Option String
  | .non => some "NoneType"
  | .bl _ => some "bool"
  | .int _ => some "int"
  | .str _ => some "str"
  | .tup _ => some "tuple"
  | .lst _ => some "list"
  | .scr _ => some "list"
  | .obj _ _ _ => none
  | .exn _ _ _ _ => none
  | .exi _ _ _ => none
  | .dic _ _ => some "dict"
def tyNs : List String := ["NoneType", "bool", "int", "str", "tuple", "list", "dict"]
def isB (a b : String) : Bool := a == b || (a == "bool" && b == "int")
theorem kit_all : ∀ a ∈ tyNs, ∀ b ∈ tyNs, kitB a b = some (isB a b) := by decide +kernel
theorem tyN_mem {d : D} {n : String} (h : tyN d = some n) : n ∈ tyNs := by
  cases d <;> cases h <;> decide
theorem tyX_of {F H : Hp} {d : D} {v : V} {n : String} (ex : Ex F H) (h : tyN d = some n) (r : Rep K F d v) : TyX K H v (.type n) := by
  cases d with
  | non => cases h; cases rn r; exact .base .non
  | bl b => cases h; cases rb r; exact .base (.bl b)
  | int b => cases h; cases ri r; exact .base (.int b)
  | str b => cases h; cases rs r; exact .base (.str b)
  | tup xs =>
    cases h
    unfold Rep at r
    obtain ⟨a, vs, rfl, h1, _⟩ := r
    rcases h1 with (h1 | ⟨o, h1⟩) | ⟨o, its, m, h1, h2, _⟩
    · exact .base (.tup (ex _ _ h1))
    · exact .fTuple (ex _ _ h1)
    · exact .kTuple h1 h2
  | lst xs =>
    cases h
    unfold Rep at r
    obtain ⟨a, vs, rfl, h1, _⟩ := r
    exact .base (.lst (ex _ _ h1))
  | scr xs =>
    cases h
    unfold Rep at r
    obtain ⟨a, rfl, h1⟩ := r
    rcases h1 with (h1 | ⟨o, h1⟩) | ⟨o, its, m, h1, h2, _⟩
    · exact .base (.lst (ex _ _ h1))
    · exact .base (.frz (ex _ _ h1))
    · exact .kList h1 h2
  | obj _ _ _ => cases h
  | exn _ _ _ _ => cases h
  | exi _ _ _ => cases h
  | dic ks xs =>
    cases h
    unfold Rep at r
    obtain ⟨a, vs, rfl, h1, _⟩ := r
    exact .base (.dK (ex _ _ h1))
/-- an own class: what isinstance asks of it -/
structure IsC (K : PySem.W.Frag) (C : Str) : Prop where
  cl : Cls K (He.ga K C)
  ha : PySem.W.findIn K (.ref (He.ga K C)) "__class__" = some (some (.builtin "object.__class__"))
  hn : PySem.W.specialIn K (.builtin "object.__class__") "__get__" = some (some (.builtin "getset_descriptor.__get__"))
  ht : PySem.W.takesIn K (.builtin "object.__class__") = some true
  hm : PySem.W.mroIn K (He.ga K C) (.type "object") = some true
  no : ∀ n ∈ tyNs, PySem.W.kitOne K (.type n) (.ref (He.ga K C)) = some false
  on : ∀ n ∈ tyNs, PySem.W.kitOne K (.ref (He.ga K C)) (.type n) = some false
/-- isinstance(x, T), T a built-in type; cs: own classes whose instances may stand there -/
def isTF (cs : List Str) (b : String) (d : D) : Option Out := match d with
  | .obj C _ _ => if cs.contains C = true then some (.dt (.bl false)) else none
  | d => (tyN d).map fun a => .dt (.bl (isB a b))
theorem obj_ty {F H : Hp} {C : Str} {ns : List Str} {fs : List D} {v : V} (c : IsC K C) (ex : Ex F H) (r : Rep K F (.obj C ns fs) v) : TyX K H v (.ref (He.ga K C)) := by
  unfold Rep at r
  obtain ⟨a, dx, vs, rfl, h1, _⟩ := r
  exact .base (.ins (ex _ _ h1) c.cl c.ha c.hn c.ht c.hm)
theorem isT_ok {cs : List Str} {b : String} {F H : Hp} {Q : VK} {d : D} {v : V} {o : Out} (hcs : ∀ C ∈ cs, IsC K C) (hb : b ∈ tyNs) (ex : Ex F H) (r : Rep K F d v) (hf : isTF cs b d = some o) (q : OutOk K F H Q o) : ∃ t r, TyX K H v t ∧ PySem.W.kitOne K t (.type b) = some r ∧ Q (.bl r) H := by
  unfold isTF at hf
  have plain : ∀ n, tyN d = some n → (tyN d).map (fun a => Out.dt (.bl (isB a b))) = some o → ∃ t r, TyX K H v t ∧ PySem.W.kitOne K t (.type b) = some r ∧ Q (.bl r) H := fun n hn hf => by
    rw [hn] at hf
    cases hf
    exact ⟨.type n, _, tyX_of ex hn r, kit_ty (kit_all n (tyN_mem hn) b hb), q.bl ex⟩
  cases d with
  | obj C ns fs =>
    simp only at hf
    split at hf
    · next h =>
      cases hf
      have c := hcs C (by simpa using h)
      exact ⟨_, false, obj_ty c ex r, c.on b hb, q.bl ex⟩
    · cases hf
  | non => exact plain _ rfl hf
  | bl _ => exact plain _ rfl hf
  | int _ => exact plain _ rfl hf
  | str _ => exact plain _ rfl hf
  | tup _ => exact plain _ rfl hf
  | lst _ => exact plain _ rfl hf
  | scr _ => exact plain _ rfl hf
  | exn _ _ _ _ => cases (show (none : Option Out) = some o from hf)
  | exi _ _ _ => cases (show (none : Option Out) = some o from hf)
  | dic _ _ => exact plain _ rfl hf
/-- isinstance(x, C), C an own class -/
def isOF (C : Str) (d : D) : Option Out := match d with
  | .obj C' _ _ => if C' = C then some (.dt (.bl true)) else none
  | d => (tyN d).map fun _ => .dt (.bl false)
theorem isO_ok {C : Str} {F H : Hp} {Q : VK} {d : D} {v : V} {o : Out} (c : IsC K C) (ex : Ex F H) (r : Rep K F d v) (hf : isOF C d = some o) (q : OutOk K F H Q o) : ∃ t r, TyX K H v t ∧ PySem.W.kitOne K t (.ref (He.ga K C)) = some r ∧ Q (.bl r) H := by
  unfold isOF at hf
  have plain : ∀ n, tyN d = some n → (tyN d).map (fun _ => Out.dt (.bl false)) = some o → ∃ t r, TyX K H v t ∧ PySem.W.kitOne K t (.ref (He.ga K C)) = some r ∧ Q (.bl r) H := fun n hn hf => by
    rw [hn] at hf
    cases hf
    exact ⟨.type n, _, tyX_of ex hn r, c.no n (tyN_mem hn), q.bl ex⟩
  cases d with
  | obj C' ns fs =>
    simp only at hf
    split at hf
    · next h =>
      subst h
      cases hf
      refine ⟨_, true, obj_ty c ex r, ?_, q.bl ex⟩
      unfold PySem.W.kitOne
      rw [if_pos (by simp)]
    · cases hf
  | non => exact plain _ rfl hf
  | bl _ => exact plain _ rfl hf
  | int _ => exact plain _ rfl hf
  | str _ => exact plain _ rfl hf
  | tup _ => exact plain _ rfl hf
  | lst _ => exact plain _ rfl hf
  | scr _ => exact plain _ rfl hf
  | exn _ _ _ _ => cases (show (none : Option Out) = some o from hf)
  | exi _ _ _ => cases (show (none : Option Out) = some o from hf)
  | dic _ _ => exact plain _ rfl hf
end
section
variable {X : Cx} {W : WX} {a b c e : Expr} {es : List Expr} {ma mb mc : Mo T} {pos : Pos} {n : Mo (List T)}
theorem se_isT {b : Str} {bn : String} {cs : List Str} {p p2 : Pos} (hcs : ∀ C ∈ cs, IsC X.K C) (ha : SE X W a ma) (hm : X.mg "isinstance" = none) (hb : X.mg b = none) (hv : bootBuiltins b = some (.type bn)) (hbn : bn ∈ tyNs := by decide) (hg : Gl X "isinstance" := by rfl) (hg2 : Gl X b := by rfl)
    (hn : b ≠ "__name__" := by decide) (hd : (b == ("__debug__" : Str)) = false := by decide) (he : starEach [a, .Name b p2] X.env = (false, eval a X.env) :: starEach [.Name b p2] X.env := by rfl) (he2 : starEach [.Name b p2] X.env = (false, eval (.Name b p2) X.env) :: starEach [] X.env := by rfl)
    (hpl : (backTo pos (starEach [.Name b p2] X.env)).any (·.1) = false := by rfl) : SE X W (.Call (.Name "isinstance" p) [a, .Name b p2] [] pos) (una (isTF cs bn) ma) := by
  obtain ⟨te, q1, z1⟩ := ha
  refine ⟨_, pe_callB call_isi hg hm PyProof.Rows.boot_isinstance (pa_cons q1 (pa_cons (pe_bltn (v := .ty bn) hg2 hb hv rfl hn hd) pa_nil he2) he) (by decide) (by decide) he hpl, ?_⟩
  refine SndX.bnd (t2 := fun x σ H Q => rIsi X.K [x, .ty bn] H Q) rfl z1 fun t x _ => ?_
  refine snd_out (f := one (isTF cs bn)) [t] [x] fun F H σ Q ds o ex rd hf q => ?_
  obtain ⟨d, rfl, r1⟩ := reps1 rd
  obtain ⟨t, r, h1, h2, h3⟩ := isT_ok hcs hbn ex r1 hf q
  exact ⟨x, .ty bn, t, .type bn, r, rfl, .ty bn, h1, h2, h3⟩
theorem se_isO {C : Str} {p p2 : Pos} (c : IsC X.K C) (ha : SE X W a ma) (hm : X.mg "isinstance" = none) (hC : X.mg C = some (.ref (He.ga X.K C))) (hg : Gl X "isinstance" := by rfl) (hg2 : Gl X C := by rfl)
    (hd : (C == ("__debug__" : Str)) = false := by decide) (he : starEach [a, .Name C p2] X.env = (false, eval a X.env) :: starEach [.Name C p2] X.env := by rfl) (he2 : starEach [.Name C p2] X.env = (false, eval (.Name C p2) X.env) :: starEach [] X.env := by rfl)
    (hpl : (backTo pos (starEach [.Name C p2] X.env)).any (·.1) = false := by rfl) : SE X W (.Call (.Name "isinstance" p) [a, .Name C p2] [] pos) (una (isOF C) ma) := by
  obtain ⟨te, q1, z1⟩ := ha
  refine ⟨_, pe_callB call_isi hg hm PyProof.Rows.boot_isinstance (pa_cons q1 (pa_cons (pe_glob (v := .ref (He.ga X.K C)) hg2 hC rfl hd) pa_nil he2) he) (by decide) (by decide) he hpl, ?_⟩
  refine SndX.bnd (t2 := fun x σ H Q => rIsi X.K [x, .ref (He.ga X.K C)] H Q) rfl z1 fun t x _ => ?_
  refine snd_out (f := one (isOF C)) [t] [x] fun F H σ Q ds o ex rd hf q => ?_
  obtain ⟨d, rfl, r1⟩ := reps1 rd
  obtain ⟨t, r, h1, h2, h3⟩ := isO_ok c ex r1 hf q
  exact ⟨x, .ref (He.ga X.K C), t, .ref (He.ga X.K C), r, rfl, .own _, h1, h2, h3⟩
/-- isinstance(x, (tuple, list)) -/
def isTLF (cs : List Str) (d : D) : Option Out := match d with
  | .obj C _ _ => if cs.contains C = true then some (.dt (.bl false)) else none
  | d => (tyN d).map fun a => .dt (.bl (isB a "tuple" || isB a "list"))
theorem se_isTL {cs : List Str} {p p2 p3 p4 : Pos} {kt} (hcs : ∀ C ∈ cs, IsC X.K C) (ha : SE X W a ma) (hm : X.mg "isinstance" = none) (hb : X.mg "tuple" = none) (hb2 : X.mg "list" = none) (hg : Gl X "isinstance" := by rfl) (hg2 : Gl X "tuple" := by rfl) (hg3 : Gl X "list" := by rfl)
    (he : starEach [a, .Tuple [.Name "tuple" p2, .Name "list" p3] kt p4] X.env = (false, eval a X.env) :: starEach [.Tuple [.Name "tuple" p2, .Name "list" p3] kt p4] X.env := by rfl)
    (he2 : starEach [.Tuple [.Name "tuple" p2, .Name "list" p3] kt p4] X.env = (false, eval (.Tuple [.Name "tuple" p2, .Name "list" p3] kt p4) X.env) :: starEach [] X.env := by rfl)
    (he3 : starEach [.Name "tuple" p2, .Name "list" p3] X.env = (false, eval (.Name "tuple" p2) X.env) :: starEach [.Name "list" p3] X.env := by rfl) (he4 : starEach [.Name "list" p3] X.env = (false, eval (.Name "list" p3) X.env) :: starEach [] X.env := by rfl)
    (hpl : (backTo pos (starEach [.Tuple [.Name "tuple" p2, .Name "list" p3] kt p4] X.env)).any (·.1) = false := by rfl) : SE X W (.Call (.Name "isinstance" p) [a, .Tuple [.Name "tuple" p2, .Name "list" p3] kt p4] [] pos) (una (isTLF cs) ma) := by
  obtain ⟨te, q1, z1⟩ := ha
  refine ⟨_, pe_callB call_isiT hg hm PyProof.Rows.boot_isinstance (pa_cons q1 (pa_cons (pe_tup (pa_cons (pe_bltn (v := .ty "tuple") hg2 hb PyProof.Rows.boot_tuple rfl) (pa_cons (pe_bltn (v := .ty "list") hg3 hb2 PyProof.Rows.boot_list rfl) pa_nil he4) he3)) pa_nil he2) he) (by decide) (by decide) he hpl, ?_⟩
  refine SndX.bnd (t2 := fun (x : V) σ H (Q : VK) => 2 ≤ sizeLine ∧ ∀ p, H p = none → rIsiT X.K [x, .ref p] (upd H p (.tup [.ty "tuple", .ty "list"])) Q) rfl z1 fun t x _ => ?_
  refine snd_out (f := one (isTLF cs)) [t] [x] fun F H σ Q ds o ex rd hf q => ⟨by decide, fun p hp => ?_⟩
  obtain ⟨d, rfl, r1⟩ := reps1 rd
  have ex2 : Ex F (upd H p (.tup [.ty "tuple", .ty "list"])) := ex.trans (Ex.new hp)
  have hq : ∀ b, o = .dt (.bl b) → Q (.bl b) (upd H p (.tup [.ty "tuple", .ty "list"])) := fun b hb => by
    subst hb
    exact q (.bl b) F _ Ex.rfl (Ex.new hp) ex2 (fun _ _ z => .inl z) rep_bl
  have cls : Paired ClsV [V.ty "tuple", V.ty "list"] [Value.type "tuple", Value.type "list"] := .cons (.ty _) (.cons (.ty _) .nil)
  have hf' : isTLF cs d = some o := hf
  unfold isTLF at hf'
  have plain : ∀ n, tyN d = some n → (tyN d).map (fun a => Out.dt (.bl (isB a "tuple" || isB a "list"))) = some o → rIsiT X.K [x, .ref p] (upd H p (.tup [.ty "tuple", .ty "list"])) Q := fun n hn hf => by
    rw [hn] at hf
    cases hf
    refine ⟨x, p, _, .type n, _, _, rfl, upd_same, cls, tyX_of ex2 hn r1, ?_, hq _ rfl⟩
    refine kitAny_cons (kit_ty (kit_all n (tyN_mem hn) "tuple" (by decide))) (fun h => kitAny_cons (kit_ty (kit_all n (tyN_mem hn) "list" (by decide))) (fun g => ?_) (fun g => ?_)) (fun h => ?_)
    · rw [h, g]; rfl
    · rw [h, g]; rfl
    · rw [h]; rfl
  cases d with
  | obj C ns fs =>
    simp only at hf'
    split at hf'
    · next h =>
      cases hf'
      have c := hcs C (by simpa using h)
      refine ⟨x, p, _, _, _, false, rfl, upd_same, cls, obj_ty c ex2 r1, ?_, hq _ rfl⟩
      exact kitAny_cons (c.on "tuple" (by decide)) (fun _ => kitAny_cons (c.on "list" (by decide)) (fun _ => kitAny_nil) (fun z => by cases z)) (fun z => by cases z)
    · cases hf'
  | non => exact plain _ rfl hf'
  | bl _ => exact plain _ rfl hf'
  | int _ => exact plain _ rfl hf'
  | str _ => exact plain _ rfl hf'
  | tup _ => exact plain _ rfl hf'
  | lst _ => exact plain _ rfl hf'
  | scr _ => exact plain _ rfl hf'
  | exn _ _ _ _ => cases (show (none : Option Out) = some o from hf')
  | exi _ _ _ => cases (show (none : Option Out) = some o from hf')
  | dic _ _ => exact plain _ rfl hf'
end
end SL

set_option Elab.async false
set_option linter.all false
set_option maxRecDepth 100000
set_option maxHeartbeats 4000000
namespace SL
open PySem PySem.Spec L2
section
variable {X : Cx} {W : WX} {a b c e : Expr} {es : List Expr} {ma mb mc : Mo T} {pos : Pos} {n : Mo (List T)} {K : PySem.W.Frag}
/-! ### x.append(e), the list of slot i -/
def sApp (i : Nat) (m : Mo T) : So := fun ρ => match atS i ρ with
  | some (.lst _ _) => toS m (fun u ρ1 => if u.brw = true then none else match atS i ρ1 with
    | some (.lst b xs) => if xs.length < 100000 then some (.next, ρ1.set i (some (.lst b (xs ++ [u.fz])))) else none
    | _ => none) ρ
  | _ => none
theorem ss_app {i : Nat} {x : Str} {px apos cpos : Pos} (h : SE X W e ma) (hN : X.N[i]? = some x := by rfl) (hv : Vis X.env.scope x := by first | exact Or.inl rfl | exact Or.inr (Or.inl rfl) | exact Or.inr (Or.inr rfl)) (hd : (x == ("__debug__" : Str)) = false := by decide) (hcd : (x == ("__classdict__" : Str)) = false := by decide)
    (hbase : attributeBase (.Name x px) "append" X.env (eval (.Name x px) X.env) = eval (.Name x px) X.env := by rfl)
    (hfew : ((backTo cpos (starEach (e :: []) X.env)).all (fun x => !x.1) && (backToKw cpos (keywordEach [] X.env)).all (fun x => x.1.isSome)
      && decide ((e :: []).length + ([] : List Keyword).length + (if ([] : List Keyword).isEmpty then 0 else 1) < 30)) = true := by rfl)
    (hline : (apos.endLine == cpos.line) = true := by rfl) (hst : starEach (e :: []) X.env = (false, eval e X.env) :: starEach [] X.env := by rfl) (hplain : (backTo cpos (starEach [] X.env)).any (·.1) = false := by rfl)
    (hs : swapsWith (.Call (.Attribute (.Name x px) "append" apos) [e] [] cpos) none pos.line X.env = pure false := by rfl) :
    SS X W (.Expr (.Call (.Attribute (.Name x px) "append" apos) [e] [] cpos) pos) (sApp i ma) := by
  obtain ⟨te, p, z⟩ := h
  refine ⟨_, ps_expr (pe_bm PySem.F.plainAttrs_list PySem.F.slot_list_append PySem.F.type_list_append mt_append (pe_var hN hv hd hcd) (pa_cons p pa_nil hst) hbase hfew hline hst hplain) hs, ?_⟩
  intro G F H ρ σ us ws D fl ρ' j hl ht hm k
  unfold sApp at hm
  cases e0 : atS i ρ with
  | none => rw [e0] at hm; cases hm
  | some t0 =>
    rw [e0] at hm
    cases t0 with
    | dat d => cases hm
    | ins _ _ _ _ => cases hm
    | lst b0 xs0 =>
      simp only at hm
      obtain ⟨v, h1, h2, hi, _, _⟩ := j.slot hl e0
      obtain ⟨a, vs0, rfl, g1, g2, g3⟩ := h2
      refine ⟨.ref a, h1, ?_⟩
      refine ⟨Or.inl ⟨rfl, vs0, Or.inl (Or.inl g2)⟩, ?_⟩
      unfold toS at hm
      cases em : ma ρ with
      | none => rw [em] at hm; cases hm
      | some q =>
        obtain ⟨r, ρ1⟩ := q
        rw [em] at hm
        refine z G F H ρ σ us ws _ r ρ1 (by simpa using j) hl ht em ?_
        cases r with
        | exc x => cases hm; exact fun c d F' H' e1 l1 j1 x1 => k c d σ F' H' e1 l1 rfl j1 x1
        | ok u =>
          intro y F' H' e1 l1 _ j1
          simp only at hm
          by_cases hb : u.brw = true
          · rw [if_pos hb] at hm; cases hm
          · rw [if_neg hb] at hm
            obtain ⟨F2, x2, j2, rd⟩ := j1.fzLast l1 ht (by simpa using hb)
            have j3 := app_pre j2 l1 ht
            cases e2 : atS i ρ1 with
            | none => rw [e2] at hm; cases hm
            | some t1 =>
              rw [e2] at hm
              cases t1 with
              | dat d => cases hm
              | ins _ _ _ _ => cases hm
              | lst b xs =>
                simp only at hm
                by_cases hz : xs.length < 100000
                · rw [if_pos hz] at hm
                  cases hm
                  obtain ⟨v', m1, m2, m3, m4, m5⟩ := j3.slot l1 e2
                  rw [h1] at m1; cases m1
                  obtain ⟨a', vs, q1, q2, q3, q4⟩ := m2
                  cases q1
                  refine ⟨a, vs, y, rfl, rfl, q3, by rw [q4.len]; exact lt_line hz, ?_⟩
                  have j4 := j3.mut (t' := .lst b (xs ++ [u.fz])) (o := .lst (vs ++ [y])) m4 rfl rfl rfl m5 ⟨a, _, rfl, q2, upd_same, Reps.app q4 (reps_cons rd reps_nil)⟩
                  rw [List.set_append_left _ _ m3] at j4
                  exact k σ F2 _ (e1.trans x2) (by simpa using l1) rfl j4
                · rw [if_neg hz] at hm; cases hm
/-! ### x[e] = v, the list of slot i -/
def sSetI (i : Nat) (mv mi : Mo T) : So := toS mv fun u => fun ρ1 => if u.brw = true then none else match atS i ρ1 with
  | none => none
  | some _ => toS mi (fun w ρ2 => match w, atS i ρ2 with
    | .dat (.int q), some (.lst b xs) => (match ixN xs.length q with
      | some jj => some (.next, ρ2.set i (some (.lst b (xs.set jj u.fz))))
      | none => none)
    | _, _ => none) ρ1
theorem ss_setI {i : Nat} {x : Str} {px spos : Pos} {ix : Expr} (h : SE X W e ma) (g : SE X W ix mb) (hN : X.N[i]? = some x := by rfl) (hv : Vis X.env.scope x := by first | exact Or.inl rfl | exact Or.inr (Or.inl rfl) | exact Or.inr (Or.inr rfl)) (hd : (x == ("__debug__" : Str)) = false := by decide)
    (hcd : (x == ("__classdict__" : Str)) = false := by decide) (hp : ∀ {to ti : TE}, PE X (.Name x px) to → PE X ix ti → PG X (.Subscript (.Name x px) ix spos) (gSub to ti rSetL))
    (hs : swapsWithSole [.Subscript (.Name x px) ix spos] e pos.line X.env = pure false := by rfl) (hw : swappedStores [.Subscript (.Name x px) ix spos] e X.env = pure none := by rfl)
    (h1 : List.map (fun x => x.snd) (assignEach [.Subscript (.Name x px) ix spos] X.env) = [assign (.Subscript (.Name x px) ix spos) X.env] := by rfl) :
    SS X W (.Assign [.Subscript (.Name x px) ix spos] e pos) (sSetI i ma mb) := by
  obtain ⟨te, p, z⟩ := h
  obtain ⟨ti, p2, z2⟩ := g
  refine ⟨_, ps_asg p (hp (pe_var hN hv hd hcd) p2) hs hw h1, ?_⟩
  refine z.toS (tk := fun y D σ H => gSub (tVar i) ti rSetL y σ H D.nx) fun u y _ G F H ρ σ us ws D fl ρ' j hl ht hm k => ?_
  by_cases hb : u.brw = true
  · simp only [if_pos hb] at hm; cases hm
  · simp only [if_neg hb] at hm
    obtain ⟨F1, x1, j1, rd⟩ := j.fzLast hl ht (by simpa using hb)
    cases e0 : atS i ρ with
    | none => rw [e0] at hm; cases hm
    | some t0 =>
    rw [e0] at hm
    simp only at hm
    have hslot : ∃ v, σ[i]? = some (some v) := by
      obtain ⟨v, h, _⟩ := (app_pre j1 hl ht).slot hl e0
      exact ⟨v, h⟩
    unfold toS at hm
    cases em : mb ρ with
    | none => rw [em] at hm; cases hm
    | some q =>
      obtain ⟨r, ρ1⟩ := q
      rw [em] at hm
      -- the value of slot i: by the end of the index's run where there is one
      have hlen : (us ++ [some (T.dat u.fz)]).length = (ws ++ [some y]).length := by simp [ht]
      have key : ∀ v, σ[i]? = some (some v) → (ti σ H fun i' H2 => rSetL v i' y H2 fun H3 => D.nx σ H3) := by
        intro v hσ
        refine z2 G F1 H ρ σ (us ++ [some (T.dat u.fz)]) (ws ++ [some y]) _ r ρ1 (by simpa using j1) hl hlen em ?_
        cases r with
        | exc x => cases hm; exact fun c d F' H' e1 l1 j2 x2 => k c d σ F' H' (x1.trans e1) l1 rfl (app_pre (by simpa using j2) l1 ht) x2
        | ok w =>
          intro iv F' H' e1 l1 _ j2
          dsimp only at hm
          cases w with
          | lst _ _ => cases hm
          | ins _ _ _ _ => cases hm
          | dat dd =>
            cases dd with
            | int qq =>
              cases e2 : atS i ρ1 with
              | none => rw [e2] at hm; cases hm
              | some t1 =>
                rw [e2] at hm
                cases t1 with
                | dat d => cases hm
                | ins _ _ _ _ => cases hm
                | lst b xs =>
                  dsimp only at hm
                  cases ei : ixN xs.length qq with
                  | none => rw [ei] at hm; cases hm
                  | some jj =>
                    rw [ei] at hm
                    cases hm
                    have hiv := j2.last l1 hlen
                    have hiv2 : Rep X.K F' (.int qq) iv := hiv
                    cases ri hiv2
                    have j3 := app_pre j2 l1 hlen
                    have rd2 : Rep X.K F' u.fz y := Rep.mono e1 _ _ rd
                    have j4 := app_pre j3 l1 ht
                    obtain ⟨v', m1, m2, m3, m4, m5⟩ := j4.slot l1 e2
                    rw [hσ] at m1; cases m1
                    obtain ⟨a', vs, q1, q2, q3, q4⟩ := m2
                    subst q1
                    refine ⟨a', vs, qq, jj, rfl, rfl, q3, by rw [q4.len]; exact ei, ?_⟩
                    have j5 := j4.mut (t' := .lst b (xs.set jj u.fz)) (o := .lst (vs.set jj y)) m4 rfl rfl rfl m5 ⟨a', _, rfl, q2, upd_same, Reps.set jj q4 rd2⟩
                    rw [List.set_append_left _ _ m3] at j5
                    exact k σ F' _ (x1.trans e1) (by simpa using l1) rfl j5
            | _ => cases hm
      obtain ⟨v, hσ⟩ := hslot
      exact ⟨v, hσ, key v hσ⟩
end
end SL

set_option Elab.async false
set_option linter.all false
set_option maxRecDepth 100000
set_option maxHeartbeats 4000000
namespace SL
open PySem PySem.Spec L2
section
variable {X : Cx} {W : WX} {a b c e : Expr} {es : List Expr} {ma mb mc : Mo T} {pos : Pos} {n : Mo (List T)} {K : PySem.W.Frag}
/-! ### o.f = e, o the instance of slot i -/
def putO (f : Str) (d : D) : List Str → List D → List Str × List D
  | g :: ns, x :: ds => if g = f then (g :: ns, d :: ds) else (g :: (putO f d ns ds).1, x :: (putO f d ns ds).2)
  | _, _ => ([f], [d])
theorem putO_rep {F : Hp} {f : Str} {d : D} {y : V} (r : Rep K F d y) : ∀ {ns : List Str} {ds : List D} {vs : List V}, ns.length = ds.length → Reps K F ds vs →
    ∃ vs', putF f y (ns.zip vs) = (putO f d ns ds).1.zip vs' ∧ (putO f d ns ds).1.length = (putO f d ns ds).2.length ∧ Reps K F (putO f d ns ds).2 vs'
  | [], [], vs, hl, rs => by
    unfold Reps at rs
    subst rs
    exact ⟨[y], rfl, rfl, reps_cons r reps_nil⟩
  | [], _ :: _, vs, hl, rs => by simp at hl
  | _ :: _, [], vs, hl, rs => by simp at hl
  | g :: ns, x :: ds, vs, hl, rs => by
    unfold Reps at rs
    obtain ⟨v, vr, rfl, r1, r2⟩ := rs
    have hl2 : ns.length = ds.length := by simpa using hl
    rw [List.zip_cons_cons, show putF f y ((g, v) :: ns.zip vr) = (if g = f then (g, y) :: ns.zip vr else (g, v) :: putF f y (ns.zip vr)) from rfl]
    unfold putO
    by_cases h : g = f
    · rw [if_pos h, if_pos h]
      exact ⟨y :: vr, rfl, by simp [hl2], reps_cons r r2⟩
    · rw [if_neg h, if_neg h]
      obtain ⟨vs', e1, e2, e3⟩ := putO_rep r hl2 r2
      exact ⟨v :: vs', by rw [e1]; rfl, by simp [e2], reps_cons r1 e3⟩
def sFldSet (cs : List Str) (i : Nat) (f : Str) (m : Mo T) : So := toS m fun u ρ => if u.brw = true then none else match atS i ρ with
  | some (.ins b C ns xs) => if cs.contains C = true ∧ ns.length < 900 then some (.next, ρ.set i (some (.ins b C (putO f u.fz ns xs).1 (putO f u.fz ns xs).2))) else none
  | _ => none
theorem ss_fldSet {i : Nat} {x f : Str} {cs : List Str} {px p2 : Pos} (hc : FldOk X.K cs f) (h : SE X W e ma) (hN : X.N[i]? = some x := by rfl) (hv : Vis X.env.scope x := by first | exact Or.inl rfl | exact Or.inr (Or.inl rfl) | exact Or.inr (Or.inr rfl)) (hd : (x == ("__debug__" : Str)) = false := by decide)
    (hcd : (x == ("__classdict__" : Str)) = false := by decide) (hs : swapsWith e (some (.Attribute (.Name x px) f p2)) pos.line X.env = pure false := by rfl) : SS X W (.Assign [.Attribute (.Name x px) f p2] e pos) (sFldSet cs i f ma) := by
  obtain ⟨te, p, z⟩ := h
  refine ⟨_, ps_fld (pe_var hN hv hd hcd) p hs, ?_⟩
  refine z.toS (tk := fun y D σ H => tVar i σ H fun x H2 => ∃ a C dx fs, x = .ref a ∧ H2 a = some (.ins C dx fs) ∧ Cls X.K C ∧ NoAttr X.K C f ∧ fs.length < 1000 ∧ D.nx σ (upd H2 a (.ins C dx (putF f y fs)))) fun u y _ G F H ρ σ us ws D fl ρ' j hl ht hm k => ?_
  by_cases hb : u.brw = true
  · simp only [if_pos hb] at hm; cases hm
  · simp only [if_neg hb] at hm
    obtain ⟨F1, x1, j1, rd⟩ := j.fzLast hl ht (by simpa using hb)
    have j2 := app_pre j1 hl ht
    cases e2 : atS i ρ with
    | none => rw [e2] at hm; cases hm
    | some t =>
      rw [e2] at hm
      cases t with
      | dat d => cases hm
      | lst _ _ => cases hm
      | ins b C ns xs =>
        simp only at hm
        by_cases hz : cs.contains C = true ∧ ns.length < 900
        · rw [if_pos hz] at hm
          cases hm
          obtain ⟨v, m1, m2, m3, m4, m5⟩ := j2.slot hl e2
          obtain ⟨aa, dx, vs, q1, q2, q3, q4, q5⟩ := m2
          subst q1
          obtain ⟨vs', p1, p2, p3⟩ := putO_rep (f := f) rd q4 q5
          obtain ⟨c1, c2⟩ := hc.ok C (by simpa using hz.1)
          refine ⟨_, m1, aa, _, dx, _, rfl, q3, c1, c2, ?_, ?_⟩
          · rw [List.length_zip]
            have := hz.2
            omega
          · rw [p1]
            have j3 := j2.mut (t' := .ins b C (putO f u.fz ns xs).1 (putO f u.fz ns xs).2) (o := .ins (He.ga X.K C) dx ((putO f u.fz ns xs).1.zip vs')) m4 rfl rfl rfl m5 ⟨aa, dx, vs', rfl, q2, upd_same, p2, p3⟩
            rw [List.set_append_left _ _ m3] at j3
            exact k σ F1 _ x1 (by simpa using hl) rfl j3
        · rw [if_neg hz] at hm; cases hm
/-! ### x += e on ints -/
def sAug (i : Nat) (f : Int → Int → Int) (m : Mo T) : So := fun ρ => match atS i ρ with
  | some (.dat (.int a)) => toS m (fun u ρ1 => match u with
    | .dat (.int b) => if i < ρ1.length then some (.next, ρ1.set i (some (.dat (.int (f a b))))) else none
    | _ => none) ρ
  | _ => none
theorem ss_aug {i : Nat} {x : Str} {op : Operator} {f : Int → Int → Int} {p2 : Pos} (hN : X.N.Nodup) (ho : PIp X op (ipI f)) (h : SE X W e ma) (hi : X.N[i]? = some x := by rfl) (hx : Loc X.env.scope x := by first | exact Or.inl rfl | exact Or.inr rfl)
    (hf : X.fn x = true ∨ X.env.scope.names.lookup x = some .local := by first | exact .inl rfl | exact .inr rfl) : SS X W (.AugAssign (.Name x p2) op e pos) (sAug i f ma) := by
  obtain ⟨te, p, z⟩ := h
  refine ⟨_, ps_aug hN hi hx p ho hf, ?_⟩
  intro G F H ρ σ us ws D fl ρ' j hl ht hm k
  unfold sAug at hm
  cases e0 : atS i ρ with
  | none => rw [e0] at hm; cases hm
  | some t0 =>
    rw [e0] at hm
    cases t0 with
    | lst _ _ => cases hm
    | ins _ _ _ _ => cases hm
    | dat d0 =>
      cases d0 with
      | int aa =>
        simp only at hm
        obtain ⟨v, h1, h2, _, _, _⟩ := j.slot hl e0
        have h2' : Rep X.K F (.int aa) v := h2
        cases ri h2'
        refine ⟨.int aa, h1, ?_⟩
        unfold toS at hm
        cases em : ma ρ with
        | none => rw [em] at hm; cases hm
        | some q =>
          obtain ⟨r, ρ1⟩ := q
          rw [em] at hm
          refine z G F H ρ σ us ws _ r ρ1 (by simpa using j) hl ht em ?_
          cases r with
          | exc x => cases hm; exact fun c d F' H' e1 l1 j1 x1 => k c d σ F' H' e1 l1 rfl j1 x1
          | ok u =>
            intro y F' H' e1 l1 _ j1
            cases u with
            | lst _ _ => cases hm
            | ins _ _ _ _ => cases hm
            | dat dd =>
              cases dd with
              | int bb =>
                dsimp only at hm
                by_cases hlt : i < ρ1.length
                · rw [if_pos hlt] at hm
                  cases hm
                  have hy : Rep X.K F' (.int bb) y := j1.last l1 ht
                  cases ri hy
                  refine ⟨aa, bb, rfl, rfl, ?_⟩
                  have j2 := app_pre j1 l1 ht
                  have j3 := (j2.dat (d := .int (f aa bb)) rep_int).take (i := i) (by simp [l1, ht])
                  rw [List.set_append_left _ _ hlt, List.set_append_left _ _ (by rw [← l1]; exact hlt)] at j3
                  exact k _ F' H' e1 (by simpa using l1) (by simp) j3
                · rw [if_neg hlt] at hm; cases hm
              | _ => cases hm
      | _ => cases hm
/-! ### a, b = x, y -/
def sPar (i jj : Nat) (n : Mo (List T)) : So := toS n fun ts ρ => match ts with
  | [t, u] => if t.brw = false ∧ u.brw = false ∧ i < ρ.length ∧ jj < ρ.length then some (.next, (ρ.set jj (some u)).set i (some t)) else none
  | _ => none
theorem ss_par {i jj : Nat} {x y : Str} {px py pt : Pos} {kt k2 pt2} (hc : X.calm = true) (hN : X.N.Nodup) (ha : SA X W [a, b] n) (hij : i ≠ jj) (hi : X.N[i]? = some x := by rfl) (hj : X.N[jj]? = some y := by rfl)
    (hx : X.env.scope.names.lookup x = some .local := by rfl) (hy : X.env.scope.names.lookup y = some .local := by rfl)
    (hw : swappedStores [.Tuple [.Name x px, .Name y py] kt pt] (.Tuple [a, b] k2 pt2) X.env = pure (some [x, y]) := by rfl)
    (hs : swapsWithSole [.Tuple [.Name x px, .Name y py] kt pt] (.Tuple [a, b] k2 pt2) pos.line X.env = pure false := by rfl)
    (hp : ∀ {ta : TA}, PA X [a, b] ta → PS X (.Assign [.Tuple [.Name x px, .Name y py] kt pt] (.Tuple [a, b] k2 pt2) pos) (tPar i jj ta)) :
    SS X W (.Assign [.Tuple [.Name x px, .Name y py] kt pt] (.Tuple [a, b] k2 pt2) pos) (sPar i jj n) := by
  obtain ⟨ta, q, z⟩ := ha
  refine ⟨_, hp q, ?_⟩
  refine z.toS (tk := fun vs D σ H => ∃ v w, vs = [v, w] ∧ D.nx ((σ.set i (some v)).set jj (some w)) H) fun ts vs _ G F H ρ σ us ws D fl ρ' j hl ht hm k => ?_
  match ts, hm with
  | [t, u], hm =>
    dsimp only at hm
    by_cases hlt : t.brw = false ∧ u.brw = false ∧ i < ρ.length ∧ jj < ρ.length
    · rw [if_pos hlt] at hm
      cases hm
      have hv : ∃ v w, vs = [v, w] := by
        have := j.len
        simp at this
        match vs, this with
        | [v, w], _ => exact ⟨v, w, rfl⟩
        | [], h => simp at h; omega
        | [_], h => simp at h; omega
        | _ :: _ :: _ :: _, h => simp at h; omega
      obtain ⟨v, w, rfl⟩ := hv
      refine ⟨v, w, rfl, ?_⟩
      have e1 : ρ ++ (us ++ List.map some [t, u]) = (ρ ++ us ++ [some t]) ++ [some u] := by simp
      have e2 : σ ++ (ws ++ List.map some [v, w]) = (σ ++ ws ++ [some v]) ++ [some w] := by simp
      rw [e1, e2] at j
      have j3 := j.take (i := jj) (by simp [hl, ht])
      have e3 : (ρ ++ us ++ [some t]).set jj (some u) = (ρ.set jj (some u) ++ us) ++ [some t] := by
        rw [List.append_assoc, List.set_append_left _ _ hlt.2.2.2, List.append_assoc]
      have e4 : (σ ++ ws ++ [some v]).set jj (some w) = (σ.set jj (some w) ++ ws) ++ [some v] := by
        rw [List.append_assoc, List.set_append_left _ _ (by rw [← hl]; exact hlt.2.2.2), List.append_assoc]
      rw [e3, e4] at j3
      have j4 := j3.take (i := i) (by simp [hl, ht])
      rw [List.set_append_left _ _ (by simpa using hlt.2.2.1), List.set_append_left _ _ (by rw [List.length_set, ← hl]; exact hlt.2.2.1)] at j4
      rw [List.set_comm _ _ hij]
      exact k _ F H Ex.rfl (by simpa using hl) (by simp) j4
    · rw [if_neg hlt] at hm; cases hm
/-! ### f(x, ..): the thing of slot i is lent -/
def T.setB (b : Bool) : T → T
  | .dat d => .dat d
  | .lst _ xs => .lst b xs
  | .ins _ C ns xs => .ins b C ns xs
theorem setB_own (b : Bool) (t : T) : (t.setB b).own = t.own := by cases t <;> rfl
theorem setB_brw {b : Bool} {t : T} (h : t.own = true) : (t.setB b).brw = b := by
  cases t with
  | dat d => cases h
  | lst _ _ => rfl
  | ins _ _ _ _ => rfl
theorem setB_hold {F H : Hp} {b : Bool} {t : T} {v : V} (h : Hold K F H t v) : Hold K F H (t.setB b) v := by cases t <;> exact h
theorem J.call {G : Gm} {F F' H H' : Hp} {L : Sl} {M : St} {i : Nat} {t t' : T} {ad : Addr} (j : J K G F H L M) (e : L[i]? = some (some t)) (ho : t.own = true) (hm : M[i]? = some (some (.ref ad))) (ef : Ex F F') (ap : Apart H H' (.ref ad)) (ex : Ex F' H')
    (fr : ∀ a o, F' a = some o → F a = some o ∨ H a = none) (hold : Hold K F' H' t' (.ref ad)) (ho' : t'.own = true) : J K G F' H' (L.set i (some (t'.setB t.brw))) M := by
  obtain ⟨v, hv, h0, br⟩ := j.ok i t e
  rw [hm] at hv; cases hv
  obtain ⟨a', u, ea, fa, ha⟩ := h0.adr ho
  cases ea
  obtain ⟨a2, u2, ea2, fa2, ha2⟩ := hold.adr ho'
  cases ea2
  have j1 : J K G F' (fun b => if b = ad then H ad else H' b) L M := by
    refine j.grow ef (fun b o hb => ?_) (fun b o hb => ?_) fr
    · by_cases z : b = ad
      · subst z; show (if b = b then H b else H' b) = some o; rw [if_pos rfl]; exact hb
      · show (if b = ad then H ad else H' b) = some o; rw [if_neg z]; exact ap b o hb (by rintro q; cases q; exact z rfl)
    · have z : b ≠ ad := by rintro rfl; rw [fa2] at hb; cases hb
      show (if b = ad then H ad else H' b) = some o
      rw [if_neg z]; exact ex b o hb
  have hH : upd (fun b => if b = ad then H ad else H' b) ad u2 = H' := by
    funext b
    by_cases z : b = ad
    · subst z; rw [upd_same, ha2]
    · rw [upd_ne z]; simp [z]
  have j2 := j1.mut (t' := t'.setB t.brw) (o := u2) e ho (by rw [setB_own]; exact ho') (setB_brw ho') hm (by rw [hH]; exact setB_hold hold)
  rw [hH] at j2
  exact j2
structure DefB (P : Program) (w : World) (K : PySem.W.Frag) (mg : Str → Option Value) (base : Heap) (k : Nat) (x : Str) (a : Nat) (f : FnB) : Prop where
  ex : ∃ fa fd ps, FnOk P w K mg base (L2.CX P w) k fa fd ps (spB K a f) ∧ mg x = some (.ref fa) ∧ PySem.W.keepIn K (.ref fa) = true ∧ Binds K fd ps []
def eCallB (k : Nat) (f : FnB) (i : Nat) (n : Mo (List T)) : Mo T := fun ρ => match atS i ρ with
  | none => none
  | some _ => bnd n (fun ts ρ1 => match frzs ts, atS i ρ1 with
    | some ds, some t => if t.own = true ∧ ds.length = k then (match f (t.setB true) ds with
      | some (.ok d, t') => if t'.own = true then some (.ok (.dat d), ρ1.set i (some (t'.setB t.brw))) else none
      | _ => none) else none
    | _, _ => none) ρ
theorem se_callB {k : Nat} {f x : Str} {i ar : Nat} {g : FnB} {p px : Pos} (h : DefB X.prog X.w X.K X.mg X.base k f ar g) (hr : Room k X.A) (ha : SA X W es n) (hg : Gl X f := by rfl) (hN : X.N[i]? = some x := by rfl)
    (hv : Vis X.env.scope x := by first | exact Or.inl rfl | exact Or.inr (Or.inl rfl) | exact Or.inr (Or.inr rfl)) (hd : (x == ("__debug__" : Str)) = false := by decide) (hcd : (x == ("__classdict__" : Str)) = false := by decide)
    (hdb : (f == ("__debug__" : Str)) = false := by decide) (he : starEach (.Name x px :: es) X.env = (false, eval (.Name x px) X.env) :: starEach es X.env := by rfl) (hpl : (backTo pos (starEach es X.env)).any (·.1) = false := by rfl) :
    SE X W (.Call (.Name f p) (.Name x px :: es) [] pos) (eCallB ar g i n) := by
  obtain ⟨fa, fd, ps, F0, hm0, kp, hb⟩ := h.ex
  obtain ⟨ta, q, z⟩ := ha
  refine ⟨_, pe_call F0 hr hg hm0 kp hb .nil passL (pa_cons (pe_var hN hv hd hcd) q he) hdb he hpl, ?_⟩
  intro G F H ρ σ us ws Q r ρ' j hl ht hm k
  simp only [List.append_nil] at j
  unfold eCallB at hm
  cases e0 : atS i ρ with
  | none => rw [e0] at hm; cases hm
  | some t0 =>
    rw [e0] at hm
    simp only at hm
    obtain ⟨v, h1, _⟩ := j.slot hl e0
    refine ⟨v, h1, ?_⟩
    unfold bnd at hm
    cases en : n ρ with
    | none => rw [en] at hm; cases hm
    | some qq =>
      obtain ⟨r1, ρ1⟩ := qq
      rw [en] at hm
      refine z G F H ρ σ us ws _ r1 ρ1 (by simpa using j) hl ht en ?_
      cases r1 with
      | exc x => cases hm; exact k
      | ok ts =>
        intro vs F' H' e1 l1 _ j1
        dsimp only at hm
        cases hf : frzs ts with
        | none => rw [hf] at hm; cases hm
        | some ds =>
          rw [hf] at hm
          cases e2 : atS i ρ1 with
          | none => rw [e2] at hm; cases hm
          | some t =>
            rw [e2] at hm
            dsimp only at hm
            by_cases hc : t.own = true ∧ ds.length = ar
            · rw [if_pos hc] at hm
              cases eg : g (t.setB true) ds with
              | none => rw [eg] at hm; cases hm
              | some o =>
                obtain ⟨o1, t'⟩ := o
                rw [eg] at hm
                cases o1 with
                | exc x => cases hm
                | ok d =>
                  dsimp only at hm
                  by_cases ho' : t'.own = true
                  · rw [if_pos ho'] at hm
                    cases hm
                    unfold frzs at hf
                    by_cases hb : ts.any T.brw = true
                    · rw [if_pos hb] at hf; cases hf
                    · rw [if_neg hb] at hf
                      cases hf
                      rw [← List.append_assoc, ← List.append_assoc] at j1
                      obtain ⟨F1, x1, j2, rd⟩ := j1.freezes (by simp [l1, ht]) (by simpa using hb)
                      have j3 := j2.pre (by simp [l1, ht])
                      obtain ⟨v', m1, m2, m3, m4, m5⟩ := j3.slot l1 e2
                      rw [h1] at m1; cases m1
                      obtain ⟨ad, u, ea, _, _⟩ := m2.adr hc.1
                      subst ea
                      refine ⟨F1, t.setB true, .ref ad, _, vs ++ [], .ok d, t', rfl, j3.ex, setB_hold m2, by rw [setB_own]; exact hc.1, setB_brw hc.1, by rw [List.append_nil]; exact rd, hc.2, eg, ?_⟩
                      intro rv F2 H2 g1 g2 g3 g4 g5 g6
                      have j4 := j3.call m4 hc.1 m5 g1 g2 g3 g4 g5 ho'
                      rw [List.set_append_left _ _ m3] at j4
                      refine k rv F2 H2 ((e1.trans x1).trans g1) (by simpa using l1) trivial ?_
                      rw [← List.append_assoc, ← List.append_assoc]
                      exact j4.dat g6
                  · rw [if_neg ho'] at hm; cases hm
            · rw [if_neg hc] at hm; cases hm
end
end SL

set_option Elab.async false
set_option linter.all false
set_option maxRecDepth 100000
set_option maxHeartbeats 4000000
namespace SL
open PySem PySem.Spec L2
/-! ### own operators of a class -/
section
open PySem.W PySem.Calls PyProof.Rows Builtin
variable {prog : Program} {w : World} {A : Around} {E : Value → Shared → Prop} {s : Shared} {K : Frag} {x C f : Addr} {ox : Obj} {od : Option Obj} {b tb : Value}
theorem obj_ne_K {Q : Fin → Shared → Prop} (hu : A.units < cLine) (X : K.In s.heap) (I : PySem.W.InstAt s.heap x ox C od) (hs : findIn K (.ref C) "__eq__" = some (some (.ref f))) (hf : isFn K (.ref f) = true)
    (h : wpAny (model prog w) A (call (.ref f) [.ref x, b]) (fun v s' => ∃ r, v = .bool r ∧ Q (.done (.ret (.bool (!r)))) s') E s) : wpAny (model prog w) A (Builtin.«object.__ne__» ⟨[.ref x, b], []⟩) Q E s := by
  unfold Builtin.«object.__ne__»
  refine wpAny_bind (m := slotArgs "__ne__" 1 _) (wpAny_pure ?_)
  refine wpAny_bind (m := cRoomFor _ _) (wpAny_cRoomFor hu ?_)
  refine wpAny_bind (m := callSpecialIfBound? (.ref x) (Str.ofString "__eq__") _) (ifBound_K X I hs hf (wpAny_mono h (fun r s' hq => ?_) fun _ _ y => y))
  obtain ⟨c, rfl, hq⟩ := hq
  exact wpAny_bind (m := truthy (.bool c)) (wpAny_truthy_bool (wpAny_pure hq))
theorem ne_K {Q : Value → Shared → Prop} (hu : A.in1.units < cLine) (hu0 : A.units < cLine) (X : K.In s.heap) (I : PySem.W.InstAt s.heap x ox C od) (hb : Looks (model prog w) s.heap (typeOf b) tb) (hn : notFirst K C tb = true)
    (hne : findIn K (.ref C) "__ne__" = some (some (.builtin "object.__ne__"))) (hm : mroIn K C (.type "object") = some true) (hs : findIn K (.ref C) "__eq__" = some (some (.ref f))) (hf : isFn K (.ref f) = true)
    (h : wpAny (model prog w) A.in1 (call (.ref f) [.ref x, b]) (fun v s' => ∃ r, v = .bool r ∧ Q (.bool (!r)) s') E s) : wpAny (model prog w) A (richCompare .NotEq (.ref x) b) Q E s := by
  have one : wpAny (model prog w) A (tryCompare (.ref x) (cmpInfo .NotEq).2.1 b) (fun r s' => ∃ v, r = some v ∧ Q v s') E s := by
    unfold tryCompare
    refine wpAny_bind ?_
    have hc : wpAny (model prog w) A (call (.builtin "object.__ne__") [.ref x, b]) (fun v s' => ∃ r, v = .bool r ∧ Q (.bool r) s') E s := by
      refine wpAny_call (codeAny_call_builtin PySem.F.cmp_object.ne.plain PySem.F.cmpEntry_ne (check_slot (i := "object.__ne__") (owner := "object") (n := "__ne__") PySem.F.cmpKind_ne PySem.F.cmpSplit_ne (I.type.andThen (looks_mroIn X hm)) (PySem.F.cmpArgs_ne _ _) ?_))
      exact obj_ne_K hu X I hs hf (wpAny_mono h (fun v s' hv => by obtain ⟨r, rfl, q⟩ := hv; exact ⟨r, rfl, ⟨_, rfl, q⟩⟩) fun _ _ e => e)
    have fin : wpAny (model prog w) A (call (.builtin "object.__ne__") ([.ref x] ++ [b]) >>= fun v => pure (some v)) (fun r s' => ∃ v, r = some (.bool v) ∧ Q (.bool v) s') E s :=
      wpAny_bind (wpAny_mono hc (fun v s' h' => by obtain ⟨r, rfl, q⟩ := h'; exact wpAny_pure ⟨r, rfl, q⟩) fun _ _ h' => h')
    have bnd : wpAny (model prog w) A (callSpecialIfBound? (.ref x) (cmpInfo .NotEq).2.1 [b]) (fun r s' => ∃ v, r = some (.bool v) ∧ Q (.bool v) s') E s := by
      simp only [callSpecialIfBound?, bindSpecialIfBound?]
      refine wpAny_holding (wpAny_bind (wpAny_bind (wpAny_bind (I.type.here ((looks_findIn X hne).here ?_)))))
      refine wpAny_bind (wpAny_askSetting (wpAny_ite ?_))
      split
      · exact wpAny_bind ((Looks.of_pure (PySem.F.cmp_object.ne.bind _)).here (wpAny_pure (by exact fin)))
      · exact wpAny_tryCatch (wpAny_bind ((Looks.of_pure (PySem.F.cmp_object.ne.bind _)).here (wpAny_pure (by exact fin))))
    refine wpAny_mono bnd (fun r s' hr => ?_) fun _ _ e => e
    obtain ⟨v, rfl, q⟩ := hr
    exact wpAny_pure ⟨_, rfl, q⟩
  unfold richCompare
  simp only [oneThing_ref]
  refine wpAny_holding (wpAny_bind (wpAny_cRoomFor hu0 ?_))
  refine wpAny_bind (I.type.here (wpAny_bind (hb.here ?_)))
  split
  · rename_i q
    have e : subIn K tb (.ref C) = some false := by
      rcases Bool.or_eq_true_iff.mp hn with e | e
      · rw [beq_iff_eq.mp e] at q; simp at q
      · exact beq_iff_eq.mp e
    refine wpAny_bind ((looks_subIn X e).here ?_)
    simp only [Bool.false_eq_true, if_false]
    refine wpAny_bind (wpAny_mono one (fun r s' z => ?_) fun _ _ e => e)
    obtain ⟨v, rfl, hq⟩ := z
    exact wpAny_pure hq
  · refine wpAny_bind (wpAny_pure ?_)
    simp only [Bool.false_eq_true, if_false]
    refine wpAny_bind (wpAny_mono one (fun r s' z => ?_) fun _ _ e => e)
    obtain ⟨v, rfl, hq⟩ := z
    exact wpAny_pure hq
end
/-- the own operator's promise at two values, the first an instance of C -/
def rOwn (K : PySem.W.Frag) (C : Str) (f : FnD) (g : VK → VK) : R2 := fun x y H Q => ∃ a dx fs t, x = .ref a ∧ H a = some (.ins (He.ga K C) dx fs) ∧ TyX K H y t ∧ PySem.W.notFirst K (He.ga K C) t = true ∧ spD K 2 f ([x, y] ++ []) H (g Q) E0
def gEq (Q : VK) : VK := fun v H => ∃ b, v = .bl b ∧ Q (.bl b) H
def gNe (Q : VK) : VK := fun v H => ∃ b, v = .bl b ∧ Q (.bl (!b)) H
def gRef (Q : VK) : VK := fun v H => (∃ a, v = .ref a) ∧ Q v H
theorem dvs_nil {K : PySem.W.Frag} {dvs : List V} (h : ∀ F, Reps K F [] dvs) : dvs = [] := by
  have := (h (fun _ => none)).len
  exact List.eq_nil_of_length_eq_zero this
section
variable {X : Cx} {k : Nat} {C m : Str} {f : FnD}
theorem passE0 : Passes (L2.CX X.prog X.w) X E0 := fun _ _ _ _ _ _ _ h => by
  obtain ⟨_, _, _, _, _, _, _, _, _, _, _, _, z⟩ := h
  exact z.elim
theorem op_ownEq (h : MetOk X.prog X.w X.K X.mg X.base k C "__eq__" 2 [] f) (hr : Room (k + 1) X.A) : OpR X (compareOp .Eq) (rOwn X.K C f gEq) := by
  intro pins s σ H x y v u Q I rx ry hq
  obtain ⟨a, dx, fs, t, rfl, ha, ht, hn, hsp⟩ := hq
  cases rx
  obtain ⟨fa, fd, ps, dvs, ds, F, hc, hm, hb, hd, hd2⟩ := h.ex
  obtain ⟨mA, J, _⟩ := ins_get I.hok ha
  obtain ⟨od, J, _⟩ := J.look
  obtain ⟨mm, hF⟩ := I.fr
  obtain ⟨P, Z, hP, _⟩ := kit_of I ry ht
  obtain rfl := dvs_nil hd2
  show wpAny (model X.prog X.w) X.A (richCompare .Eq _ u) (EP X pins σ Q) X.xe s
  refine PySem.W.cmp_K (op := .Eq) hr.units0 hF I.ok.mod.kin J (Z.ty _ _ I.kIn hP) hn hm.at_ hm.fn ?_
  refine wpAny_mono (run_fn (us := [Value.ref a, u]) (vs := [V.ref a, y]) F (hr.mono (Nat.le_succ _)) hb hd passE0 I (.cons (show RelV (V.ref a) (Value.ref a) from rfl) (.cons ry .nil)) hsp) (fun v s' hv => ?_) fun _ _ e => e
  obtain ⟨z, H', I', rz, b, ez, q⟩ := hv
  subst ez
  cases rz
  exact ⟨.bl b, H', I', rfl, q⟩
theorem op_ownBin {op : Operator} (h : MetOk X.prog X.w X.K X.mg X.base k C (PySem.dunder op.info.2) 2 [] f) (hr : Room (k + 1) X.A) (hc : PySem.W.selfFirst X.K (He.ga X.K C) = true) :
    OpR X (binaryOp op) (fun x y H Q => ∃ a dx fs b dy gs, x = .ref a ∧ y = .ref b ∧ H a = some (.ins (He.ga X.K C) dx fs) ∧ H b = some (.ins (He.ga X.K C) dy gs) ∧ spD X.K 2 f ([x, y] ++ []) H (gRef Q) E0) := by
  intro pins s σ H x y v u Q I rx ry hq
  obtain ⟨a, dx, fs, b, dy, gs, rfl, rfl, ha, hb', hsp⟩ := hq
  cases rx
  cases ry
  obtain ⟨fa, fd, ps, dvs, ds, F, _, hm, hb, hd, hd2⟩ := h.ex
  obtain ⟨mA, J, _⟩ := ins_get I.hok ha
  obtain ⟨od, J, _⟩ := J.look
  obtain ⟨mB, J', _⟩ := ins_get I.hok hb'
  obtain ⟨od', J', _⟩ := J'.look
  obtain ⟨mm, hF⟩ := I.fr
  obtain rfl := dvs_nil hd2
  refine PySem.W.binop_K hF I.ok.mod.kin J J'.type hc hm.at_ hm.fn ?_
  refine wpAny_mono (run_fn (us := [Value.ref a, Value.ref b]) (vs := [V.ref a, V.ref b]) F (hr.mono (Nat.le_succ _)) hb hd passE0 I (.cons (show RelV (V.ref a) (Value.ref a) from rfl) (.cons (show RelV (V.ref b) (Value.ref b) from rfl) .nil)) hsp) (fun v s' hv => ?_) fun _ _ e => e
  obtain ⟨z, H', I', rz, ⟨c, ez⟩, q⟩ := hv
  subst ez
  cases rz
  exact ⟨.ref c, H', I', rfl, q⟩
theorem un_ownInv (h : MetOk X.prog X.w X.K X.mg X.base k C "__invert__" 1 [] f) (hr : Room (k + 1) X.A) :
    UnR X (unaryOp .Invert) (fun x H Q => ∃ a dx fs, x = .ref a ∧ H a = some (.ins (He.ga X.K C) dx fs) ∧ spD X.K 1 f ([x] ++ []) H (gRef Q) E0) := by
  intro pins s σ H x v Q I rx hq
  obtain ⟨a, dx, fs, rfl, ha, hsp⟩ := hq
  cases rx
  obtain ⟨fa, fd, ps, dvs, ds, F, _, hm, hb, hd, hd2⟩ := h.ex
  obtain ⟨mA, J, _⟩ := ins_get I.hok ha
  obtain ⟨od, J, _⟩ := J.look
  obtain ⟨mm, hF⟩ := I.fr
  obtain rfl := dvs_nil hd2
  refine PySem.W.ksp_inv hF I.ok.mod.kin J hm.at_ hm.fn ?_
  refine wpAny_mono (run_fn (us := [Value.ref a]) (vs := [V.ref a]) F (hr.mono (Nat.le_succ _)) hb hd passE0 I (.cons (show RelV (V.ref a) (Value.ref a) from rfl) .nil) hsp) (fun v s' hv => ?_) fun _ _ e => e
  obtain ⟨z, H', I', rz, ⟨c, ez⟩, q⟩ := hv
  subst ez
  cases rz
  exact ⟨.ref c, H', I', rfl, q⟩
/-- what != asks of the class -/
structure NeC (K : PySem.W.Frag) (C : Str) : Prop where
  ne : PySem.W.findIn K (.ref (He.ga K C)) "__ne__" = some (some (.builtin "object.__ne__"))
  ob : PySem.W.mroIn K (He.ga K C) (.type "object") = some true
theorem op_ownNe (h : MetOk X.prog X.w X.K X.mg X.base k C "__eq__" 2 [] f) (c : NeC X.K C) (hr : Room (k + 1) X.A) : OpR X (compareOp .NotEq) (rOwn X.K C f gNe) := by
  intro pins s σ H x y v u Q I rx ry hq
  obtain ⟨a, dx, fs, t, rfl, ha, ht, hn, hsp⟩ := hq
  cases rx
  obtain ⟨fa, fd, ps, dvs, ds, F, hc, hm, hb, hd, hd2⟩ := h.ex
  obtain ⟨mA, J, _⟩ := ins_get I.hok ha
  obtain ⟨od, J, _⟩ := J.look
  obtain ⟨P, Z, hP, _⟩ := kit_of I ry ht
  obtain rfl := dvs_nil hd2
  show wpAny (model X.prog X.w) X.A (richCompare .NotEq _ u) (EP X pins σ Q) X.xe s
  refine ne_K hr.in1.units0 hr.units0 I.kIn J (Z.ty _ _ I.kIn hP) hn c.ne c.ob hm.at_ hm.fn ?_
  have r2 : Vals [V.ref a, y] [Value.ref a, u] := .cons (show RelV (V.ref a) (Value.ref a) from rfl) (.cons ry .nil)
  refine wpAny_call (codeAny_mono (F.raw hb hd X.A.in1 X.stack s H [Value.ref a, u] [V.ref a, y] _ E0 hr.in1 I.env0.in1 r2 hsp) fun r s' hq => ?_)
  cases r with
  | error e => exact passE0 pins σ H s e s' I hq
  | ok fl =>
    cases fl with
    | ret u =>
      obtain ⟨z, H', I', rz, b, ez, q⟩ := I.after hq
      subst ez
      cases rz
      exact ⟨b, rfl, .bl (!b), H', I', rfl, q⟩
    | next => exact False.elim hq
    | brk => exact False.elim hq
    | cont => exact False.elim hq
end
/-! the same over data -/
theorem notFirst_ty {K : PySem.W.Frag} {C : Addr} : ∀ n ∈ tyNs, PySem.W.notFirst K C (.type n) = true := by
  intro n hn
  have h : ∀ n ∈ tyNs, ∃ l, fastBuiltinMro n = some l ∧ l.all (fun v => match v with | .type _ => true | _ => false) = true := by decide +kernel
  obtain ⟨l, h1, h2⟩ := h n hn
  have : PySem.W.subIn K (.type n) (.ref C) = some false := by
    show (fastBuiltinMro n).map (·.contains (Value.ref C)) = some false
    rw [h1]
    have : l.contains (Value.ref C) = false := by
      clear h1
      induction l with
      | nil => rfl
      | cons a l ih =>
        simp only [List.all_cons, Bool.and_eq_true] at h2
        rw [List.contains_cons, ih h2.2, Bool.or_false]
        cases a <;> first | rfl | simp at h2
    show some (l.contains (Value.ref C)) = some false
    rw [this]
  unfold PySem.W.notFirst
  rw [this]; simp
def okR (C : Str) : D → Bool
  | .obj C' _ _ => decide (C' = C)
  | .exn _ _ _ _ => false
  | .exi _ _ _ => false
  | _ => true
def ownG (C : Str) (f : FnD) (g : Bool → Bool) (d u : D) : Option Out := match d with
  | .obj C' _ _ => if C' = C ∧ okR C u = true then (match f [d, u] with
    | some (.ok (.dat (.bl b))) => some (.dt (.bl (g b)))
    | _ => none) else none
  | _ => none
/-- == and !=, the left perhaps an instance of C -/
def eqO (C : Str) (f : FnD) (d u : D) : Option Out := match d with
  | .obj _ _ _ => ownG C f (fun b => b) d u
  | _ => eqF d u
def neO (C : Str) (f : FnD) (d u : D) : Option Out := match d with
  | .obj _ _ _ => ownG C f (fun b => !b) d u
  | _ => neF d u
theorem own_ty {K : PySem.W.Frag} {C : Str} (c : IsC K C) {F H : Hp} {u : D} {y : V} (e : Ex F H) (r : Rep K F u y) (h : okR C u = true) : ∃ t, TyX K H y t ∧ PySem.W.notFirst K (He.ga K C) t = true := by
  cases hn : tyN u with
  | some n => exact ⟨_, tyX_of e hn r, notFirst_ty n (tyN_mem hn)⟩
  | none =>
    cases u with
    | obj C' ns fs =>
      obtain rfl : C' = C := by simpa [okR] using h
      exact ⟨_, obj_ty c e r, by simp [PySem.W.notFirst]⟩
    | exn _ _ _ _ => cases h
    | exi _ _ _ => cases h
    | _ => cases hn
theorem o2_own {K : PySem.W.Frag} {C : Str} {f : FnD} {g : Bool → Bool} {gg : VK → VK} (c : IsC K C) (hg : ∀ Q b H, gg Q (.bl b) H ↔ Q (.bl (g b)) H) : Op2 K (rOwn K C f gg) (ownG C f g) := by
  intro F H Q x y d u o e r1 r2 hf q
  unfold ownG at hf
  cases d with
  | obj C' ns fs =>
    simp only at hf
    by_cases h : C' = C ∧ okR C u = true
    · rw [if_pos h] at hf
      obtain ⟨rfl, hu⟩ := h
      obtain ⟨t, h1, h2⟩ := own_ty c e r2 hu
      have r1' := r1
      unfold Rep at r1'
      obtain ⟨a, dx, vs, rfl, h3, h4⟩ := r1'
      refine ⟨a, dx, _, t, rfl, e _ _ h3, h1, h2, ?_⟩
      cases hq : f [.obj C' ns fs, u] with
      | none => rw [hq] at hf; cases hf
      | some z =>
        rw [hq] at hf
        cases z with
        | exc x => cases hf
        | ok t =>
          cases t with
          | dat d =>
            cases d with
            | bl b =>
              cases hf
              refine ⟨F, _, _, e, reps_cons r1 (reps_cons r2 reps_nil), rfl, hq, rfl, fun v F' H' e1 e2 e3 e4 hold _ => ?_⟩
              have hv : v = .bl b := rb (show Rep K F' (.bl b) v from hold)
              subst hv
              exact (hg Q b H').mpr (q (.bl (g b)) F' H' e1 e2 e3 e4 rep_bl)
            | _ => cases hf
          | lst _ _ => cases hf
          | ins _ _ _ _ => cases hf
    · rw [if_neg h] at hf; cases hf
  | _ => cases hf
theorem o2_eqO {K : PySem.W.Frag} {C : Str} {f : FnD} (c : IsC K C) : Op2 K (fun x y H Q => rOwn K C f gEq x y H Q ∨ rEqD K x y H Q) (eqO C f) := by
  intro F H Q x y d u o e r1 r2 hf q
  unfold eqO at hf
  cases d with
  | obj C' ns fs => exact .inl (o2_own c (fun Q b H => ⟨fun ⟨b', h, q⟩ => by cases h; exact q, fun q => ⟨b, rfl, q⟩⟩) F H Q x y _ u o e r1 r2 hf q)
  | non => exact .inr (o2_eq F H Q x y _ u o e r1 r2 hf q)
  | bl _ => exact .inr (o2_eq F H Q x y _ u o e r1 r2 hf q)
  | int _ => exact .inr (o2_eq F H Q x y _ u o e r1 r2 hf q)
  | str _ => exact .inr (o2_eq F H Q x y _ u o e r1 r2 hf q)
  | tup _ => exact .inr (o2_eq F H Q x y _ u o e r1 r2 hf q)
  | lst _ => exact .inr (o2_eq F H Q x y _ u o e r1 r2 hf q)
  | scr _ => exact .inr (o2_eq F H Q x y _ u o e r1 r2 hf q)
  | exn _ _ _ _ => exact .inr (o2_eq F H Q x y _ u o e r1 r2 hf q)
  | exi _ _ _ => exact .inr (o2_eq F H Q x y _ u o e r1 r2 hf q)
  | dic _ _ => exact .inr (o2_eq F H Q x y _ u o e r1 r2 hf q)
theorem o2_neO {K : PySem.W.Frag} {C : Str} {f : FnD} (c : IsC K C) : Op2 K (fun x y H Q => rOwn K C f gNe x y H Q ∨ rNeD K x y H Q) (neO C f) := by
  intro F H Q x y d u o e r1 r2 hf q
  unfold neO at hf
  cases d with
  | obj C' ns fs => exact .inl (o2_own c (fun Q b H => ⟨fun ⟨b', h, q⟩ => by cases h; exact q, fun q => ⟨b, rfl, q⟩⟩) F H Q x y _ u o e r1 r2 hf q)
  | non => exact .inr (o2_ne F H Q x y _ u o e r1 r2 hf q)
  | bl _ => exact .inr (o2_ne F H Q x y _ u o e r1 r2 hf q)
  | int _ => exact .inr (o2_ne F H Q x y _ u o e r1 r2 hf q)
  | str _ => exact .inr (o2_ne F H Q x y _ u o e r1 r2 hf q)
  | tup _ => exact .inr (o2_ne F H Q x y _ u o e r1 r2 hf q)
  | lst _ => exact .inr (o2_ne F H Q x y _ u o e r1 r2 hf q)
  | scr _ => exact .inr (o2_ne F H Q x y _ u o e r1 r2 hf q)
  | exn _ _ _ _ => exact .inr (o2_ne F H Q x y _ u o e r1 r2 hf q)
  | exi _ _ _ => exact .inr (o2_ne F H Q x y _ u o e r1 r2 hf q)
  | dic _ _ => exact .inr (o2_ne F H Q x y _ u o e r1 r2 hf q)
section
variable {X : Cx} {k : Nat} {C : Str} {f : FnD}
theorem op_eqO (h : MetOk X.prog X.w X.K X.mg X.base k C "__eq__" 2 [] f) (hr : Room (k + 1) X.A) : OpR X (compareOp .Eq) (fun x y H Q => rOwn X.K C f gEq x y H Q ∨ rEqD X.K x y H Q) := OpR.or (op_ownEq h hr) (op_eqD hr.units)
theorem op_neO (h : MetOk X.prog X.w X.K X.mg X.base k C "__eq__" 2 [] f) (c : NeC X.K C) (hr : Room (k + 1) X.A) : OpR X (compareOp .NotEq) (fun x y H Q => rOwn X.K C f gNe x y H Q ∨ rNeD X.K x y H Q) := OpR.or (op_ownNe h c hr) (op_neD hr.units)
end
end SL

set_option Elab.async false
set_option linter.all false
set_option maxRecDepth 100000
set_option maxHeartbeats 4000000
namespace SL
open PySem PySem.Spec L2
/-! ### own operators that hand back an instance -/
theorem Hold.fzd {K : PySem.W.Frag} {F F' H H' : Hp} {t : T} {v : V} (h : Hold K F' H' t v) (e3 : Ex F' H') (e4 : ∀ a o, F' a = some o → F a = some o ∨ H a = none) (hn : t.own = true → ∀ a, v = .ref a → H a = none) :
    ∃ F2, Ex F' F2 ∧ Ex F2 H' ∧ (∀ a o, F2 a = some o → F a = some o ∨ H a = none) ∧ Rep K F2 t.fz v := by
  have main : ∀ (a : Addr) (o : HO), v = .ref a → H a = none → F' a = none → H' a = some o → Rep K (upd F' a o) t.fz v → ∃ F2, Ex F' F2 ∧ Ex F2 H' ∧ (∀ a o, F2 a = some o → F a = some o ∨ H a = none) ∧ Rep K F2 t.fz v := by
    intro a o ea ha fa ho r
    refine ⟨upd F' a o, Ex.new fa, fun b u hb => ?_, fun b u hb => ?_, r⟩
    · by_cases z : b = a
      · subst z; rw [upd_same] at hb; cases hb; exact ho
      · rw [upd_ne z] at hb; exact e3 b u hb
    · by_cases z : b = a
      · subst z; exact .inr ha
      · rw [upd_ne z] at hb; exact e4 b u hb
  cases t with
  | dat d => exact ⟨F', Ex.rfl, e3, e4, h⟩
  | lst b xs =>
    have h' := h
    obtain ⟨a, vs, rfl, q2, q3, q4⟩ := h'
    refine main a _ rfl (hn rfl a rfl) q2 q3 ?_
    show Rep K _ (.lst xs) _
    unfold Rep
    exact ⟨a, vs, rfl, upd_same, Reps.mono (Ex.new q2) _ _ q4⟩
  | ins b C ns xs =>
    have h' := h
    obtain ⟨a, dx, vs, rfl, q2, q3, q4, q5⟩ := h'
    refine main a _ rfl (hn rfl a rfl) q2 q3 ?_
    show Rep K _ (.obj C ns xs) _
    unfold Rep
    exact ⟨a, dx, vs, rfl, upd_same, q4, Reps.mono (Ex.new q2) _ _ q5⟩
theorem RetOk.of {K : PySem.W.Frag} {F H : Hp} {Q : VK} {t : T} (hb : t.brw = false) (q : OutOk K F H Q (.dt t.fz)) : RetOk K F H Q E0 (.ok t) :=
  ⟨hb, fun v F' H' e1 e2 e3 e4 hold hn => by
    obtain ⟨F2, g1, g2, g3, g4⟩ := hold.fzd e3 e4 hn
    exact q v F2 H' (e1.trans g1) e2 g2 g3 g4⟩
def isObj : D → Bool
  | .obj _ _ _ => true
  | _ => false
def outR : Option (Rs T) → Option Out
  | some (.ok t) => if t.brw = false ∧ isObj t.fz = true then some (.dt t.fz) else none
  | _ => none
theorem outR_ok {K : PySem.W.Frag} {F H : Hp} {Q : VK} {o : Out} {r : Option (Rs T)} (h : outR r = some o) (q : OutOk K F H Q o) : ∃ z, r = some z ∧ RetOk K F H (gRef Q) E0 z := by
  cases r with
  | none => cases h
  | some z =>
    cases z with
    | exc x => cases h
    | ok t =>
      unfold outR at h
      dsimp only at h
      by_cases c : t.brw = false ∧ isObj t.fz = true
      · rw [if_pos c] at h
        cases h
        refine ⟨_, rfl, RetOk.of c.1 fun v F' H' e1 e2 e3 e4 rd => ⟨?_, q v F' H' e1 e2 e3 e4 rd⟩⟩
        have hc := c.2
        cases hz : t.fz with
        | obj C ns fs =>
          rw [hz] at rd
          unfold Rep at rd
          obtain ⟨a, dx, vs, rfl, _⟩ := rd
          exact ⟨a, rfl⟩
        | _ => rw [hz] at hc; cases hc
      · rw [if_neg c] at h; cases h
/-- an operation that the class C has and, at what is not an instance, the built-in one -/
def binO (C : Str) (f : FnD) (g : D → D → Option Out) (d u : D) : Option Out := match d, u with
  | .obj C1 n1 f1, .obj C2 n2 f2 => if C1 = C ∧ C2 = C then outR (f [.obj C1 n1 f1, .obj C2 n2 f2]) else none
  | d, u => g d u
def rOwnB (K : PySem.W.Frag) (C : Str) (f : FnD) : R2 := fun x y H Q => ∃ a dx fs b dy gs, x = .ref a ∧ y = .ref b ∧ H a = some (.ins (He.ga K C) dx fs) ∧ H b = some (.ins (He.ga K C) dy gs) ∧ spD K 2 f ([x, y] ++ []) H (gRef Q) E0
theorem o2_binO {K : PySem.W.Frag} {C : Str} {f : FnD} {g : D → D → Option Out} {r : R2} (h : Op2 K r g) : Op2 K (fun x y H Q => rOwnB K C f x y H Q ∨ r x y H Q) (binO C f g) := by
  intro F H Q x y d u o e r1 r2 hf q
  unfold binO at hf
  split at hf
  · next C1 n1 f1 C2 n2 f2 =>
    by_cases c : C1 = C ∧ C2 = C
    · rw [if_pos c] at hf
      obtain ⟨rfl, rfl⟩ := c
      have r1' := r1
      have r2' := r2
      unfold Rep at r1' r2'
      obtain ⟨a, dx, vs, rfl, h3, h4⟩ := r1'
      obtain ⟨b, dy, ws, rfl, h5, h6⟩ := r2'
      obtain ⟨z, hz, hr⟩ := outR_ok hf q
      exact .inl ⟨a, dx, _, b, dy, _, rfl, rfl, e _ _ h3, e _ _ h5, F, _, z, e, reps_cons r1 (reps_cons r2 reps_nil), rfl, hz, hr⟩
    · rw [if_neg c] at hf; cases hf
  · exact .inr (h F H Q x y _ _ o e r1 r2 hf q)
def invO (C : Str) (f : FnD) (d : D) : Option Out := match d with
  | .obj C1 n1 f1 => if C1 = C then outR (f [.obj C1 n1 f1]) else none
  | _ => none
theorem o1_invO {K : PySem.W.Frag} {C : Str} {f : FnD} : Op1 K (fun x H Q => ∃ a dx fs, x = .ref a ∧ H a = some (.ins (He.ga K C) dx fs) ∧ spD K 1 f ([x] ++ []) H (gRef Q) E0) (invO C f) := by
  intro F H Q x d o e r1 hf q
  unfold invO at hf
  cases d with
  | obj C1 n1 f1 =>
    dsimp only at hf
    by_cases c : C1 = C
    · rw [if_pos c] at hf
      subst c
      have r1' := r1
      unfold Rep at r1'
      obtain ⟨a, dx, vs, rfl, h3, h4⟩ := r1'
      obtain ⟨z, hz, hr⟩ := outR_ok hf q
      exact ⟨a, dx, _, rfl, e _ _ h3, F, _, z, e, reps_cons r1 reps_nil, rfl, hz, hr⟩
    · rw [if_neg c] at hf; cases hf
  | _ => cases hf
section
variable {X : Cx} {W : WX} {a b e : Expr} {es : List Expr} {ma mb : Mo T} {pos : Pos} {n : Mo (List T)} {K : PySem.W.Frag}
theorem se_binO {op : Operator} {k : Nat} {C : Str} {f : FnD} {g : D → D → Option Out} {r : R2} (h : MetOk X.prog X.w X.K X.mg X.base k C (PySem.dunder op.info.2) 2 [] f) (hr : Room (k + 1) X.A) (hc : PySem.W.selfFirst X.K (He.ga X.K C) = true)
    (ho : OpR X (binaryOp op) r) (h2 : Op2 X.K r g) (ha : SE X W a ma) (hb : SE X W b mb) : SE X W (.BinOp a op b pos) (bin (binO C f g) ma mb) :=
  se_bin (OpR.or (op_ownBin h hr hc) ho) (o2_binO h2) ha hb
theorem op_no {op : Operator} : OpR X (binaryOp op) (fun _ _ _ _ => False) := fun _ _ _ _ _ _ _ _ _ _ _ _ h => h.elim
theorem o2_no : Op2 K (fun _ _ _ _ => False) (fun _ _ => none) := fun _ _ _ _ _ _ _ _ _ _ _ hf _ => by cases hf
theorem se_invO {k : Nat} {C : Str} {f : FnD} (h : MetOk X.prog X.w X.K X.mg X.base k C "__invert__" 1 [] f) (hr : Room (k + 1) X.A) (ha : SE X W a ma) : SE X W (.UnaryOp .Invert a pos) (una (invO C f) ma) :=
  se_un (un_ownInv h hr) o1_invO ha
/-! ### an instance is called -/
structure CalOk (P : Program) (w : World) (K : PySem.W.Frag) (mg : Str → Option Value) (base : Heap) (k : Nat) (C : Str) (a : Nat) (f : FnD) : Prop where
  ex : ∃ fa, FnR P w K mg base (L2.CX P w) k fa (spD K a f) ∧ StX.CallO K (He.ga K C) fa
theorem MetOk.cal {P : Program} {w : World} {mg : Str → Option Value} {base : Heap} {k : Nat} {C : Str} {a : Nat} {f : FnD} (h : MetOk P w K mg base k C "__call__" a [] f) (hi : ∀ fa, PySem.W.findIn K (.ref (He.ga K C)) "__call__" = some (some (.ref fa)) → PySem.W.fnIn K fa = true) : CalOk P w K mg base k C a f := by
  obtain ⟨fa, fd, ps, dvs, ds, F, hc, hm, hb, hd, hd2⟩ := h.ex
  obtain rfl := dvs_nil hd2
  refine ⟨fa, (F.raw hb hd).imp fun vs H Q E q => by rw [List.append_nil]; exact q, ⟨hm.at_, hm.fn, hi fa hm.at_⟩⟩
def refM (t : T) : Mo T := if isObj t.fz = true then ret t else nop
theorem snd_refM {t : T} {x : V} : SndX K W [some t] [some x] plT pmT (fun t v => v = x) (fun σ H Q => ∃ a, x = .ref a ∧ Q x H) (refM t) := by
  intro G F H ρ σ us ws Q r ρ' j hl ht hm k
  unfold refM at hm
  by_cases c : isObj t.fz = true
  · rw [if_pos c] at hm
    cases hm
    have hold := j.last hl ht
    have : ∃ a, x = .ref a := by
      cases t with
      | dat d =>
        cases d with
        | obj C ns fs =>
          have h : Rep K F (.obj C ns fs) x := hold
          unfold Rep at h
          obtain ⟨a, dx, vs, rfl, _⟩ := h
          exact ⟨a, rfl⟩
        | _ => cases c
      | lst _ _ => cases c
      | ins b C ns fs => obtain ⟨a, dx, vs, rfl, _⟩ := hold; exact ⟨a, rfl⟩
    obtain ⟨a, rfl⟩ := this
    exact ⟨a, rfl, k (.ref a) F H Ex.rfl hl rfl j⟩
  · rw [if_neg c] at hm; cases hm
def adr : V → Addr
  | .ref a => a
  | _ => 0
def hdObj (C : Str) : List D → Bool
  | .obj C' _ _ :: _ => decide (C' = C)
  | _ => false
def calM (C : Str) (a : Nat) (f : FnD) (ts : List T) : Mo T := match frzs ts with
  | none => nop
  | some ds => if hdObj C ds = true then noX (callM a f [] ts) else nop
/-- the callee and the arguments -/
def eCal (C : Str) (a : Nat) (f : FnD) (mo : Mo T) (n : Mo (List T)) : Mo T := bnd mo fun t => bnd (refM t) fun t => bnd n fun ts => calM C a f (t :: ts)
theorem snd_calM {C : Str} {k : Nat} {f : FnD} (ts : List T) (x : V) (vs : List V) :
    SndX X.K W (ts.map some) ((x :: vs).map some) plT pmT (fun _ _ => True) (fun σ H Q => StX.InsC X H (adr x) (He.ga X.K C) ∧ spD X.K k f (.ref (adr x) :: vs) H Q E0) (calM C k f ts) := by
  intro G F H ρ σ us ws Q r ρ' j hl ht hm kk
  unfold calM at hm
  cases hf : frzs ts with
  | none => rw [hf] at hm; cases hm
  | some ds =>
    rw [hf] at hm
    dsimp only at hm
    by_cases c : hdObj C ds = true
    · rw [if_pos c] at hm
      have key : x = .ref (adr x) ∧ StX.InsC X H (adr x) (He.ga X.K C) := by
        unfold frzs at hf
        by_cases hb : ts.any T.brw = true
        · rw [if_pos hb] at hf; cases hf
        · rw [if_neg hb] at hf
          cases hf
          have j' := j
          rw [← List.append_assoc, ← List.append_assoc] at j'
          obtain ⟨F1, x1, j1, r1⟩ := j'.freezes (by simp [hl, ht]) (by simpa using hb)
          have e := j1.ex
          cases ts with
          | nil => cases c
          | cons t ts =>
            rw [List.map_cons] at r1 c
            unfold Reps at r1
            obtain ⟨v, vr, e1, r2, _⟩ := r1
            cases e1
            cases hz : t.fz with
            | obj C' ns fs =>
              rw [hz] at c r2
              obtain rfl : C' = C := by simpa [hdObj] using c
              unfold Rep at r2
              obtain ⟨b, dx, ws', eb, h1, _⟩ := r2
              subst eb
              exact ⟨rfl, .inr ⟨dx, _, e _ _ h1⟩⟩
            | _ => rw [hz] at c; cases c
      refine ⟨key.2, ?_⟩
      have z := snd_callM0 (K := X.K) (W := W) (k := k) (f := f) (dds := []) (dvs := []) (fun _ => reps_nil) ts (x :: vs) G F H ρ σ us ws Q r ρ' j hl ht hm kk
      rw [List.append_nil] at z
      rw [← key.1]
      exact z
    · rw [if_neg c] at hm; cases hm
theorem se_cal {k : Nat} {C : Str} {ar : Nat} {f : FnD} {fe : Expr} (h : CalOk X.prog X.w X.K X.mg X.base k C ar f) (hr : Room k X.A) (ho : SE X W fe ma) (g : SA X W (e :: es) n)
    (ht : eval (.Call fe (e :: es) [] pos) X.env = (do callWith pos (← eval fe X.env) [] (backTo pos (starEach (e :: es) X.env)) (backToKw pos (keywordEach [] X.env))) := by rfl)
    (he : starEach (e :: es) X.env = (false, eval e X.env) :: starEach es X.env := by rfl) (hpl : (backTo pos (starEach es X.env)).any (·.1) = false := by rfl) : SE X W (.Call fe (e :: es) [] pos) (eCal C ar f ma n) := by
  obtain ⟨fa, F, co⟩ := h.ex
  obtain ⟨to, q1, z1⟩ := ho
  obtain ⟨ta, q, z⟩ := g
  refine ⟨_, StX.pe_callO q1 co F hr passE0 q ht he hpl, ?_⟩
  refine SndX.bnd (t2 := fun x σ H Q => ∃ a, x = V.ref a ∧ ta σ H fun vs H2 => StX.InsC X H2 a (He.ga X.K C) ∧ spD X.K ar f (V.ref a :: vs) H2 Q E0) rfl z1 fun u x _ => ?_
  have q : SndX X.K W [some u] [some x] plT pmT (fun _ _ => True) (fun σ H Q => ∃ a, x = .ref a ∧ ta σ H fun vs H2 => StX.InsC X H2 (adr x) (He.ga X.K C) ∧ spD X.K ar f (.ref (adr x) :: vs) H2 Q E0) (bnd (refM u) fun t => bnd n fun ts => calM C ar f (t :: ts)) := by
    refine SndX.pre (t1 := fun σ H Q => ∃ a, x = .ref a ∧ Q x H) (t2 := fun y σ H Q => ta σ H fun vs H2 => StX.InsC X H2 (adr x) (He.ga X.K C) ∧ spD X.K ar f (.ref (adr x) :: vs) H2 Q E0) rfl snd_refM fun u y hy => ?_
    subst hy
    refine SndX.bnd (L0 := [some u]) (M0 := [some y]) (t2 := fun vs σ H2 Q => StX.InsC X H2 (adr y) (He.ga X.K C) ∧ spD X.K ar f (.ref (adr y) :: vs) H2 Q E0) rfl z fun us xs _ => ?_
    exact snd_calM (u :: us) y xs
  refine q.cg fun σ H Q ⟨a, e1, e2⟩ => ⟨a, e1, ?_⟩
  subst e1
  exact e2
/-! ### f(g(..), ..): what is lent is new -/
def tmpM (k : Nat) (f : FnB) (ts : List T) : Mo T := match ts with
  | [] => nop
  | t :: us => match frzs us with
    | none => nop
    | some ds => if t.own = true ∧ t.brw = false ∧ ds.length = k then (match f (t.setB true) ds with
      | some (.ok d, t') => if t'.own = true then ret (.dat d) else nop
      | _ => nop) else nop
def eCallT (k : Nat) (f : FnB) (n : Mo (List T)) : Mo T := bnd n (tmpM k f)
theorem snd_tmpM {k : Nat} {f : FnB} (ts : List T) (vs : List V) :
    SndX K W (ts.map some) (vs.map some) plT pmT (fun _ _ => True) (fun σ H Q => spB K k f (vs ++ []) H Q E0) (tmpM k f ts) := by
  intro G F H ρ σ us ws Q r ρ' j hl ht hm kk
  unfold tmpM at hm
  cases ts with
  | nil => cases hm
  | cons t tr =>
    cases vs with
    | nil => have := j.len; simp at this; omega
    | cons v vr =>
      dsimp only at hm
      cases hf : frzs tr with
      | none => rw [hf] at hm; cases hm
      | some ds =>
        rw [hf] at hm
        dsimp only at hm
        by_cases c : t.own = true ∧ t.brw = false ∧ ds.length = k
        · rw [if_pos c] at hm
          cases hq : f (t.setB true) ds with
          | none => rw [hq] at hm; cases hm
          | some o =>
            obtain ⟨o1, t'⟩ := o
            rw [hq] at hm
            cases o1 with
            | exc x => cases hm
            | ok d =>
              dsimp only at hm
              by_cases ho' : t'.own = true
              · rw [if_pos ho'] at hm
                cases hm
                unfold frzs at hf
                by_cases hb : tr.any T.brw = true
                · rw [if_pos hb] at hf; cases hf
                · rw [if_neg hb] at hf
                  cases hf
                  have e1 : ρ ++ (us ++ List.map some (t :: tr)) = (ρ ++ us ++ [some t]) ++ tr.map some := by simp
                  have e2 : σ ++ (ws ++ List.map some (v :: vr)) = (σ ++ ws ++ [some v]) ++ vr.map some := by simp
                  rw [e1, e2] at j
                  obtain ⟨F1, x1, j1, r1⟩ := j.freezes (by simp [hl, ht]) (by simpa using hb)
                  have j2 := j1.pre (by simp [hl, ht])
                  have hL : (ρ ++ us ++ [some t])[(ρ ++ us).length]? = some (some t) := by simp
                  have hM : (σ ++ ws ++ [some v])[(ρ ++ us).length]? = some (some v) := by
                    have : (ρ ++ us).length = (σ ++ ws).length := by simp [hl, ht]
                    rw [this]; simp
                  obtain ⟨v', m1, m2, _⟩ := j2.ok _ _ hL
                  rw [hM] at m1; cases m1
                  obtain ⟨ad, u, ea, _, _⟩ := m2.adr c.1
                  subst ea
                  refine ⟨F1, t.setB true, .ref ad, _, vr ++ [], .ok d, t', by simp, j2.ex, setB_hold m2, by rw [setB_own]; exact c.1, setB_brw c.1, by rw [List.append_nil]; exact r1, c.2.2, hq, ?_⟩
                  intro rv F2 H2 g1 g2 g3 g4 g5 g6
                  have j4 := j2.call hL c.1 hM g1 g2 g3 g4 g5 ho'
                  have e3 : (ρ ++ us ++ [some t]).set (ρ ++ us).length (some (t'.setB t.brw)) = (ρ ++ us) ++ [some (t'.setB t.brw)] := by simp
                  rw [e3] at j4
                  have j5 := j4.pre (by simp [hl, ht])
                  refine kk rv F2 H2 (x1.trans g1) hl trivial ?_
                  rw [← List.append_assoc, ← List.append_assoc]
                  exact j5.dat g6
              · rw [if_neg ho'] at hm; cases hm
        · rw [if_neg c] at hm; cases hm
theorem se_callT {k : Nat} {f : Str} {ar : Nat} {g : FnB} {p : Pos} (h : DefB X.prog X.w X.K X.mg X.base k f ar g) (hr : Room k X.A) (ha : SA X W (e :: es) n) (hg : Gl X f := by rfl)
    (hdb : (f == ("__debug__" : Str)) = false := by decide) (he : starEach (e :: es) X.env = (false, eval e X.env) :: starEach es X.env := by rfl) (hpl : (backTo pos (starEach es X.env)).any (·.1) = false := by rfl) :
    SE X W (.Call (.Name f p) (e :: es) [] pos) (eCallT ar g n) := by
  obtain ⟨fa, fd, ps, F0, hm0, kp, hb⟩ := h.ex
  obtain ⟨ta, q, z⟩ := ha
  exact ⟨_, pe_call F0 hr hg hm0 kp hb .nil passL q hdb he hpl, SndX.bnd (t2 := fun vs σ H Q => spB X.K ar g (vs ++ []) H Q E0) rfl z fun us xs _ => snd_tmpM us xs⟩
/-! ### list(range(n)) -/
def lrgF (d : D) : Option Out := match d with
  | .int n => if n ≤ 100000 then some (.nl ((List.range n.toNat).map fun i => .int (i : Nat))) else none
  | _ => none
end
end SL

set_option Elab.async false
set_option linter.all false
set_option maxRecDepth 100000
set_option maxHeartbeats 4000000
namespace SL
open PySem PySem.Spec L2
section
variable {X : Cx} {W : WX} {a b c e : Expr} {es : List Expr} {ma mb mc : Mo T} {pos : Pos} {n : Mo (List T)} {K : PySem.W.Frag}
theorem sl_all : SlR X (fun x lo hi H Q => rSlL X.K x lo hi H Q ∨ (rSlA X.K x lo hi H Q ∨ rSlS x lo hi H Q)) := by
  intro pins s σ H x v vl vu lo hi sl Q I rx hs pl pu h
  rcases h with h | h | h
  · exact sl_list pins s σ H x v vl vu lo hi sl Q I rx hs pl pu h
  · exact sl_tupA pins s σ H x v vl vu lo hi sl Q I rx hs pl pu h
  · exact sl_str pins s σ H x v vl vu lo hi sl Q I rx hs pl pu h
theorem o3_sl : Sl3 K (fun x lo hi H Q => rSlL K x lo hi H Q ∨ (rSlA K x lo hi H Q ∨ rSlS x lo hi H Q)) slF :=
  fun F H Q x d lo hi o ex r hf q => sv_sl F H Q x d lo hi o ex (SV.of ex r) hf q
/-! list(range(..)) -/
theorem reps_rg {F : Hp} : ∀ (l : List Nat) (a : Int), Reps K F (l.map fun (i : Nat) => D.int (a + (i : Nat))) (l.map fun i => V.int (a + (i : Nat)))
  | [], _ => reps_nil
  | _ :: l, a => reps_cons rep_int (reps_rg l a)
def lrg2F (d u : D) : Option Out := match d, u with
  | .int i, .int j => if 0 ≤ i ∧ 0 ≤ j ∧ i ≤ 16777216 ∧ j ≤ 16777216 then some (.nl ((List.range (j - i).toNat).map fun (k : Nat) => .int (i + (k : Nat)))) else none
  | _, _ => none
theorem se_lrg {p p2 pos2 : Pos} (hc : X.calm = true) (hm : X.mg "list" = none) (hm2 : X.mg "range" = none) (ha : SE X W a ma) (hg : Gl X "list" := by rfl) (hg2 : Gl X "range" := by rfl) (na : starEach [a] X.env = (false, eval a X.env) :: starEach [] X.env := by rfl)
    (na2 : starEach [.Call (.Name "range" p2) [a] [] pos2] X.env = (false, eval (.Call (.Name "range" p2) [a] [] pos2) X.env) :: starEach [] X.env := by rfl) :
    SE X W (.Call (.Name "list" p) [.Call (.Name "range" p2) [a] [] pos2] [] pos) (una (lrg2F (.int 0)) ma) := by
  obtain ⟨ta, pa, sa⟩ := ha
  refine ⟨_, pe_listRg hc hg hm (prg_1 hg2 hm2 pa na) na2, ?_⟩
  refine SndX.bnd (t2 := fun (x : V) σ H (Q : VK) => ∃ n, x = .int n ∧ (RgOk 0 n ∧ ∀ q, H q = none → Q (.ref q) (upd H q (.lst (rgV 0 n))))) rfl sa fun t x _ => ?_
  refine snd_out (f := one (lrg2F (.int 0))) [t] [x] fun F H σ Q ds o ex rd hf q => ?_
  obtain ⟨d, rfl, r1⟩ := reps1 rd
  unfold one lrg2F at hf
  cases d with
  | int j =>
    dsimp only at hf
    split at hf
    · next h =>
      cases hf
      cases ri r1
      exact ⟨j, rfl, RgOk.of_le (by omega) (by omega) (by omega) (by omega), fun p hp => q p _ hp (by unfold rgV; exact reps_rg _ _)⟩
    · cases hf
  | _ => cases hf
theorem se_lrg2 {p p2 pos2 : Pos} (hc : X.calm = true) (hm : X.mg "list" = none) (hm2 : X.mg "range" = none) (ha : SE X W a ma) (hb : SE X W b mb) (hg : Gl X "list" := by rfl) (hg2 : Gl X "range" := by rfl) (na : starEach [a, b] X.env = (false, eval a X.env) :: starEach [b] X.env := by rfl)
    (nb : starEach [b] X.env = (false, eval b X.env) :: starEach [] X.env := by rfl) (hp : (backTo pos2 (starEach [b] X.env)).any (·.1) = false := by rfl)
    (na2 : starEach [.Call (.Name "range" p2) [a, b] [] pos2] X.env = (false, eval (.Call (.Name "range" p2) [a, b] [] pos2) X.env) :: starEach [] X.env := by rfl) :
    SE X W (.Call (.Name "list" p) [.Call (.Name "range" p2) [a, b] [] pos2] [] pos) (bin lrg2F ma mb) := by
  obtain ⟨ta, pa, sa⟩ := ha
  obtain ⟨tb, pb, sb⟩ := hb
  refine ⟨_, pe_listRg hc hg hm (prg_2 hg2 hm2 pa pb na nb hp) na2, ?_⟩
  refine (snd_bin (r := fun x y H Q => ∃ i j, x = .int i ∧ y = .int j ∧ (RgOk i j ∧ ∀ q, H q = none → Q (.ref q) (upd H q (.lst (rgV i j))))) ?_ sa sb).cg fun σ H Q h => h
  intro F H Q x y d u o ex r1 r2 hf q
  unfold lrg2F at hf
  split at hf
  · next i j =>
    split at hf
    · next h =>
      cases hf
      cases ri r1
      cases ri r2
      exact ⟨i, j, rfl, rfl, RgOk.of_le (by omega) (by omega) (by omega) (by omega), fun p hp => q p _ hp (by unfold rgV; exact reps_rg _ _)⟩
    · cases hf
  · cases hf
/-! a op b op2 c -/
def eChn (f g : D → D → Option Out) (ma mb mc : Mo T) : Mo T := bnd ma fun t => bnd mb fun u => if u.brw = true then nop else bnd (opM (two f) [t, .dat u.fz]) fun z => bnd (asB z) fun k => if k = true then bnd mc fun w => opM (two g) [.dat u.fz, w] else ret (.dat (.bl false))
/-! a, b, c = x, y, z -/
def sPar3 (i jj l : Nat) (n : Mo (List T)) : So := toS n fun ts ρ => match frzs ts with
  | some [d, e, g] => if i < ρ.length ∧ jj < ρ.length ∧ l < ρ.length then some (.next, ((ρ.set i (some (.dat d))).set jj (some (.dat e))).set l (some (.dat g))) else none
  | _ => none
theorem reps_three {F : Hp} {d e g : D} {vs : List V} (h : Reps K F [d, e, g] vs) : ∃ u v w, vs = [u, v, w] ∧ Rep K F d u ∧ Rep K F e v ∧ Rep K F g w := by
  unfold Reps at h
  obtain ⟨u, r, rfl, h1, h⟩ := h
  unfold Reps at h
  obtain ⟨v, r, rfl, h2, h⟩ := h
  unfold Reps at h
  obtain ⟨w, r, rfl, h3, h⟩ := h
  unfold Reps at h
  subst h
  exact ⟨u, v, w, rfl, h1, h2, h3⟩
theorem ss_par3 {i jj l : Nat} {x y z : Str} {px py pz pt : Pos} {kt k2 pt2} (hc : X.calm = true) (hN : X.N.Nodup) (ha : SA X W [a, b, c] n) (hij : i ≠ jj) (hil : i ≠ l) (hjl : jj ≠ l)
    (hp : ∀ {ta : TA}, PA X [a, b, c] ta → PS X (.Assign [.Tuple [.Name x px, .Name y py, .Name z pz] kt pt] (.Tuple [a, b, c] k2 pt2) pos) (tPar3 i jj l ta)) :
    SS X W (.Assign [.Tuple [.Name x px, .Name y py, .Name z pz] kt pt] (.Tuple [a, b, c] k2 pt2) pos) (sPar3 i jj l n) := by
  obtain ⟨ta, q, z⟩ := ha
  refine ⟨_, hp q, ?_⟩
  refine z.toS (tk := fun vs D σ H => ∃ u v w, vs = [u, v, w] ∧ D.nx (((σ.set i (some u)).set jj (some v)).set l (some w)) H) fun ts vs _ G F H ρ σ us ws D fl ρ' j hl ht hm k => ?_
  cases hf : frzs ts with
  | none => rw [hf] at hm; cases hm
  | some ds =>
    rw [hf] at hm
    unfold frzs at hf
    by_cases hb : ts.any T.brw = true
    · rw [if_pos hb] at hf; cases hf
    · rw [if_neg hb] at hf
      cases hf
      rw [← List.append_assoc, ← List.append_assoc] at j
      obtain ⟨F1, x1, j1, r1⟩ := j.freezes (by simp [hl, ht]) (by simpa using hb)
      have j2 := j1.pre (by simp [hl, ht])
      generalize ts.map T.fz = ds at hm r1
      match ds, hm with
      | [d, e, g], hm =>
        dsimp only at hm
        by_cases hlt : i < ρ.length ∧ jj < ρ.length ∧ l < ρ.length
        · rw [if_pos hlt] at hm
          cases hm
          obtain ⟨u, v, w, rfl, q1, q2, q3⟩ := reps_three r1
          refine ⟨u, v, w, rfl, ?_⟩
          have j3 := (j2.dat q1).take (i := i) (by simp [hl, ht])
          rw [List.set_append_left _ _ hlt.1, List.set_append_left _ _ (by rw [← hl]; exact hlt.1)] at j3
          have j4 := (j3.dat q2).take (i := jj) (by simp [hl, ht])
          rw [List.set_append_left _ _ (by simpa using hlt.2.1), List.set_append_left _ _ (by rw [List.length_set, ← hl]; exact hlt.2.1)] at j4
          have j5 := (j4.dat q3).take (i := l) (by simp [hl, ht])
          rw [List.set_append_left _ _ (by simpa using hlt.2.2), List.set_append_left _ _ (by rw [List.length_set, List.length_set, ← hl]; exact hlt.2.2)] at j5
          exact k _ F1 H x1 (by simpa using hl) (by simp) j5
        · rw [if_neg hlt] at hm; cases hm
/-! range(i, j, -1) -/
def rngC (lo : Int) (n : Nat) : List D := (List.range n).map fun (k : Nat) => D.int (lo + (k : Nat) * (-1))
def rng3 : List D → Option (List D)
  | [.int i, .int j, .int c] => if c = -1 ∧ -100000 ≤ i ∧ i ≤ 100000 ∧ -100000 ≤ j ∧ j ≤ 100000 then some (rngC i (i - j).toNat) else none
  | _ => none
theorem wk_rngC {F : Hp} {lo : Int} {n : Nat} : Wk K (Itc lo (-1) n) F (rngC lo n) := by
  intro F1 H e1 e2 i
  refine ⟨fun hi => (show n ≤ i by simpa [rngC] using hi), fun d hd => ?_⟩
  unfold rngC at hd
  rw [List.getElem?_map] at hd
  cases e : (List.range n)[i]? with
  | none => rw [e] at hd; cases hd
  | some k =>
    rw [e] at hd
    have hk := List.getElem?_eq_some_iff.mp e
    obtain ⟨h1, h2⟩ := hk
    simp at h1 h2
    subst h2
    cases hd
    refine ⟨h1, fun x H' y => ?_⟩
    obtain ⟨rfl, rfl⟩ := y
    exact ⟨F1, Ex.rfl, Ex.rfl, e2, fun _ _ z => .inl z, rep_int⟩
theorem si_rng3 {tg : Expr} {p : Pos} (hm : X.mg "range" = none) (g : SA X W [a, b, c] n) (hg : Gl X "range" := by rfl) (hs : starEach [a, b, c] X.env = (false, eval a X.env) :: starEach [b, c] X.env := by rfl) (hpl : (backTo pos (starEach [b, c] X.env)).any (·.1) = false := by rfl) :
    SI X W tg (.Call (.Name "range" p) [a, b, c] [] pos) (iOf rng3 n) := by
  obtain ⟨ta, q, z⟩ := g
  refine ⟨_, pi_range3 hg hm q hs hpl, snd_iOf (t2 := fun vs σ H1 R => ∃ (i j c : Int) (n : Nat), vs = [.int i, .int j, .int c] ∧ RgC i j c n ∧ R (Itc i c n) H1) z fun F H σ R vs ds xs e rd hf k => ?_⟩
  match ds, hf with
  | [.int ii, .int jj, .int cc], hf =>
    simp only [rng3] at hf
    by_cases hz : cc = -1 ∧ -100000 ≤ ii ∧ ii ≤ 100000 ∧ -100000 ≤ jj ∧ jj ≤ 100000
    · rw [if_pos hz] at hf
      cases hf
      obtain ⟨u, v, w, rfl, q1, q2, q3⟩ := reps_three rd
      cases ri q1
      cases ri q2
      cases ri q3
      obtain ⟨rfl, hz⟩ := hz
      exact ⟨ii, jj, -1, _, rfl, RgC.neg (by omega) (by omega) (by omega) (by omega), k _ F H Ex.rfl Ex.rfl e (fun _ _ z => .inl z) wk_rngC⟩
    · rw [if_neg hz] at hf; cases hf
end
end SL

set_option Elab.async false
set_option linter.all false
set_option maxRecDepth 100000
set_option maxHeartbeats 4000000
namespace SL
open PySem PySem.Spec PyProof.Rows L2
/-! ### the head: facts and defs at paths -/
/-- where a def's function stands, how it is written -/
structure Df where
  at_ : PySem.W.Frag → Addr
  name : Str
  qual : Str
  params : Arguments
  body : List Stmt
  scope : Scope
  dfl : List He.Dv := []
  free : List Str := []
def fnAt (K : PySem.W.Frag) (a : Addr) : He.FnW := match K.lookup a with
  | some ⟨_, _, .func fd, _⟩ => some (fd.name, fd.qualname, fd.params, fd.body, fd.scope, fd.globals, fd.closure.map (fun p => (p.1, 0)), fd.builtins)
  | _ => none
def Df.val (d : Df) : He.FnW := some (d.name, d.qual, d.params, .stmts d.body, d.scope, mainGlobals, d.free.map (fun x => (x, 0)), builtinsNs)
def Df.dvs (K : PySem.W.Frag) (d : Df) : List V := d.dfl.map (He.Dv.v K)
def Df.ok (K : PySem.W.Frag) (d : Df) : Bool := PySem.W.keepIn K (.ref (d.at_ K)) && (match K.lookup (d.at_ K) with
  | some ⟨_, _, .func fd, _⟩ => PySem.W.codeIn K fd.code d.qual && He.dflB K fd.defaults (d.dvs K)
  | _ => false)
theorem Df.funD {K : PySem.W.Frag} {d : Df} (hf : d.free = []) (e : fnAt K (d.at_ K) = d.val) (c : d.ok K = true) : ∃ fd, FunD K d.name d.qual d.params d.body d.scope (d.dvs K) [] (d.at_ K) fd := by
  obtain ⟨kp, c2⟩ := He.ba c
  unfold fnAt at e
  split at e
  · next fc fo fd fs q =>
    rw [q] at c2
    dsimp only at c2
    obtain ⟨k1, k3⟩ := He.ba c2
    obtain ⟨n1, n2, n3, n4, n5, n6, n7, n8, n9, n10, n11, n12, n13, n14, n15⟩ := fd
    unfold Df.val at e
    rw [hf] at e
    simp only [Option.some.injEq, Prod.mk.injEq, List.map_nil, List.map_eq_nil_iff] at e
    obtain ⟨h1, h2, h3, h4, h5, h6, h7, h8⟩ := e
    subst h1 h2 h3 h4 h5 h6 h7 h8
    exact ⟨_, ⟨fc, fo, n8, n9, n10, n11, n12, n13, n14, fs, rfl, q, k1, He.dflB_ok k3, .inl rfl⟩, kp⟩
  · cases e
abbrev Ft : Type := PySem.W.Frag → Bool
def obsP (fa : List Ft) (fn : List Df) (K : PySem.W.Frag) : He.AlD := ((fa.all fun f => f K) && fn.all fun d => d.ok K, fn.map fun d => fnAt K (d.at_ K))
def valP (fn : List Df) : He.AlD := (true, fn.map Df.val)
def SaysP (fa : List Ft) (fn : List Df) (K : PySem.W.Frag) : Prop := obsP fa fn K = valP fn
def obsPG (n : Nat) (fa : List Ft) (fn : List Df) (g : Addr → Option Obj) : He.AlD := obsP fa fn (He.frG g (He.asD g n))
def hookP (n : Nat) (fa : List Ft) (fn : List Df) : PySem.W.Hook where
  α := He.AlD
  obs := fun s => obsPG n fa fn s.heap.get?
  val := fun _ => valP fn
  says := fun _ h => ∃ K : PySem.W.Frag, K.In h ∧ SaysP fa fn K
  of := fun _ _ e => ⟨_, He.frG_in, e⟩
  keeps := fun _ _ _ ⟨K, hK, c⟩ k => ⟨K, PySem.W.Frag.In.keeps hK k, c⟩
theorem obsPG_eq {n : Nat} {fa : List Ft} {fn : List Df} {g : Addr → Option Obj} {s : Shared} (h : ∀ a, g a = s.heap.get? a) : obsPG n fa fn g = (hookP n fa fn).obs s := by
  have e : g = s.heap.get? := funext h
  rw [e] <;> rfl
section
variable {fa : List Ft} {fn : List Df} {K : PySem.W.Frag}
theorem SaysP.fact (c : SaysP fa fn K) (i : Nat) {f : Ft} (h : fa[i]? = some f := by rfl) : f K = true := by
  have c1 := (He.ba (show ((fa.all fun f => f K) && fn.all fun d => d.ok K) = true from congrArg (fun z : He.AlD => z.1) c)).1
  exact List.all_eq_true.mp c1 f (List.mem_of_getElem? h)
theorem SaysP.def_ (c : SaysP fa fn K) (i : Nat) {d : Df} (h : fn[i]? = some d := by rfl) (hf : d.free = [] := by rfl) : ∃ fd, FunD K d.name d.qual d.params d.body d.scope (d.dvs K) [] (d.at_ K) fd := by
  have c2 := (He.ba (show ((fa.all fun f => f K) && fn.all fun d => d.ok K) = true from congrArg (fun z : He.AlD => z.1) c)).2
  have e : fn.map (fun d => fnAt K (d.at_ K)) = fn.map Df.val := congrArg (fun z : He.AlD => z.2) c
  have e2 : (fn.map fun d => fnAt K (d.at_ K))[i]? = (fn.map Df.val)[i]? := by rw [e]
  rw [List.getElem?_map, List.getElem?_map, h] at e2
  exact Df.funD hf (Option.some.inj e2) (List.all_eq_true.mp c2 d (List.mem_of_getElem? h))
end
/-! ### the facts -/
def pGlo (x : Str) : Ft := (He.Fa.glo x).ok
def pFree (x : Str) : Ft := (He.Fa.free x).ok
def pCls (C : Str) : Ft := (He.Fa.cls C).ok
def pNoat (C f : Str) : Ft := (He.Fa.noat C f).ok
def pMeth (C m : Str) : Ft := (He.Fa.meth C m).ok
def pMkr (C : Str) : Ft := (He.Fa.mkr C).ok
def eqB (a b : Option Bool) : Bool := match a, b with
  | some x, some y => x == y
  | _, _ => false
theorem eqB_ok {a : Option Bool} {b : Bool} (h : eqB a (some b) = true) : a = some b := by
  cases a with
  | none => cases h
  | some x => cases x <;> cases b <;> first | rfl | cases h
def pIsC (C : Str) : Ft := fun K => (He.Fa.cls C).ok K && (He.eqO (PySem.W.findIn K (.ref (He.ga K C)) "__class__") (some (some (.builtin "object.__class__"))) &&
  (He.eqO (PySem.W.specialIn K (.builtin "object.__class__") "__get__") (some (some (.builtin "getset_descriptor.__get__"))) && (eqB (PySem.W.takesIn K (.builtin "object.__class__")) (some true) &&
  (eqB (PySem.W.mroIn K (He.ga K C) (.type "object")) (some true) && ((tyNs.all fun n => eqB (PySem.W.kitOne K (.type n) (.ref (He.ga K C))) (some false)) && (tyNs.all fun n => eqB (PySem.W.kitOne K (.ref (He.ga K C)) (.type n)) (some false)))))))
theorem cls_of {K : PySem.W.Frag} {C : Str} (c : pCls C K = true) : Cls K (He.ga K C) := by
  have c : (PySem.W.plainGet K (He.ga K C) Str.empty && (PySem.W.hasDictIn K (He.ga K C) && (PySem.W.plainOver K (He.ga K C) && He.eqO (PySem.W.findIn K (.ref (He.ga K C)) "__setattr__") (some (some (.builtin "object.__setattr__")))))) = true := c
  obtain ⟨h1, c⟩ := He.ba c
  obtain ⟨h2, c⟩ := He.ba c
  obtain ⟨h3, h4⟩ := He.ba c
  exact ⟨h1, h2, h3, He.eqO_ok h4⟩
theorem isC_of {K : PySem.W.Frag} {C : Str} (c : pIsC C K = true) : IsC K C := by
  obtain ⟨h0, c⟩ := He.ba c
  obtain ⟨h1, c⟩ := He.ba c
  obtain ⟨h2, c⟩ := He.ba c
  obtain ⟨h3, c⟩ := He.ba c
  obtain ⟨h4, c⟩ := He.ba c
  obtain ⟨h5, h6⟩ := He.ba c
  exact ⟨cls_of h0, He.eqO_ok h1, He.eqO_ok h2, eqB_ok h3, eqB_ok h4, fun n hn => eqB_ok (List.all_eq_true.mp h5 n hn), fun n hn => eqB_ok (List.all_eq_true.mp h6 n hn)⟩
def pNe (C : Str) : Ft := fun K => He.eqO (PySem.W.findIn K (.ref (He.ga K C)) "__ne__") (some (some (.builtin "object.__ne__"))) && eqB (PySem.W.mroIn K (He.ga K C) (.type "object")) (some true)
theorem neC_of {K : PySem.W.Frag} {C : Str} (c : pNe C K = true) : NeC K C := by
  obtain ⟨h1, h2⟩ := He.ba c
  exact ⟨He.eqO_ok h1, eqB_ok h2⟩
def pSelf (C : Str) : Ft := fun K => PySem.W.selfFirst K (He.ga K C)
def pFn (C m : Str) : Ft := fun K => PySem.W.fnIn K (He.ma K (He.ga K C) m)
theorem noat_of {K : PySem.W.Frag} {C f : Str} (c : pNoat C f K = true) : NoAttr K (He.ga K C) f := He.eqO_ok c
theorem fld_of {K : PySem.W.Frag} {cs : List Str} {f : Str} (h1 : ∀ C ∈ cs, pCls C K = true) (h2 : ∀ C ∈ cs, pNoat C f K = true) : FldOk K cs f := ⟨fun C hC => ⟨cls_of (h1 C hC), noat_of (h2 C hC)⟩⟩
theorem meth_of {K : PySem.W.Frag} {C m : Str} (c : pMeth C m K = true) : Meth K (He.ga K C) m (He.ma K (He.ga K C) m) := by
  have c : (He.eqO (PySem.W.findIn K (.ref (He.ga K C)) m) (some (some (.ref (He.ma K (He.ga K C) m)))) && (PySem.W.isFn K (.ref (He.ma K (He.ga K C) m)) && PySem.W.keepIn K (.ref (He.ma K (He.ga K C) m)))) = true := c
  obtain ⟨h1, c⟩ := He.ba c
  obtain ⟨h2, h3⟩ := He.ba c
  exact ⟨He.eqO_ok h1, h2, h3⟩
theorem mkr_of {K : PySem.W.Frag} {C : Str} (c : pMkr C K = true) : Mk K (He.ga K C) (He.ma K (He.ga K C) "__init__") := by
  have c : (PySem.W.makesIn K (He.ga K C) && (He.eqO (PySem.W.findIn K (.ref (He.ga K C)) "__init__") (some (some (.ref (He.ma K (He.ga K C) "__init__")))) && (PySem.W.isFn K (.ref (He.ma K (He.ga K C) "__init__")) && PySem.W.keepIn K (.ref (He.ga K C))))) = true := c
  obtain ⟨h1, c⟩ := He.ba c
  obtain ⟨h2, c⟩ := He.ba c
  obtain ⟨h3, h4⟩ := He.ba c
  exact ⟨h1, He.eqO_ok h2, h3, h4⟩
/-- a property's getter -/
def gtr (C m : Str) (K : PySem.W.Frag) : Addr := match PySem.W.recIn K (He.ma K (He.ga K C) m) "property" with
  | some (.ref g :: _) => g
  | _ => 0
def pPrp (C m : Str) : Ft := fun K => He.eqO (PySem.W.findIn K (.ref (He.ga K C)) m) (some (some (.ref (He.ma K (He.ga K C) m)))) && (He.eqO (PySem.W.specialIn K (.ref (He.ma K (He.ga K C) m)) "__get__") (some (some (.builtin "property.__get__"))) &&
  (eqB (PySem.W.takesIn K (.ref (He.ma K (He.ga K C) m))) (some true) && (match PySem.W.recIn K (He.ma K (He.ga K C) m) "property" with
    | some (.ref _ :: _) => true
    | _ => false)))
theorem prp_of {K : PySem.W.Frag} {C m : Str} (c : pPrp C m K = true) : PropOf K (He.ga K C) m (He.ma K (He.ga K C) m) (gtr C m K) := by
  obtain ⟨h1, c⟩ := He.ba c
  obtain ⟨h2, c⟩ := He.ba c
  obtain ⟨h3, h4⟩ := He.ba c
  refine ⟨He.eqO_ok h1, He.eqO_ok h2, eqB_ok h3, ?_⟩
  unfold gtr
  split at h4
  · next g r e => exact ⟨r, by rw [e]⟩
  · cases h4
/-- an empty tuple among the defaults -/
def pTup0 (p : PySem.W.Frag → Addr) : Ft := fun K => match K.lookup (p K) with
  | some ⟨.type c, _, .seq its _, _⟩ => decide (c = "tuple") && decide (its = #[])
  | _ => false
theorem tup0_of {K : PySem.W.Frag} {p : PySem.W.Frag → Addr} (c : pTup0 p K = true) (F : Hp) : Rep K F (.tup []) (.ref (p K)) := by
  unfold pTup0 at c
  split at c
  · next cc d its n sl e =>
    obtain ⟨h1, h2⟩ := He.ba c
    have h1 := of_decide_eq_true h1
    have h2 := of_decide_eq_true h2
    subst h1 h2
    unfold Rep
    exact ⟨_, [], rfl, .inr ⟨_, #[], n, e, rfl, rfl, by decide, .nil⟩, reps_nil⟩
  · cases c
/-- the default's address of a method -/
def dflM (C m : Str) (i : Nat) (K : PySem.W.Frag) : Addr := He.dflAt (C, some m) i K
def dflF (x : Str) (i : Nat) (K : PySem.W.Frag) : Addr := He.dflAt (x, none) i K
section
variable {P : Program} {w : World} {K : PySem.W.Frag} {mg : Str → Option Value} {base : Heap} {k n : Nat} {x q C m : Str} {fa : Addr} {fd : FuncData} {ps : List Str} {pr : Arguments} {bd : List Stmt} {sc : Scope} {dv : List V} {f : FnD} {g : FnB} {ds : List Value} {dds : List D} {dvs : List V}
theorem defOk_of (h : FnOk P w K mg base (L2.CX P w) k fa fd ps (spD K n f)) (F : FunD K x q pr bd sc dv [] fa fd) (gm : mg x = some (.ref fa)) (b : Binds K fd ps []) : DefOk P w K mg base k x n [] f :=
  ⟨fa, fd, ps, [], [], h, gm, F.kp, b, .nil, fun _ => reps_nil⟩
theorem fnOk_no : FnOk P w K mg base (L2.CX P w) k fa fd ps (spD K n (fun _ => none)) :=
  ⟨fun vs H Q E h => (by obtain ⟨_, _, _, _, _, _, h, _⟩ := h; cases h), fun A outer s H args us vs Q E hr he hb hv h => (by obtain ⟨_, _, _, _, _, _, h, _⟩ := h; cases h)⟩
theorem metOk_of (h : FnOk P w K mg base (L2.CX P w) k (He.ma K (He.ga K C) m) fd ps (spD K n f)) (c : Cls K (He.ga K C)) (mm : Meth K (He.ga K C) m (He.ma K (He.ga K C) m)) (b : Binds K fd ps []) : MetOk P w K mg base k C m n [] f :=
  ⟨_, fd, ps, [], [], h, c, mm, b, .nil, fun _ => reps_nil⟩
theorem calOk_of (h : FnOk P w K mg base (L2.CX P w) k (He.ma K (He.ga K C) "__call__") fd ps (spD K n f)) (mm : Meth K (He.ga K C) "__call__" (He.ma K (He.ga K C) "__call__")) (c : pFn C "__call__" K = true) (b : Binds K fd ps []) : CalOk P w K mg base k C n f :=
  ⟨_, (h.raw b .nil).imp fun vs H Q E q => by rw [List.append_nil]; exact q, ⟨mm.at_, mm.fn, c⟩⟩
theorem prpOk_of (h : FnOk P w K mg base (L2.CX P w) k (gtr C m K) fd ps (spD K 1 f)) (c : Cls K (He.ga K C)) (p : PropOf K (He.ga K C) m (He.ma K (He.ga K C) m) (gtr C m K)) (b : Binds K fd ps []) : PrpOk P w K mg base k C m f :=
  ⟨_, _, fd, ps, h, c, p, b⟩
theorem makOk_of (h : FnOk P w K mg base (L2.CX P w) k (He.ma K (He.ga K C) "__init__") fd ps (spB K n g)) (M : Mk K (He.ga K C) (He.ma K (He.ga K C) "__init__")) (gm : mg C = some (.ref (He.ga K C))) (b : Binds K fd ps []) : MakOk P w K mg base k C n [] g :=
  ⟨_, fd, ps, [], [], h, M, gm, b, .nil, fun _ => reps_nil⟩
theorem makOk_ofD (h : FnOk P w K mg base (L2.CX P w) k (He.ma K (He.ga K C) "__init__") fd ps (spB K n g)) (M : Mk K (He.ga K C) (He.ma K (He.ga K C) "__init__")) (gm : mg C = some (.ref (He.ga K C))) (b : Binds K fd ps ds) (v : Vals dvs ds) (r : ∀ F, Reps K F dds dvs) : MakOk P w K mg base k C n dds g :=
  ⟨_, fd, ps, dvs, ds, h, M, gm, b, v, r⟩
end
/-- the end: the law's def over the script -/
theorem spD_law {K : PySem.W.Frag} {f : FnD} {H : Hp} {a : Addr} {ns : List Int} (hH : SqL K H a (ns.map V.int)) (hf : f [.scr ns] = some (.ok (.dat (.bl true)))) : spD K 1 f [.ref a] H (fun v _ => v = .bl true) E0 := by
  refine ⟨H, [.scr ns], _, Ex.rfl, reps_cons ?_ reps_nil, rfl, hf, rfl, fun v F' H' e1 e2 e3 e4 hold _ => rb (show Rep K F' (.bl true) v from hold)⟩
  unfold Rep
  exact ⟨a, rfl, hH⟩
end SL

set_option Elab.async false
set_option linter.all false
set_option maxRecDepth 100000
set_option maxHeartbeats 4000000
namespace SL
open PySem PySem.Spec PyProof.Rows L2
theorem walk_ofW {l : PySem.W.OpenLaw} {n k : Nat} {q : Program} {loose : List Str} {XP : (Str → Option Value) → Heap → Prop} {YP : World → Heap → Prop} {d : DefRec} {x : Str} {f : FnD}
    (hn : l.most = some n) (hn2 : n ≤ sizeLine) (hdf : d.params.defaults = []) (hr : Room k callerA)
    (F : ∀ (w : World) (mg : Str → Option Value) (fa : Addr) (h : Heap), YP w h → h.Ns mainGlobals mg → mg d.name = some (.ref fa) →
      ∃ (K : PySem.W.Frag) (fd : FuncData), K.In h ∧ (∀ (s : Shared) (u : Value), BindsTo s fd ⟨[u], []⟩ [(x, u)]) ∧ ∀ base : Heap, K.In base → base.Ns mainGlobals mg → FnOk l.prog w K mg base (L2.CX l.prog w) k fa fd [x] (spD K 1 f))
    (law : ∀ ns : List Int, ns.length ≤ n → (∀ k ∈ ns, Builtin.Int.intBits k ≤ 1048576) → f [.scr ns] = some (.ok (.dat (.bl true)))) :
    PySem.W.WalkO q loose XP YP l.row.toRowW d [] (fun f vs => PySem.call f vs) := by
  refine Att.attach_callB hn hdf fun w s₀ s₁ mg mb fa o pm cd doc a vs ns G Y ho hd hcd hmg hobj hints hlen hbits hg => ?_
  obtain ⟨K, fd, KX, hb, hF⟩ := F w mg fa _ Y G.T.g hmg
  refine law_call KX G.T.g G.T.b G.T.builtins G.T.nolimit hg hobj hints (Nat.le_trans hlen hn2) hr hF hb (fun H hO hS => spD_law hS (law ns hlen hbits)) fun H e s' h => ?_
  obtain ⟨_, _, _, _, _, _, _, _, _, _, _, _, z⟩ := h
  exact z
end SL

set_option Elab.async false
set_option linter.all false
set_option maxRecDepth 100000
set_option maxHeartbeats 4000000
namespace SL
open PySem PySem.Spec L2
/-! ### comparisons that leave the left name's list as it is -/
theorem sv_rep {K : PySem.W.Frag} {F H : Hp} {d : D} {x : V} (e : Ex F H) (h : SV K F H d x) : ∃ F', Ex F F' ∧ Ex F' H ∧ Rep K F' d x := by
  have main : ∀ (a : Addr) (o : HO), H a = some o → (∀ F', Ex F F' → F' a = some o → Rep K F' d x) → ∃ F', Ex F F' ∧ Ex F' H ∧ Rep K F' d x := by
    intro a o ha r
    cases hf : F a with
    | none =>
      refine ⟨upd F a o, Ex.new hf, fun b u hb => ?_, r _ (Ex.new hf) upd_same⟩
      by_cases z : b = a
      · subst z; rw [upd_same] at hb; cases hb; exact ha
      · rw [upd_ne z] at hb; exact e b u hb
    | some u =>
      have := e a u hf
      rw [ha] at this; cases this
      exact ⟨F, Ex.rfl, e, r F Ex.rfl hf⟩
  cases d with
  | lst xs =>
    obtain ⟨a, vs, rfl, h1, h2⟩ := h
    refine main a _ h1 fun F' e' hf => ?_
    unfold Rep
    exact ⟨a, vs, rfl, hf, Reps.mono e' _ _ h2⟩
  | obj C ns xs =>
    obtain ⟨a, dx, vs, rfl, h1, h2, h3⟩ := h
    refine main a _ h1 fun F' e' hf => ?_
    unfold Rep
    exact ⟨a, dx, vs, rfl, hf, h2, Reps.mono e' _ _ h3⟩
  | non => exact ⟨F, Ex.rfl, e, h⟩
  | bl _ => exact ⟨F, Ex.rfl, e, h⟩
  | int _ => exact ⟨F, Ex.rfl, e, h⟩
  | str _ => exact ⟨F, Ex.rfl, e, h⟩
  | tup _ => exact ⟨F, Ex.rfl, e, h⟩
  | scr _ => exact ⟨F, Ex.rfl, e, h⟩
  | exn _ _ _ _ => exact ⟨F, Ex.rfl, e, h⟩
  | exi _ _ _ => exact ⟨F, Ex.rfl, e, h⟩
  | dic _ _ => exact ⟨F, Ex.rfl, e, h⟩
def isBlO : Out → Bool
  | .dt (.bl _) => true
  | _ => false
theorem op2_sv {K : PySem.W.Frag} {r : R2} {f : D → D → Option Out} (h : Op2 K r f) (hb : ∀ d u o, f d u = some o → isBlO o = true) :
    ∀ F H Q x y d u o, Ex F H → SV K F H d x → Rep K F u y → f d u = some o → OutOk K F H Q o → r x y H Q := by
  intro F H Q x y d u o e s r2 hf q
  obtain ⟨F', e1, e2, r1⟩ := sv_rep e s
  refine h F' H Q x y d u o e2 r1 (Rep.mono e1 _ _ r2) hf ?_
  have := hb d u o hf
  cases o with
  | nl _ => cases this
  | dt z =>
    cases z with
    | bl b =>
      intro v F2 H' g1 g2 g3 g4 g5
      have hv : v = .bl b := rb g5
      subst hv
      exact q (.bl b) F H' Ex.rfl g2 ((e1.trans g1).trans g3) (fun _ _ z => .inl z) rep_bl
    | _ => cases this
theorem bl_eqF {d u : D} {o : Out} (h : eqF d u = some o) : isBlO o = true := by
  unfold eqF at h
  split at h
  · cases h; rfl
  · cases h
theorem bl_neF {d u : D} {o : Out} (h : neF d u = some o) : isBlO o = true := by
  unfold neF at h
  split at h
  · cases h; rfl
  · cases h
theorem bl_ownG {C : Str} {f : FnD} {g : Bool → Bool} {d u : D} {o : Out} (h : ownG C f g d u = some o) : isBlO o = true := by
  unfold ownG at h
  split at h
  · split at h
    · split at h
      · cases h; rfl
      · cases h
    · cases h
  · cases h
theorem bl_eqO {C : Str} {f : FnD} {d u : D} {o : Out} (h : eqO C f d u = some o) : isBlO o = true := by
  unfold eqO at h
  split at h
  · exact bl_ownG h
  · exact bl_eqF h
theorem bl_neO {C : Str} {f : FnD} {d u : D} {o : Out} (h : neO C f d u = some o) : isBlO o = true := by
  unfold neO at h
  split at h
  · exact bl_ownG h
  · exact bl_neF h
section
variable {X : Cx} {W : WX} {a b c e : Expr} {es : List Expr} {ma mb mc : Mo T} {pos : Pos} {n : Mo (List T)} {K : PySem.W.Frag}
theorem se_cmpS {op : CmpOp} {r : R2} {f : D → D → Option Out} {i : Nat} {x : Str} {px : Pos} (ho : OpR X (compareOp op) r) (h : Op2 X.K r f) (hbl : ∀ d u o, f d u = some o → isBlO o = true) (hm : behindInMarks op b = false) (hb : SE X W b mb)
    (hN : X.N[i]? = some x := by rfl) (hv : Vis X.env.scope x := by first | exact Or.inl rfl | exact Or.inr (Or.inl rfl) | exact Or.inr (Or.inr rfl)) (hd : (x == ("__debug__" : Str)) = false := by decide) (hcd : (x == ("__classdict__" : Str)) = false := by decide) :
    SE X W (.Compare (.Name x px) [op] [b] pos) (s2M f i mb) := by
  obtain ⟨tb, pb, sb⟩ := hb
  exact ⟨_, pe_cmpR ho (pe_var hN hv hd hcd) pb hm, snd_s2 sb (op2_sv h hbl)⟩
theorem sc_cmpS {op : CmpOp} {r : R2} {f : D → D → Option Out} {i : Nat} {x : Str} {px : Pos} (ho : OpR X (compareOp op) r) (h : Op2 X.K r f) (hbl : ∀ d u o, f d u = some o → isBlO o = true) (hm : behindInMarks op b = false) (hb : SE X W b mb)
    (hN : X.N[i]? = some x := by rfl) (hv : Vis X.env.scope x := by first | exact Or.inl rfl | exact Or.inr (Or.inl rfl) | exact Or.inr (Or.inr rfl)) (hd : (x == ("__debug__" : Str)) = false := by decide) (hcd : (x == ("__classdict__" : Str)) = false := by decide) :
    SC X W (.Compare (.Name x px) [op] [b] pos) (tst (s2M f i mb)) := by
  obtain ⟨tb, pb, sb⟩ := hb
  exact ⟨_, pt_cmpR ho (pe_var hN hv hd hcd) pb hm, snd_tst (snd_s2 sb (op2_sv h hbl))⟩
/-! ### a class made over two lists that stay the maker's own -/
mutual
def noLst : D → Bool
  | .non => true
  | .bl _ => true
  | .int _ => true
  | .str _ => true
  | .tup xs => noLsts xs
  | _ => false
def noLsts : List D → Bool
  | [] => true
  | x :: xs => noLst x && noLsts xs
end
def Keep (F F' : Hp) : Prop := ∀ b o, F b = some o → (∀ vs, o ≠ .lst vs) → F' b = some o
mutual
theorem rep_keep {F F' : Hp} (k : Keep F F') : ∀ (d : D) (v : V), noLst d = true → Rep K F d v → Rep K F' d v
  | .non, v, _, h => by unfold Rep at h ⊢; exact h
  | .bl _, v, _, h => by unfold Rep at h ⊢; exact h
  | .int _, v, _, h => by unfold Rep at h ⊢; exact h
  | .str _, v, _, h => by unfold Rep at h ⊢; exact h
  | .tup xs, v, hn, h => by
    unfold Rep at h ⊢
    obtain ⟨a, vs, rfl, h1, h2⟩ := h
    unfold noLst at hn
    refine ⟨a, vs, rfl, ?_, reps_keep k xs vs hn h2⟩
    rcases h1 with (h1 | ⟨o, h1⟩) | h1
    · exact .inl (.inl (k _ _ h1 fun _ => nofun))
    · exact .inl (.inr ⟨o, k _ _ h1 fun _ => nofun⟩)
    · exact .inr h1
  | .lst _, v, hn, _ => by unfold noLst at hn; cases hn
  | .scr _, v, hn, _ => by unfold noLst at hn; cases hn
  | .obj _ _ _, v, hn, _ => by unfold noLst at hn; cases hn
  | .exn _ _ _ _, v, hn, _ => by unfold noLst at hn; cases hn
  | .exi _ _ _, v, hn, _ => by unfold noLst at hn; cases hn
  | .dic _ _, v, hn, _ => by unfold noLst at hn; cases hn
theorem reps_keep {F F' : Hp} (k : Keep F F') : ∀ (ds : List D) (vs : List V), noLsts ds = true → Reps K F ds vs → Reps K F' ds vs
  | [], vs, _, h => by unfold Reps at h ⊢; exact h
  | d :: ds, vs, hn, h => by
    unfold Reps at h ⊢
    obtain ⟨v, r, rfl, h1, h2⟩ := h
    unfold noLsts at hn
    obtain ⟨n1, n2⟩ := Bool.and_eq_true_iff.mp hn
    exact ⟨v, r, rfl, rep_keep k d v n1 h1, reps_keep k ds r n2 h2⟩
end
def mak2M (C : Str) (a : Nat) (f : FnB) (dds : List D) (i jj : Nat) (ts : List T) : Mo T := fun ρ => match atS i ρ, atS jj ρ, frzs ts with
  | some (.lst _ xs), some (.lst _ ys), some ds => if i ≠ jj ∧ (.lst xs :: .lst ys :: (ds ++ dds)).length = a then (match f (.ins true C [] []) (.lst xs :: .lst ys :: (ds ++ dds)) with
    | some (.ok .non, .ins true C' ns fs) => if noLsts fs = true then some (.ok (.ins false C' ns fs), ρ) else none
    | _ => none) else none
  | _, _, _ => none
def eMak2 (C : Str) (a : Nat) (f : FnB) (dds : List D) (i jj : Nat) (n : Mo (List T)) : Mo T := fun ρ => match atS i ρ, atS jj ρ with
  | some _, some _ => bnd n (mak2M C a f dds i jj) ρ
  | _, _ => none
theorem se_mak2 {k : Nat} {C x y : Str} {p px py : Pos} {ar i jj : Nat} {dds : List D} {f : FnB} (h : MakOk X.prog X.w X.K X.mg X.base k C ar dds f) (hr : Room (k + 1) X.A) (g : SA X W es n) (hg : Gl X C := by rfl)
    (hN : X.N[i]? = some x := by rfl) (hv : Vis X.env.scope x := by first | exact Or.inl rfl | exact Or.inr (Or.inl rfl) | exact Or.inr (Or.inr rfl)) (hd : (x == ("__debug__" : Str)) = false := by decide) (hcd : (x == ("__classdict__" : Str)) = false := by decide)
    (hN2 : X.N[jj]? = some y := by rfl) (hv2 : Vis X.env.scope y := by first | exact Or.inl rfl | exact Or.inr (Or.inl rfl) | exact Or.inr (Or.inr rfl)) (hd2 : (y == ("__debug__" : Str)) = false := by decide) (hcd2 : (y == ("__classdict__" : Str)) = false := by decide)
    (hdb : (C == ("__debug__" : Str)) = false := by decide) (he : starEach (.Name x px :: .Name y py :: es) X.env = (false, eval (.Name x px) X.env) :: starEach (.Name y py :: es) X.env := by rfl)
    (he2 : starEach (.Name y py :: es) X.env = (false, eval (.Name y py) X.env) :: starEach es X.env := by rfl) (hpl : (backTo pos (starEach (.Name y py :: es) X.env)).any (·.1) = false := by rfl) :
    SE X W (.Call (.Name C p) (.Name x px :: .Name y py :: es) [] pos) (eMak2 C ar f dds i jj n) := by
  obtain ⟨fa, fd, ps, dvs, dl, F0, M, hm, hb, hdl, hr2⟩ := h.ex
  obtain ⟨ta, q, z⟩ := g
  refine ⟨_, pe_make M F0 hr hg hm hb hdl passL (pa_cons (pe_var hN hv hd hcd) (pa_cons (pe_var hN2 hv2 hd2 hcd2) q he2) he) hdb he hpl, ?_⟩
  intro G F H ρ σ us ws Q r ρ' j hl ht hm0 kk
  simp only [List.append_nil] at j
  unfold eMak2 at hm0
  cases e0 : atS i ρ with
  | none => rw [e0] at hm0; cases hm0
  | some t0 =>
    rw [e0] at hm0
    cases e1 : atS jj ρ with
    | none => rw [e1] at hm0; cases hm0
    | some t1 =>
      rw [e1] at hm0
      dsimp only at hm0
      obtain ⟨v, h1, _⟩ := j.slot hl e0
      obtain ⟨v', h1', _⟩ := j.slot hl e1
      refine ⟨v, h1, v', h1', ?_⟩
      unfold bnd at hm0
      cases en : n ρ with
      | none => rw [en] at hm0; cases hm0
      | some qq =>
        obtain ⟨r1, ρ1⟩ := qq
        rw [en] at hm0
        refine z G F H ρ σ us ws _ r1 ρ1 (by simpa using j) hl ht en ?_
        cases r1 with
        | exc x => cases hm0; exact kk
        | ok ts =>
          intro vs F1 H1 x1 l1 _ j1 x dx hx hdx hne
          dsimp only at hm0
          unfold mak2M at hm0
          split at hm0
          · next b0 xs b1 ys ds g0 g1 gf =>
            by_cases hc : i ≠ jj ∧ (D.lst xs :: D.lst ys :: (ds ++ dds)).length = ar
            · rw [if_pos hc] at hm0
              unfold frzs at gf
              by_cases hbw : ts.any T.brw = true
              · rw [if_pos hbw] at gf; cases gf
              · rw [if_neg hbw] at gf
                cases gf
                rw [← List.append_assoc, ← List.append_assoc] at j1
                obtain ⟨F2, x2, j2, rd⟩ := j1.freezes (by simp [l1, ht]) (by simpa using hbw)
                have j3 := j2.pre (by simp [l1, ht])
                obtain ⟨w0, m0, hold0, _, k0, k0'⟩ := j3.slot l1 g0
                obtain ⟨w1, m1, hold1, _, k1, k1'⟩ := j3.slot l1 g1
                rw [h1] at m0; cases m0
                rw [h1'] at m1; cases m1
                obtain ⟨ai, li, ea, fai, hai, rxs⟩ := hold0
                obtain ⟨aj, lj, eb, faj, haj, rys⟩ := hold1
                subst ea eb
                have nij : ai ≠ aj := by
                  rintro rfl
                  exact j3.ne i jj _ _ _ hc.1 k0 k1 rfl rfl k0' k1'
                have dai : ai ≠ dx := by rintro rfl; rw [hai] at hdx; cases hdx
                have daj : aj ≠ dx := by rintro rfl; rw [haj] at hdx; cases hdx
                have xai : ai ≠ x := by rintro rfl; rw [hai] at hx; cases hx
                have xaj : aj ≠ x := by rintro rfl; rw [haj] at hx; cases hx
                cases hq : f (.ins true C [] []) (.lst xs :: .lst ys :: (ts.map T.fz ++ dds)) with
                | none => rw [hq] at hm0; cases hm0
                | some o =>
                  obtain ⟨o1, t'⟩ := o
                  rw [hq] at hm0
                  cases o1 with
                  | exc x => cases hm0
                  | ok d =>
                    cases d with
                    | non =>
                      cases t' with
                      | dat d => cases hm0
                      | lst b xs => cases hm0
                      | ins b C' ns fs =>
                        cases b with
                        | false => cases hm0
                        | true =>
                          dsimp only at hm0
                          by_cases hnl : noLsts fs = true
                          · rw [if_pos hnl] at hm0
                            cases hm0
                            have j4 : J X.K G (upd F2 dx (.own x)) (upd H1 dx (.own x)) (ρ' ++ us) (σ ++ ws) := j3.frz hdx
                            have hx2 : (upd H1 dx (.own x)) x = none := by rw [upd_ne (Ne.symm hne)]; exact hx
                            have fx : (upd F2 dx (.own x)) x = none := j4.ex.back hx2
                            have f3i : (upd F2 dx (.own x)) ai = none := by rw [upd_ne dai]; exact fai
                            have f3j : (upd F2 dx (.own x)) aj = none := by rw [upd_ne daj]; exact faj
                            have j5 := j4.heap (o := .ins (He.ga X.K C) dx []) hx2
                            have eF3 : Ex F2 (upd F2 dx (.own x)) := Ex.new (j3.ex.back hdx)
                            -- lent
                            have eA : Ex (upd F2 dx (.own x)) (upd (upd F2 dx (.own x)) ai (.lst li)) := Ex.new f3i
                            have f4j : (upd (upd F2 dx (.own x)) ai (.lst li)) aj = none := by rw [upd_ne (Ne.symm nij)]; exact f3j
                            have eB : Ex (upd (upd F2 dx (.own x)) ai (.lst li)) (upd (upd (upd F2 dx (.own x)) ai (.lst li)) aj (.lst lj)) := Ex.new f4j
                            have eAB := eF3.trans (eA.trans eB)
                            have eH : Ex (upd (upd (upd F2 dx (.own x)) ai (.lst li)) aj (.lst lj)) (upd (upd H1 dx (.own x)) x (.ins (He.ga X.K C) dx [])) := by
                              intro b o hb
                              by_cases zj : b = aj
                              · subst zj; rw [upd_same] at hb; cases hb; rw [upd_ne xaj, upd_ne daj]; exact haj
                              · rw [upd_ne zj] at hb
                                by_cases zi : b = ai
                                · subst zi; rw [upd_same] at hb; cases hb; rw [upd_ne xai, upd_ne dai]; exact hai
                                · rw [upd_ne zi] at hb; exact j5.ex b o hb
                            refine ⟨_, .ins true C [] [], .ref x, _, _, .ok .non, .ins true C' ns fs, rfl, eH, ⟨x, dx, [], rfl, by rw [upd_ne (Ne.symm xaj), upd_ne (Ne.symm xai)]; exact fx, by rw [upd_same]; rfl, rfl, reps_nil⟩, rfl, rfl, ?_, hc.2, hq, ?_⟩
                            · refine reps_cons ?_ (reps_cons ?_ ?_)
                              · unfold Rep
                                exact ⟨ai, li, rfl, by rw [upd_ne nij, upd_same], Reps.mono eAB _ _ rxs⟩
                              · unfold Rep
                                exact ⟨aj, lj, rfl, upd_same, Reps.mono eAB _ _ rys⟩
                              · exact Reps.mono eAB _ _ (rd.app (hr2 F2))
                            · intro v F' H' e1 e2 e3 e4 hold rdn
                              unfold Rep at rdn
                              -- what was lent comes back
                              have hk : ∃ F5 : Hp, (∀ b, b ≠ ai → b ≠ aj → F5 b = F' b) ∧ F5 ai = none ∧ F5 aj = none := ⟨fun b => if b = ai ∨ b = aj then none else F' b, fun b h1 h2 => by simp [h1, h2], by simp, by simp⟩
                              obtain ⟨F5, p1, p2, p3⟩ := hk
                              have fi' : F' ai = some (.lst li) := e1 _ _ (by rw [upd_ne nij, upd_same])
                              have fj' : F' aj = some (.lst lj) := e1 _ _ upd_same
                              have g1 : Ex (upd F2 dx (.own x)) F5 := by
                                intro b o hb
                                have zi : b ≠ ai := by rintro rfl; rw [f3i] at hb; cases hb
                                have zj : b ≠ aj := by rintro rfl; rw [f3j] at hb; cases hb
                                rw [p1 b zi zj]
                                exact e1 b o (by rw [upd_ne zj, upd_ne zi]; exact hb)
                              have g2 : Ex F5 F' := by
                                intro b o hb
                                have zi : b ≠ ai := by rintro rfl; rw [p2] at hb; cases hb
                                have zj : b ≠ aj := by rintro rfl; rw [p3] at hb; cases hb
                                rw [p1 b zi zj] at hb; exact hb
                              have g3 : Keep F' F5 := by
                                intro b o hb hnl
                                have zi : b ≠ ai := by rintro rfl; rw [fi'] at hb; cases hb; exact hnl _ rfl
                                have zj : b ≠ aj := by rintro rfl; rw [fj'] at hb; cases hb; exact hnl _ rfl
                                rw [p1 b zi zj]; exact hb
                              obtain ⟨a', dx', vs', q1, q2, q3, q4, q5⟩ := hold
                              cases q1
                              have q2' : F5 x = none := by
                                cases hz : F5 x with
                                | none => rfl
                                | some o => have := g2 _ _ hz; rw [q2] at this; cases this
                              refine ⟨rdn, kk (.ref x) F5 H' ((x1.trans x2).trans (eF3.trans g1)) l1 trivial ?_⟩
                              have jg : J X.K G F5 (fun b => if b = x then none else H' b) (ρ' ++ us) (σ ++ ws) := by
                                refine j4.grow g1 (fun b o hbo => ?_) (fun b o hbo => ?_) (fun b o hbo => ?_)
                                · have hbx : b ≠ x := by rintro rfl; rw [hx2] at hbo; cases hbo
                                  show (if b = x then none else H' b) = some o
                                  rw [if_neg hbx]
                                  exact e2 b o (by rw [upd_ne hbx]; exact hbo) (by rintro z; cases z; exact hbx rfl)
                                · have hbx : b ≠ x := by rintro rfl; rw [q2'] at hbo; cases hbo
                                  show (if b = x then none else H' b) = some o
                                  rw [if_neg hbx]
                                  exact e3 b o (g2 b o hbo)
                                · have zi : b ≠ ai := by rintro rfl; rw [p2] at hbo; cases hbo
                                  have zj : b ≠ aj := by rintro rfl; rw [p3] at hbo; cases hbo
                                  rcases e4 b o (g2 b o hbo) with z | z
                                  · rw [upd_ne zj, upd_ne zi] at z; exact Or.inl z
                                  · have hbx : b ≠ x := by rintro rfl; rw [upd_same] at z; cases z
                                    rw [upd_ne hbx] at z
                                    exact Or.inr z
                              have hpush := jg.push (p := x) (o := .ins (He.ga X.K C') dx' (ns.zip vs')) (t := .ins false C' ns fs) (by simp) rfl rfl ⟨x, dx', vs', rfl, q2', upd_same, q4, reps_keep g3 _ _ hnl q5⟩
                              have hH : upd (fun b => if b = x then none else H' b) x (.ins (He.ga X.K C') dx' (ns.zip vs')) = H' := by
                                funext b
                                by_cases hbx : b = x
                                · subst hbx; rw [upd_same, q3]
                                · rw [upd_ne hbx]; simp [hbx]
                              rw [hH] at hpush
                              rw [← List.append_assoc, ← List.append_assoc]
                              exact hpush
                          · rw [if_neg hnl] at hm0; cases hm0
                    | _ => cases hm0
            · rw [if_neg hc] at hm0; cases hm0
          · cases hm0
end
end SL

set_option Elab.async false
set_option linter.all false
set_option maxRecDepth 100000
set_option maxHeartbeats 4000000
/-! S-layer 19: defs that say super().__init__(..) in a class of the program's own -/
namespace SL
open PySem L2 PyProof.Rows
/-! ### at a known activation -/
def PSAx (X : Cx) (body : List Stmt) (st : Stmt) (t : TS) : Prop :=
  ∀ (pins : List (Addr × Obj)) (s : Shared) (σ : L2.St) (H : Hp) (D : Ends), Inv X pins σ H s → t D σ H → _root_.PySem.wpAt (model X.prog X.w) X.A (.func body X.env) (exec st X.env) (SP X pins D) X.xe s
def PSsAx (X : Cx) (body : List Stmt) (sts : List Stmt) (t : TS) : Prop :=
  ∀ (pins : List (Addr × Obj)) (s : Shared) (σ : L2.St) (H : Hp) (D : Ends), Inv X pins σ H s → t D σ H → _root_.PySem.wpAt (model X.prog X.w) X.A (.func body X.env) (execs sts X.env) (SP X pins D) X.xe s
theorem PSAx.of {X : Cx} {body : List Stmt} {st : Stmt} {t : TS} (h : PS X st t) : PSAx X body st t := fun pins s σ H D I q => _root_.PySem.wpAt_of_wpAny (h.run pins s σ H D I q)
theorem PSsAx.of {X : Cx} {body : List Stmt} {sts : List Stmt} {t : TS} (h : PSs X sts t) : PSsAx X body sts t := fun pins s σ H D I q => _root_.PySem.wpAt_of_wpAny (h.run pins s σ H D I q)
theorem PSsAx.cons {X : Cx} {body : List Stmt} {st : Stmt} {rest : List Stmt} {t u : TS} (h1 : PSAx X body st t) (h2 : PSsAx X body rest u) : PSsAx X body (st :: rest) (tSeq t u) := by
  intro pins s σ H D I h
  refine PySem.ks_wpAt_execs_cons (PySem.wpAt_mono (h1 pins s σ H { D with nx := u D } I h) (fun f s1 q => ?_) fun _ _ x => x)
  cases f with
  | next => obtain ⟨σ', H', I', q⟩ := q; exact h2 pins s1 σ' H' D I' q
  | brk => exact q
  | cont => exact q
  | ret u => exact q
def SSA (X : Cx) (W : WX) (body : List Stmt) (st : Stmt) (s : So) : Prop := ∃ t, PSAx X body st t ∧ SndS X.K W t s
def SSsA (X : Cx) (W : WX) (body : List Stmt) (st : List Stmt) (s : So) : Prop := ∃ t, PSsAx X body st t ∧ SndS X.K W t s
theorem ssA_of {X : Cx} {W : WX} {body : List Stmt} {st : Stmt} {s : So} (h : SS X W st s) : SSA X W body st s := let ⟨t, p, z⟩ := h; ⟨t, .of p, z⟩
theorem sssA_of {X : Cx} {W : WX} {body : List Stmt} {st : List Stmt} {s : So} (h : SSs X W st s) : SSsA X W body st s := let ⟨t, p, z⟩ := h; ⟨t, .of p, z⟩
theorem sssA_cons {X : Cx} {W : WX} {body : List Stmt} {st : Stmt} {rest : List Stmt} {s u : So} (h : SSA X W body st s) (g : SSsA X W body rest u) : SSsA X W body (st :: rest) (sSeq s u) := by
  obtain ⟨t, p, z⟩ := h
  obtain ⟨v, q, y⟩ := g
  exact ⟨_, PSsAx.cons p q, snd_seq z y⟩
theorem sssA_one {X : Cx} {W : WX} {body : List Stmt} {st : Stmt} {s : So} (h : SSA X W body st s) : SSsA X W body [st] s := by
  obtain ⟨t, p, z⟩ := h
  refine ⟨t, fun pins s σ H D I q => ?_, z⟩
  refine PySem.ks_wpAt_execs_cons (PySem.wpAt_mono (p pins s σ H D I q) (fun f s1 q => ?_) fun _ _ x => x)
  cases f with
  | next => exact _root_.PySem.wpAt_of_wpAny (wpAny_pure q)
  | brk => exact q
  | cont => exact q
  | ret u => exact q
/-! ### the def -/
structure FnScopeS (N P : List Str) (sc : Scope) : Prop where
  kind : sc.kind = .function
  co : sc.isCoroutine = false
  gen : sc.isGenerator = false
  nd : N.Nodup
  pre : N.take P.length = P
  par : ∀ x ∈ P, sc.names.lookup x = some .local
  nocell : ∀ y ∈ sc.names, y.2 ≠ .cell
  fr : ∀ y ∈ sc.names, y.2 = .free → y.1 = ("__class__" : Str)
structure FunS (P : Program) (K : PySem.W.Frag) (x qual : Str) (params : Arguments) (body : List Stmt) (scope : Scope) (D f cc cda : Addr) (fd : FuncData) : Prop where
  fdE : ∃ (kV doc pm : Value) (an : Option Addr) (ct oc : Value) (od : Option Addr) (osl : Array (Option Value)), fd = PySem.W.fnX x qual params body scope [("__class__", cc)] .none kV doc pm an (.ref cda) ct ∧ K.lookup f = some ⟨oc, od, .func fd, osl⟩
  code : PySem.W.codeIn K (.ref cda) qual = true
  file : ∃ (ccl : Value) (cdd : Option Addr) (vs : Array Value) (ccs : Array (Option Value)) (file : Str) (tf : Tok), K.lookup cda = some ⟨ccl, cdd, .fields vs, ccs⟩ ∧ vs[2]? = some (.str file tf) ∧ ((P.main.file : Str) == file) = true
  cell : ∃ (cl : Value) (cld : Option Addr) (csl : Array (Option Value)), K.lookup cc = some ⟨cl, cld, .cell (some (.ref D)), csl⟩
  cls : ∃ cdD, PySem.W.clsIn K D = some cdD
def cxS (CX : CXT) (P : Program) (w : World) (K : PySem.W.Frag) (mg : Str → Option Value) (base : Heap) (N : List Str) (qual : Str) (scope : Scope) (f cda cc : Addr) (A : Around) (outer : List Env) (s : Shared) (H : Hp) (E : XK) : Cx where
  prog := P
  w := w
  K := K
  mg := mg
  base := base
  A := A.deeper (PySem.W.envX qual scope s.heap.objs.size f (.ref cda) [("__class__", cc)])
  N := N
  s_0 := s
  H_0 := H
  env := PySem.W.envX qual scope s.heap.objs.size f (.ref cda) [("__class__", cc)]
  outer := outer
  stack := PySem.W.envX qual scope s.heap.objs.size f (.ref cda) [("__class__", cc)] :: outer
  ex := []
  calm := true
  fn := fun x => !(x == ("__class__" : Str))
  pn := []
  xe := fun e s' => wpAny (model P w) (A.deeper (PySem.W.envX qual scope s.heap.objs.size f (.ref cda) [("__class__", cc)])) (leaving (PySem.W.envX qual scope s.heap.objs.size f (.ref cda) [("__class__", cc)]) e) (fun _ s'' => CX outer H s E e s'') (fun e' s'' => CX outer H s E e' s'') s'
theorem rev_lookup : ∀ {ps : List Str} {us : List Value} {i : Nat} {y : Str} {u : Value}, ps.Nodup → ps[i]? = some y → us[i]? = some u → (ps.zip us).reverse.lookup y = some u
  | [], _, _, _, _, _, h, _ => by simp at h
  | _ :: _, [], _, _, _, _, _, h => by simp at h
  | p :: ps, v :: us, i, y, u, nd, hp, hu => by
    simp only [List.zip_cons_cons, List.reverse_cons, List.lookup_append]
    have nd2 := List.nodup_cons.mp nd
    cases i with
    | zero =>
      simp at hp hu
      subst hp hu
      have : (ps.zip us).reverse.lookup p = none := by
        rw [List.lookup_eq_none_iff]
        intro q hq
        have := (List.of_mem_zip (List.mem_reverse.mp hq)).1
        have hne : p ≠ q.1 := fun e => nd2.1 (by rw [e]; exact this)
        simpa using hne
      rw [this]
      simp
    | succ i =>
      rw [rev_lookup nd2.2 (by simpa using hp) (by simpa using hu)]
      rfl
theorem cell_one {cc c : Addr} {x : Str} (h : List.lookup x [(("__class__" : Str), cc)] = some c) : x = ("__class__" : Str) ∧ c = cc := by
  simp only [List.lookup] at h
  split at h
  · next e => cases h; exact ⟨by simpa using e, rfl⟩
  · cases h
theorem inv_startS {CX : CXT} {P : Program} {w : World} {K : PySem.W.Frag} {mg : Str → Option Value} {base : Heap} {N ps : List Str} {qual : Str} {scope : Scope} {f cda cc D : Addr} {A : Around} {outer : List Env} {s : Shared} {H : Hp} {E : XK} {us : List Value} {vs : List V} {h₀ : Heap} {tk : Nat}
    (S : FnScopeS N ps scope) (hd : A.handled = none) (e0 : Env0 P w K mg base A outer s H) (hl : vs.length = ps.length) (r : Vals vs us) (hc : ∃ (cl : Value) (cld : Option Addr) (csl : Array (Option Value)), K.lookup cc = some ⟨cl, cld, .cell (some (.ref D)), csl⟩)
    (hns : h₀.Ns s.heap.objs.size (fun x => (ps.zip us).reverse.lookup x)) (hk : ∀ b o, s.heap.get? b = some o → h₀.get? b = some o) :
    Inv (cxS CX P w K mg base N qual scope f cda cc A outer s H E) [] (L2.start N vs) H { s with heap := h₀, toks := tk } := by
  have hpl : ps.length ≤ N.length := by have := congrArg List.length S.pre; rw [List.length_take] at this; omega
  have noA : ∀ b : Addr, b ∉ (cxS CX P w K mg base N qual scope f cda cc A outer s H E).ex := fun b z => absurd (show b ∈ ([] : List Addr) from z) (by simp)
  obtain ⟨cl, cld, csl, hcc⟩ := hc
  have hb : base.get? cc = some ⟨cl, cld, .cell (some (.ref D)), csl⟩ := e0.mod.kin _ _ hcc
  refine ⟨⟨e0.mod, S.kind, rfl, rfl, Nat.le_refl _, fun y z c h1 h2 => ?_, fun y hy => ?_, fun y c hf h => ?_, fun _ => hd, Around.frames_deeper e0.frames, .inr ⟨rfl, rfl⟩, fun b z => absurd z (noA b), e0.bs, e0.bsz, fun b _ _ => noA b, fun b z => absurd z (noA b), e0.funs, e0.frf⟩,
    rfl, e0.bare, Un.kept hk, ⟨_, hns, fun i y v h1 h2 h3 => ?_⟩, fun y c h => ?_, e0.hok.fresh (Nat.le_refl _), fun y c h => ?_, fun p hp => absurd (show p ∈ ([] : List (Addr × Obj)) from hp) (by simp), e0.hok.kept hk, ?_⟩
  · exact (cell_one h1).1.trans (cell_one h2).1.symm
  · have hy : scope.names.lookup y = some .cell ∨ scope.names.lookup y = some .free := hy
    rcases hy with hy | hy
    · exact absurd rfl (S.nocell _ (PySem.mem_of_lookup hy))
    · have := S.fr _ (PySem.mem_of_lookup hy) rfl
      have e : y = ("__class__" : Str) := this
      subst e
      exact ⟨cc, by show List.lookup _ [(("__class__" : Str), cc)] = some cc; simp [List.lookup]⟩
  · have := (cell_one h).1
    subst this
    have hf : (!((("__class__" : Str)) == ("__class__" : Str))) = true := hf
    rw [beq_self_eq_true] at hf
    cases hf
  · have hi : i < vs.length := by
      unfold L2.start at h2
      by_cases hi : i < vs.length
      · exact hi
      · rw [List.getElem?_append_right (by simpa using hi)] at h2
        rw [List.getElem?_replicate] at h2
        split at h2 <;> cases h2
    have ha : vs[i]? = some v := by
      unfold L2.start at h2
      rw [List.getElem?_append_left (by simpa using hi), List.getElem?_map] at h2
      cases e : vs[i]? with
      | none => rw [e] at h2; cases h2
      | some a => rw [e] at h2; cases h2; rfl
    obtain ⟨u, hu, rv⟩ := r.get ha
    have hp : ps[i]? = some y := by
      rw [← S.pre, List.getElem?_take_of_lt (by omega)]; exact h1
    have ndP : ps.Nodup := by rw [← S.pre]; exact S.nd.sublist (List.take_sublist _ _)
    exact ⟨u, rv, .inl ⟨S.par y (List.mem_of_getElem? hp), rev_lookup ndP hp hu⟩⟩
  · obtain ⟨rfl, rfl⟩ := cell_one h
    exact ⟨some (.ref D), ⟨_, hk _ _ (e0.bs _ _ hb).1, rfl⟩⟩
  · obtain ⟨rfl, rfl⟩ := cell_one h
    exact (e0.bs _ _ hb).2
  · unfold L2.start
    show _ = N.length
    rw [List.length_append, List.length_map, List.length_replicate]
    omega
section
variable {P : Program} {w : World} {K : PySem.W.Frag} {mg : Str → Option Value} {base : Heap} {x qual : Str} {params : Arguments} {body : List Stmt} {scope : Scope} {f D cc cda : Addr} {fd : FuncData} {N ps : List Str} {k : Nat}
theorem FunS.ok {CX : CXT} {sp : Sp} (F : FunS P K x qual params body scope D f cc cda fd) (S : FnScopeS N ps scope) (len : ∀ vs H Q E, sp vs H Q E → vs.length = ps.length)
    (hbody : ∀ (A : Around) (outer : List Env) (s : Shared) (H : Hp) (vs : List V) (Q : VK) (E : XK), Room k (A.deeper (PySem.W.envX qual scope s.heap.objs.size f (.ref cda) [("__class__", cc)])) → sp vs H Q E →
      ∃ t, PSsAx (cxS CX P w K mg base N qual scope f cda cc A outer s H E) body body t ∧ t { nx := fun _ H' => Q .non H', rt := Q } (L2.start N vs) H) : FnOk P w K mg base CX (k + 1) f fd ps sp := by
  obtain ⟨kV, doc, pm, an, ct, oc, od, osl, rfl, lk⟩ := F.fdE
  refine ⟨len, fun A outer s H args us vs Q E hr e0 hb r hsp => ?_⟩
  have hl := len _ _ _ _ hsp
  have KX : K.In s.heap := e0.mod.kin.keeps fun b o e => (e0.bs b o e).1
  have lim : s.heap.NoLimit := e0.mod.nolimit.keeps fun b o e => (e0.bs b o e).1
  refine PySem.ks_codeAny_call_defAt (body := body) (binds := ps.zip us) hr.depth (KX _ _ lk) rfl lim (PySem.W.codeRec_of KX F.code) rfl hb S.nocell (fun y hy => S.par _ (List.of_mem_zip hy).1) (fun h₀ hns hk => ?_) S.co S.gen S.kind
  obtain ⟨t, ht, hq⟩ := hbody A outer s H vs Q E (hr.deeper _) hsp
  have I : Inv (cxS CX P w K mg base N qual scope f cda cc A outer s H E) [] (L2.start N vs) H { s with heap := h₀, toks := s.toks + (ps.zip us).length } := inv_startS S hr.hd e0 hl r F.cell hns hk
  refine PySem.wpAt_mono (ht [] _ (L2.start N vs) H _ I hq) (fun fl s' hs => ?_) fun e s' hs => hs
  have fin : ∀ {σ' : L2.St} {H' : Hp} {v : V} {u : Value}, Inv (cxS CX P w K mg base N qual scope f cda cc A outer s H E) [] σ' H' s' → RelV v u → Q v H' → CE outer P w H s Q u s' :=
    fun {σ' H' v u} J rv q => ⟨v, H', J.os, J.bare, J.base, J.hok, rv, q⟩
  cases fl with
  | ret u =>
    obtain ⟨v, σ', H', J, rv, q⟩ := hs
    exact fin J rv q
  | next =>
    obtain ⟨σ', H', J, q⟩ := hs
    exact fin (v := V.non) (u := Value.none) J rfl q
  | brk =>
    obtain ⟨_, _, _, q⟩ := hs
    exact False.elim q
  | cont =>
    obtain ⟨_, _, _, q⟩ := hs
    exact False.elim q
end
end SL

set_option Elab.async false
set_option linter.all false
set_option maxRecDepth 100000
set_option maxHeartbeats 4000000
/-! S-layer 20: super().__init__(e, ..) -/
namespace SL
open PySem L2 PyProof.Rows
/-- super().__init__(..): the instance of slot 0, of the class at C -/
def tSup (C : Addr) (sp : Sp) (E : XK) (t : TA) : TS := fun D σ H => ∃ a dx fs, σ[0]? = some (some (.ref a)) ∧ H a = some (.ins C dx fs) ∧ t σ H fun vs H1 => sp (.ref a :: vs) H1 (fun _ H2 => D.nx σ H2) E
section
variable {P : Program} {w : World} {K : PySem.W.Frag} {mg : Str → Option Value} {base : Heap} {x qual : Str} {params : Arguments} {body : List Stmt} {scope : Scope} {f D cc cda : Addr} {fd : FuncData} {N ps : List Str} {k : Nat}
/-- what of the text is asked -/
structure SupF (P : Program) (K : PySem.W.Frag) (C D f2 : Addr) : Prop where
  top : (P.main.scope.names.lookup ("super" : Str)).isSome = false
  sub : PySem.W.mroIn K C (.ref D) = some true
  op : PySem.W.nsIn K cStatics "thirdparty.any" = some none
  sup : PySem.W.ks_superIn K C D "__init__" = some (some (.ref f2))
  ty : PySem.W.typeIn K (.ref f2) = some (.type "function")
  fn : PySem.W.fnIn K f2 = true
theorem psa_super {CX CX2 : CXT} {A : Around} {outer : List Env} {s0 : Shared} {H0 : Hp} {E0 E : XK} {k2 : Nat} {C f2 : Addr} {sp : Sp} {e : Expr} {es : List Expr} {t : TA} {ar : Arg} {p0 p1 ap pos pos2 : Pos} {pl : Sem Bool}
    (F : FunS P K x qual params body scope D f cc cda fd) (T : SupF P K C D f2) (hp : (params.posonlyargs ++ params.args).head? = some ar) (har : N[0]? = some ar.arg) (hloc : scope.names.lookup ar.arg = some .local)
    (hsp : scope.names.lookup ("super" : Str) = some .globalImplicit) (hcl : scope.names.lookup ("__class__" : Str) = some .free) (hms : mg "super" = none)
    (F2 : FnR P w K mg base CX2 k2 f2 sp) (hr : Room k2 (cxS CX P w K mg base N qual scope f cda cc A outer s0 H0 E0).A) (hx : Passes CX2 (cxS CX P w K mg base N qual scope f cda cc A outer s0 H0 E0) E)
    (ha : PA (cxS CX P w K mg base N qual scope f cda cc A outer s0 H0 E0) (e :: es) t)
    (hst : starEach (e :: es) (cxS CX P w K mg base N qual scope f cda cc A outer s0 H0 E0).env = (false, eval e (cxS CX P w K mg base N qual scope f cda cc A outer s0 H0 E0).env) :: starEach es (cxS CX P w K mg base N qual scope f cda cc A outer s0 H0 E0).env := by rfl)
    (hpl : (backTo pos (starEach es (cxS CX P w K mg base N qual scope f cda cc A outer s0 H0 E0).env)).any (·.1) = false := by rfl)
    (hev : eval (.Call (.Attribute (.Call (.Name "super" p0) [] [] p1) "__init__" ap) (e :: es) [] pos) (cxS CX P w K mg base N qual scope f cda cc A outer s0 H0 E0).env = (do
      let ov ← attributeBase (.Call (.Name "super" p0) [] [] p1) "__init__" (cxS CX P w K mg base N qual scope f cda cc A outer s0 H0 E0).env (eval (.Call (.Name "super" p0) [] [] p1) (cxS CX P w K mg base N qual scope f cda cc A outer s0 H0 E0).env)
      standAt ap.atName
      let (g, first) ← holding [ov] (getMethod ov "__init__" pl)
      callWith pos g first (backTo pos (starEach (e :: es) (cxS CX P w K mg base N qual scope f cda cc A outer s0 H0 E0).env)) []) := by rfl)
    (hsw : swapsWith (.Call (.Attribute (.Call (.Name "super" p0) [] [] p1) "__init__" ap) (e :: es) [] pos) none pos2.line (cxS CX P w K mg base N qual scope f cda cc A outer s0 H0 E0).env = pure false := by rfl) :
    PSAx (cxS CX P w K mg base N qual scope f cda cc A outer s0 H0 E0) body (.Expr (.Call (.Attribute (.Call (.Name "super" p0) [] [] p1) "__init__" ap) (e :: es) [] pos) pos2) (tSup C sp E t) := by
  intro pins s σ H D' I ⟨a, dx, fs, h0, hH, q⟩
  have KX : K.In s.heap := I.kIn
  obtain ⟨kV, doc, pm, an, ct, oc, od, osl, rfl, lk⟩ := F.fdE
  obtain ⟨ccl, cdd, vs, ccs, file, tf, hcda, hvs, hfile⟩ := F.file
  obtain ⟨cl, cld, csl, hcell⟩ := F.cell
  obtain ⟨cdD, hD⟩ := F.cls
  obtain ⟨mb, hb1, hb2⟩ := I.mod.blt
  obtain ⟨m, hn, hlook⟩ := I.loc
  obtain ⟨u, ru, lu⟩ := hlook 0 ar.arg (.ref a) har h0 (.inl hloc)
  obtain rfl : u = Value.ref a := ru
  have hmu : m ar.arg = some (.ref a) := by
    rcases lu with ⟨_, hmu⟩ | ⟨hk, _⟩
    · exact hmu
    · have hk : scope.names.lookup ar.arg = some .cell ∨ scope.names.lookup ar.arg = some .free := hk
      rw [hloc] at hk
      rcases hk with hk | hk <;> cases hk
  obtain ⟨oD, hD1, hD2⟩ : ∃ oD, s.heap.get? D = some oD ∧ oD.data = .cls cdD := by
    unfold PySem.W.clsIn at hD
    split at hD
    · rename_i c d cd' sl ho
      cases hD
      exact ⟨_, KX _ _ ho, rfl⟩
    · cases hD
  obtain ⟨mA, O, _, _, _, _⟩ := ins_get I.hok hH
  obtain ⟨od2, J, _⟩ := O.look
  cases hc : PySem.W.clsIn K C with
  | none => have := T.sup; unfold PySem.W.ks_superIn at this; rw [hc] at this; cases this
  | some cd =>
  have hm := T.sup
  unfold PySem.W.ks_superIn at hm
  rw [hc] at hm
  obtain ⟨of, hof, hofc⟩ : ∃ of, K.lookup f2 = some of ∧ of.cls = .type "function" := by
    have ht' : (K.lookup f2).map (·.cls) = some (.type "function") := T.ty
    cases z : K.lookup f2 with
    | none => rw [z] at ht'; cases ht'
    | some of => rw [z] at ht'; exact ⟨of, rfl, Option.some.inj ht'⟩
  have hne : a ≠ C := PySem.W.ks_ne KX J hc
  refine PySem.ks_wpAt_Expr_any (PySem.ks_wpAt_MethodCall (pl := pl) ?_ hev) I.quiet hsw
  refine PySem.ks_wpAt_super_base hsp hcl (by decide) rfl (KX _ _ lk) rfl hp rfl (KX _ _ hcda) rfl hvs hfile T.top ?_
  refine PySem.W.ks_loadName_global I.ok.kind hsp (Calls.loadGlobal_builtin (by rw [I.ok.glob]; exact I.mod.glob.keeps I.bk) hms (by rw [I.ok.blt]; exact hb1.keeps I.bk) ((hb2 "super" (by decide)).trans (by first | rfl | decide +kernel)) ⟨rfl, ?_⟩)
  refine wpAny_loadName_free I.ok.kind hcl rfl ⟨_, KX _ _ hcell, rfl⟩ ?_
  refine wpAny_loadName_local I.ok.kind hloc hn hmu ?_
  refine PySem.ks_wpAny_isType_cls hD1 hD2 ⟨rfl, ?_⟩
  refine PySem.ks_wpAny_call_super hD1 hD2 J.at_ J.cls (fun c e => ?_) (PySem.W.looks_mroIn KX T.sub) (fun h' e k => ?_)
  · have := J.no
    unfold PySem.W.notCls at this
    rw [e] at this
    exact Bool.noConfusion this
  · have I1 := ClX.pin_new (t' := s.toks) I k (Nat.le_refl _) e (fun v z => by cases z)
    refine PySem.ks_wpAny_getMethod_super (l₀ := cd.mro) (ClX.pin_at I1) (PySem.W.looks_opaque I1.kIn T.op) ?_ rfl I1.kIn hm (I1.kIn _ _ hof) hofc hne (by decide) ?_
    · exact fun A Q E s k q => wpAny_bind ((PySem.W.looks_clsIn I1.kIn hc) A _ E s k (wpAny_pure q))
    · have I2 := ClX.met_new (g := f2) (C := a) I1
      refine ClX.callwith_cm I2 (ClX.base_none I1 (Nat.le_refl _)) T.fn (thn (ha.run pos _ _ σ H _ I2 q) fun us s3 ⟨vs, H2, I3, rv, q2⟩ => ⟨⟨ClX.pin_at I3, I3.kIn⟩, ?_⟩) hst hpl
      refine thn (ClX.run_cm F2 hr hx I3 rv q2) fun v s4 z => ?_
      obtain ⟨_, H3, I4, _, q3⟩ := ClX.unpinE z
      exact ⟨σ, H3, I4, q3⟩
end

/-! the semantic side -/
theorem snd_callB {K : PySem.W.Frag} {W : WX} {ta : TA} {n : Mo (List T)} {i ar : Nat} {g : FnB} (z : SndA K W ta n) :
    SndE K W (fun σ H Q => ∃ v, σ[i]? = some (some v) ∧ ta σ H fun vs H1 => spB K ar g ((v :: vs) ++ []) H1 Q E0) (eCallB ar g i n) := by
  intro G F H ρ σ us ws Q r ρ' j hl ht hm k
  simp only [List.append_nil] at j
  unfold eCallB at hm
  cases e0 : atS i ρ with
  | none => rw [e0] at hm; cases hm
  | some t0 =>
    rw [e0] at hm
    simp only at hm
    obtain ⟨v, h1, _⟩ := j.slot hl e0
    refine ⟨v, h1, ?_⟩
    unfold bnd at hm
    cases en : n ρ with
    | none => rw [en] at hm; cases hm
    | some qq =>
      obtain ⟨r1, ρ1⟩ := qq
      rw [en] at hm
      refine z G F H ρ σ us ws _ r1 ρ1 (by simpa using j) hl ht en ?_
      cases r1 with
      | exc x => cases hm; exact k
      | ok ts =>
        intro vs F' H' e1 l1 _ j1
        dsimp only at hm
        cases hf : frzs ts with
        | none => rw [hf] at hm; cases hm
        | some ds =>
          rw [hf] at hm
          cases e2 : atS i ρ1 with
          | none => rw [e2] at hm; cases hm
          | some t =>
            rw [e2] at hm
            dsimp only at hm
            by_cases hc : t.own = true ∧ ds.length = ar
            · rw [if_pos hc] at hm
              cases eg : g (t.setB true) ds with
              | none => rw [eg] at hm; cases hm
              | some o =>
                obtain ⟨o1, t'⟩ := o
                rw [eg] at hm
                cases o1 with
                | exc x => cases hm
                | ok d =>
                  dsimp only at hm
                  by_cases ho' : t'.own = true
                  · rw [if_pos ho'] at hm
                    cases hm
                    unfold frzs at hf
                    by_cases hb : ts.any T.brw = true
                    · rw [if_pos hb] at hf; cases hf
                    · rw [if_neg hb] at hf
                      cases hf
                      rw [← List.append_assoc, ← List.append_assoc] at j1
                      obtain ⟨F1, x1, j2, rd⟩ := j1.freezes (by simp [l1, ht]) (by simpa using hb)
                      have j3 := j2.pre (by simp [l1, ht])
                      obtain ⟨v', m1, m2, m3, m4, m5⟩ := j3.slot l1 e2
                      rw [h1] at m1; cases m1
                      obtain ⟨ad, u, ea, _, _⟩ := m2.adr hc.1
                      subst ea
                      refine ⟨F1, t.setB true, .ref ad, _, vs ++ [], .ok d, t', rfl, j3.ex, setB_hold m2, by rw [setB_own]; exact hc.1, setB_brw hc.1, by rw [List.append_nil]; exact rd, hc.2, eg, ?_⟩
                      intro rv F2 H2 g1 g2 g3 g4 g5 g6
                      have j4 := j3.call m4 hc.1 m5 g1 g2 g3 g4 g5 ho'
                      rw [List.set_append_left _ _ m3] at j4
                      refine k rv F2 H2 ((e1.trans x1).trans g1) (by simpa using l1) trivial ?_
                      rw [← List.append_assoc, ← List.append_assoc]
                      exact j4.dat g6
                  · rw [if_neg ho'] at hm; cases hm
            · rw [if_neg hc] at hm; cases hm

def sSup (C : Str) (k : Nat) (f : FnB) (n : Mo (List T)) : So := fun ρ => match ρ[0]? with
  | some (some (SL.T.ins _ C' _ _)) => if C' = C then sDrop (eCallB k f 0 n) ρ else none
  | _ => none
theorem snd_sup {K : PySem.W.Frag} {W : WX} {ta : TA} {n : Mo (List T)} {ar : Nat} {g : FnB} {C : Str} (z : SndA K W ta n) :
    SndS K W (tSup (He.ga K C) (fun vs H Q E => spB K ar g (vs ++ []) H Q E) E0 ta) (sSup C ar g n) := by
  intro G F H ρ σ us ws D fl ρ' j hl ht hm k
  unfold sSup at hm
  cases e0 : ρ[0]? with
  | none => rw [e0] at hm; cases hm
  | some o =>
    cases o with
    | none => rw [e0] at hm; cases hm
    | some t0 =>
      cases t0 with
      | dat _ => rw [e0] at hm; cases hm
      | lst _ _ => rw [e0] at hm; cases hm
      | ins b C' ns xs =>
        rw [e0] at hm
        dsimp only at hm
        by_cases hC : C' = C
        · rw [if_pos hC] at hm
          subst hC
          have hi := (List.getElem?_eq_some_iff.mp e0).1
          obtain ⟨v, hv, hold, _⟩ := j.ok 0 (.ins b C' ns xs) (by rw [List.getElem?_append_left hi]; exact e0)
          obtain ⟨a, dx, vs, rfl, _, hH, _, _⟩ := hold
          have hs : σ[0]? = some (some (V.ref a)) := by rw [List.getElem?_append_left (by rw [← hl]; exact hi)] at hv; exact hv
          have dr : SndS K W (fun D σ H => ∃ v, σ[0]? = some (some v) ∧ ta σ H fun vs H1 => spB K ar g ((v :: vs) ++ []) H1 (fun _ H2 => D.nx σ H2) E0) (sDrop (eCallB ar g 0 n)) :=
            (snd_callB (i := 0) (ar := ar) (g := g) z).toS (tk := fun _ D σ H => D.nx σ H) fun a b _ G F H ρ σ us ws D fl ρ' j hl ht hm k => by
              cases hm
              exact k σ F H Ex.rfl hl rfl (app_pre j hl ht)
          obtain ⟨v, h1, h2⟩ := dr G F H ρ σ us ws D fl ρ' j hl ht hm k
          rw [hs] at h1; cases h1
          exact ⟨a, dx, _, hs, hH, h2⟩
        · rw [if_neg hC] at hm; cases hm
section
variable {P : Program} {w : World} {K : PySem.W.Frag} {mg : Str → Option Value} {base : Heap} {x qual : Str} {params : Arguments} {body : List Stmt} {scope : Scope} {f D cc cda : Addr} {fd : FuncData} {N ps : List Str} {k : Nat}
theorem ssa_super {W : WX} {A : Around} {outer : List Env} {s0 : Shared} {H0 : Hp} {EE : XK} {k2 ar : Nat} {g : FnB} {C : Str} {f2 : Addr} {fd2 : FuncData} {ps2 : List Str} {e : Expr} {es : List Expr} {n : Mo (List T)} {ag : Arg} {p0 p1 ap pos pos2 : Pos} {pl : Sem Bool}
    (F : FunS P K x qual params body scope D f cc cda fd) (T : SupF P K (He.ga K C) D f2) (F2 : FnOk P w K mg base (L2.CX P w) k2 f2 fd2 ps2 (spB K ar g)) (hb : Binds K fd2 ps2 []) (hr : Room k2 (cxS (L2.CX P w) P w K mg base N qual scope f cda cc A outer s0 H0 EE).A) (hms : mg "super" = none)
    (ha : SA (cxS (L2.CX P w) P w K mg base N qual scope f cda cc A outer s0 H0 EE) W (e :: es) n)
    (hp : (params.posonlyargs ++ params.args).head? = some ag := by rfl) (har : N[0]? = some ag.arg := by rfl) (hloc : scope.names.lookup ag.arg = some .local := by rfl)
    (hsp : scope.names.lookup ("super" : Str) = some .globalImplicit := by rfl) (hcl : scope.names.lookup ("__class__" : Str) = some .free := by rfl)
    (hst : starEach (e :: es) (cxS (L2.CX P w) P w K mg base N qual scope f cda cc A outer s0 H0 EE).env = (false, eval e (cxS (L2.CX P w) P w K mg base N qual scope f cda cc A outer s0 H0 EE).env) :: starEach es (cxS (L2.CX P w) P w K mg base N qual scope f cda cc A outer s0 H0 EE).env := by rfl)
    (hpl : (backTo pos (starEach es (cxS (L2.CX P w) P w K mg base N qual scope f cda cc A outer s0 H0 EE).env)).any (·.1) = false := by rfl)
    (hev : eval (.Call (.Attribute (.Call (.Name "super" p0) [] [] p1) "__init__" ap) (e :: es) [] pos) (cxS (L2.CX P w) P w K mg base N qual scope f cda cc A outer s0 H0 EE).env = (do
      let ov ← attributeBase (.Call (.Name "super" p0) [] [] p1) "__init__" (cxS (L2.CX P w) P w K mg base N qual scope f cda cc A outer s0 H0 EE).env (eval (.Call (.Name "super" p0) [] [] p1) (cxS (L2.CX P w) P w K mg base N qual scope f cda cc A outer s0 H0 EE).env)
      standAt ap.atName
      let (g, first) ← holding [ov] (getMethod ov "__init__" pl)
      callWith pos g first (backTo pos (starEach (e :: es) (cxS (L2.CX P w) P w K mg base N qual scope f cda cc A outer s0 H0 EE).env)) []) := by rfl)
    (hsw : swapsWith (.Call (.Attribute (.Call (.Name "super" p0) [] [] p1) "__init__" ap) (e :: es) [] pos) none pos2.line (cxS (L2.CX P w) P w K mg base N qual scope f cda cc A outer s0 H0 EE).env = pure false := by rfl) :
    SSA (cxS (L2.CX P w) P w K mg base N qual scope f cda cc A outer s0 H0 EE) W body (.Expr (.Call (.Attribute (.Call (.Name "super" p0) [] [] p1) "__init__" ap) (e :: es) [] pos) pos2) (sSup C ar g n) := by
  obtain ⟨ta, q, z⟩ := ha
  exact ⟨_, psa_super F T hp har hloc hsp hcl hms (F2.raw hb .nil) hr passE0 q hst hpl hev hsw, snd_sup z⟩
theorem fnBS (F : FunS P K x qual params body scope D f cc cda fd) (S : FnScopeS N ps scope) (sem : So) (m a : Nat) (ha : ps.length = a + 1) (hm : N.length = ps.length + m)
    (hb : ∀ (A : Around) (outer : List Env) (s : Shared) (H : Hp) (E : XK), Room k (A.deeper (PySem.W.envX qual scope s.heap.objs.size f (.ref cda) [("__class__", cc)])) → SSsA (cxS (L2.CX P w) P w K mg base N qual scope f cda cc A outer s H E) (fun c d _ H => E c d H) body body sem) :
    FnOk P w K mg base (L2.CX P w) (k + 1) f fd ps (spB K a (bodyB m sem)) := by
  refine F.ok S (fun vs H Q E h => ?_) (fun A outer s H vs Q E hr h => ?_)
  · obtain ⟨F0, t, v0, ds, vs', r, t', rfl, _, _, _, _, rd, hl, _, _⟩ := h
    simp [rd.len, hl, ha]
  · obtain ⟨F0, t0, v0, ds, vs', r, t', rfl, ex, hold, ho, hbr, rd, hl, hf, hret⟩ := h
    obtain ⟨t, p, z⟩ := hb A outer s H E hr
    refine ⟨t, p, ?_⟩
    have j0 := j_startB (N := N) (m := m) ex hold ho hbr rd (by rw [hm, ha, hl])
    have hlen := j0.len
    unfold bodyB at hf
    cases e : sem (some t0 :: (ds.map (fun d => some (T.dat d)) ++ List.replicate m none)) with
    | none => rw [e] at hf; cases hf
    | some q =>
      obtain ⟨fl, ρ'⟩ := q
      rw [e] at hf
      refine z _ F0 H _ (L2.start N (v0 :: vs')) [] [] _ fl ρ' (by rw [List.append_nil, List.append_nil]; exact j0) hlen rfl e ?_
      have goal : ∀ {F' H' : Hp} {us : Sl} {σ' ws : L2.St} {r1 : Rs SL.D} (j : J K ⟨F0, H, fun a => v0 = .ref a⟩ F' H' (ρ' ++ us) (σ' ++ ws)), finB r1 ρ' = some (r, t') → r1 = r ∧ Apart H H' v0 ∧ Ex F' H' ∧ (∀ a o, F' a = some o → F0 a = some o ∨ H a = none) ∧ Hold K F' H' t' v0 := by
        intro F' H' us σ' ws r1 j hfin
        unfold finB at hfin
        cases e0 : ρ'[0]? with
        | none => rw [e0] at hfin; cases hfin
        | some ot =>
          cases ot with
          | none => rw [e0] at hfin; cases hfin
          | some u =>
            rw [e0] at hfin
            simp only at hfin
            by_cases hb : u.brw = true
            · rw [if_pos hb] at hfin
              cases hfin
              have hi : 0 < ρ'.length := (List.getElem?_eq_some_iff.mp e0).1
              have e1 : (ρ' ++ us)[0]? = some (some t') := by rw [List.getElem?_append_left hi]; exact e0
              obtain ⟨v, _, h2, h3⟩ := j.ok 0 t' e1
              have ot : t'.own = true := by cases t' with
                | dat d => cases hb
                | lst _ _ => rfl
                | ins _ _ _ _ => rfl
              obtain ⟨a, _, ea, _, _⟩ := h2.adr ot
              have hv := h3 ot a ea
              rw [if_pos hb] at hv
              have hv' : v0 = .ref a := hv
              rw [ea, ← hv'] at h2
              exact ⟨rfl, fun b o hb nb => j.base b o hb nb, j.ex, j.frs, h2⟩
            · rw [if_neg hb] at hfin; cases hfin
      cases fl with
      | next =>
        intro σ' F' H' e1 l1 l2 j1
        obtain ⟨rfl, g1, g2, g3, g4⟩ := goal j1 hf
        exact hret .non F' H' e1 g1 g2 g3 g4 rep_non
      | brk => cases hf
      | cont => cases hf
      | ret u =>
        simp only at hf
        by_cases hb : u.brw = true
        · rw [if_pos hb] at hf; cases hf
        · rw [if_neg hb] at hf
          intro v σ' F' H' e1 l1 l2 j1
          obtain ⟨F2, x2, j2, rd2⟩ := j1.fzLast (l1.trans l2.symm) rfl (by simpa using hb)
          obtain ⟨rfl, g1, g2, g3, g4⟩ := goal j2 hf
          exact hret v F2 H' (e1.trans x2) g1 g2 g3 g4 rd2
      | exc x =>
        intro c d σ' F' H' e1 l1 l2 j1 rx
        obtain ⟨rfl, g1, g2, g3, g4⟩ := goal j1 hf
        exact hret c d F' H' e1 g1 g2 g3 g4 rx
end
end SL

set_option Elab.async false
set_option linter.all false
set_option maxRecDepth 100000
set_option maxHeartbeats 4000000
/-! S-layer 21: the head's facts of a def that says super() -/
namespace SL
open PySem PySem.Spec PyProof.Rows L2
/-- the cell and the code of a def at a place -/
def clAt (K : PySem.W.Frag) (a : Addr) : Addr := match K.lookup a with
  | some ⟨_, _, .func fd, _⟩ => (match fd.closure with
    | (_, c) :: _ => c
    | _ => 0)
  | _ => 0
def cdAt (K : PySem.W.Frag) (a : Addr) : Addr := match K.lookup a with
  | some ⟨_, _, .func fd, _⟩ => (match fd.code with
    | .ref c => c
    | _ => 0)
  | _ => 0
/-- the def of class C at the place p closes over the cell of its class; the file's name -/
def pSupD (C : Str) (p : PySem.W.Frag → Addr) (file : Str) : Ft := fun K => (match K.lookup (p K) with
    | some ⟨_, _, .func fd, _⟩ => (match fd.closure, fd.code with
      | [(n, c)], .ref cd => decide (n = ("__class__" : Str)) && (match K.lookup c with
          | some ⟨_, _, .cell (some (.ref D)), _⟩ => decide (D = He.ga K C)
          | _ => false) && (match K.lookup cd with
          | some ⟨_, _, .fields vs, _⟩ => (match vs[2]? with
            | some (Value.str f _) => f == file
            | _ => false)
          | _ => false)
      | _, _ => false)
    | _ => false) && (PySem.W.clsIn K (He.ga K C)).isSome
/-- behind the class C comes the __init__ of the class B -/
def pSupF (C B : Str) : Ft := fun K => eqB (PySem.W.mroIn K (He.ga K C) (.ref (He.ga K C))) (some true) && (He.eqO (PySem.W.nsIn K cStatics "thirdparty.any") (some none) &&
  (He.eqO (PySem.W.ks_superIn K (He.ga K C) (He.ga K C) "__init__") (some (some (.ref (He.ma K (He.ga K B) "__init__")))) && (decide (PySem.W.typeIn K (.ref (He.ma K (He.ga K B) "__init__")) = some (.type "function")) && PySem.W.fnIn K (He.ma K (He.ga K B) "__init__"))))
theorem supF_of {P : Program} {K : PySem.W.Frag} {C B : Str} (c : pSupF C B K = true) (ht : (P.main.scope.names.lookup ("super" : Str)).isSome = false) : SupF P K (He.ga K C) (He.ga K C) (He.ma K (He.ga K B) "__init__") := by
  obtain ⟨h1, h⟩ := He.ba c
  obtain ⟨h2, h⟩ := He.ba h
  obtain ⟨h3, h⟩ := He.ba h
  obtain ⟨h4, h5⟩ := He.ba h
  exact ⟨ht, eqB_ok h1, He.eqO_ok h2, He.eqO_ok h3, of_decide_eq_true h4, h5⟩
theorem Df.funS {P : Program} {K : PySem.W.Frag} {d : Df} {C file : Str} (hf : d.free = [("__class__" : Str)]) (hd : d.dfl = []) (e : fnAt K (d.at_ K) = d.val) (c : d.ok K = true) (s : pSupD C d.at_ file K = true) (hp : ((P.main.file : Str) == file) = true) :
    ∃ fd, FunS P K d.name d.qual d.params d.body d.scope (He.ga K C) (d.at_ K) (clAt K (d.at_ K)) (cdAt K (d.at_ K)) fd ∧ PySem.W.keepIn K (.ref (d.at_ K)) = true := by
  obtain ⟨kp, c2⟩ := He.ba c
  obtain ⟨s1, s2⟩ := He.ba s
  unfold fnAt at e
  unfold clAt cdAt
  split at e
  · next fc fo fd fs q =>
    rw [q] at c2 s1
    try rw [q]
    dsimp only at c2 s1 ⊢
    obtain ⟨k1, k3⟩ := He.ba c2
    obtain ⟨n1, n2, n3, n4, n5, n6, n7, n8, n9, n10, n11, n12, n13, n14, n15⟩ := fd
    unfold Df.val at e
    simp only [Option.some.injEq, Prod.mk.injEq] at e
    obtain ⟨h1, h2, h3, h4, h5, h6, h7, h8⟩ := e
    subst h1 h2 h3 h4 h5 h6 h8
    dsimp only at s1 k1 k3 ⊢
    have h9 : n8 = .none := by
      have k4 : d.dvs K = [] := by unfold Df.dvs; rw [hd]; rfl
      rw [k4] at k3
      cases n8 <;> first | rfl | exact Bool.noConfusion (show false = true from k3)
    subst h9
    split at s1
    · next n cc cd =>
      obtain ⟨s3, s5⟩ := He.ba s1
      obtain ⟨s3, s4⟩ := He.ba s3
      have hn := of_decide_eq_true s3
      subst hn
      split at s4
      · next cl cld D csl hcc =>
        have hD := of_decide_eq_true s4
        subst hD
        split at s5
        · next ccl cdd vs ccs hcd =>
          split at s5
          · next f tf hvs =>
            have hfl := eq_of_beq s5
            subst hfl
            refine ⟨_, ⟨⟨n9, n10, n11, n12, n14, fc, fo, fs, rfl, q⟩, k1, ⟨ccl, cdd, vs, ccs, f, tf, hcd, hvs, hp⟩, ⟨cl, cld, csl, hcc⟩, Option.isSome_iff_exists.mp s2⟩, kp⟩
          · cases s5
        · cases s5
      · cases s4
    · cases s1
  · cases e
theorem SaysP.defS {P : Program} {fa : List Ft} {fn : List Df} {K : PySem.W.Frag} (c : SaysP fa fn K) (i : Nat) {d : Df} {C file : Str} (s : pSupD C d.at_ file K = true) (hp : ((P.main.file : Str) == file) = true) (h : fn[i]? = some d := by rfl) (hf : d.free = [("__class__" : Str)] := by rfl) (hd : d.dfl = [] := by rfl) :
    ∃ fd, FunS P K d.name d.qual d.params d.body d.scope (He.ga K C) (d.at_ K) (clAt K (d.at_ K)) (cdAt K (d.at_ K)) fd ∧ PySem.W.keepIn K (.ref (d.at_ K)) = true := by
  have c2 := (He.ba (show ((fa.all fun f => f K) && fn.all fun d => d.ok K) = true from congrArg (fun z : He.AlD => z.1) c)).2
  have e : fn.map (fun d => fnAt K (d.at_ K)) = fn.map Df.val := congrArg (fun z : He.AlD => z.2) c
  have e2 : (fn.map fun d => fnAt K (d.at_ K))[i]? = (fn.map Df.val)[i]? := by rw [e]
  rw [List.getElem?_map, List.getElem?_map, h] at e2
  exact Df.funS hf hd (Option.some.inj e2) (List.all_eq_true.mp c2 d (List.mem_of_getElem? h)) s hp
theorem FunS.binds {P : Program} {K : PySem.W.Frag} {x qual : Str} {params : Arguments} {body : List Stmt} {scope : Scope} {D f cc cda : Addr} {fd : FuncData} {ps : List Str} (F : FunS P K x qual params body scope D f cc cda fd)
    (h : ∀ (kV doc pm : Value) (an : Option Addr) (ct : Value) (us : List Value), us.length = ps.length → bindArgs (PySem.W.fnX x qual params body scope [("__class__", cc)] .none kV doc pm an (.ref cda) ct) ⟨us, []⟩ = pure (ps.zip us)) : Binds K fd ps [] := by
  obtain ⟨kV, doc, pm, an, ct, oc, od, osl, rfl, lk⟩ := F.fdE
  exact .all fun us hl => h kV doc pm an ct us hl
end SL

set_option Elab.async false
set_option linter.all false
set_option maxRecDepth 100000
set_option maxHeartbeats 4000000
/-! S-layer 22: max of three, is between truths, bool(x), static methods -/
namespace SL
open PySem L2
section
variable {X : Cx} {W : WX} {a b c e : Expr} {es : List Expr} {ma mb mc : Mo T} {pos : Pos} {n : Mo (List T)} {K : PySem.W.Frag}
def m3 (i j k : Int) : Int := if (if i < j then j else i) < k then k else (if i < j then j else i)
theorem call_max3 (hc : X.calm = true) : CallR X (.builtin "max") (fun xs H Q => ∃ i j k, xs = [.int i, .int j, .int k] ∧ Q (.int (m3 i j k)) H) := by
  intro pins s σ H xs us Q I r h
  obtain ⟨i, j, l, rfl, q⟩ := h
  obtain ⟨u1, u2, u3, rfl, ⟨t1, rfl⟩, ⟨t2, rfl⟩, ⟨t3, rfl⟩⟩ : ∃ u1 u2 u3, us = [u1, u2, u3] ∧ RelV (.int i) u1 ∧ RelV (.int j) u2 ∧ RelV (.int l) u3 := by
    cases r with
    | cons r1 r => cases r with
      | cons r2 r => cases r with
        | cons r3 r => cases r; exact ⟨_, _, _, rfl, r1, r2, r3⟩
  refine max3_num (I.ok.hd hc) (.int _ _) (.int _ _) (.int _ _) fun h' tk k => ⟨_, H, I.kept k, ?_, q⟩
  unfold m3
  by_cases h1 : i < j
  · by_cases h2 : j < l
    · simp only [Flt.ltV, decide_eq_true_eq, h1, h2, if_true]; exact ⟨_, rfl⟩
    · simp only [Flt.ltV, decide_eq_true_eq, h1, h2, if_true, if_false]; exact ⟨_, rfl⟩
  · by_cases h2 : i < l
    · simp only [Flt.ltV, decide_eq_true_eq, h1, h2, if_true, if_false]; exact ⟨_, rfl⟩
    · simp only [Flt.ltV, decide_eq_true_eq, h1, h2, if_false]; exact ⟨_, rfl⟩
def max3F : List D → Option Out
  | [.int i, .int j, .int k] => some (.dt (.int (m3 i j k)))
  | _ => none
theorem co_max3 : CallOk K (fun xs H Q => ∃ i j k, xs = [.int i, .int j, .int k] ∧ Q (.int (m3 i j k)) H) max3F := by
  intro F H Q vs ds o ex rd hf q
  unfold max3F at hf
  split at hf
  · cases hf
    obtain ⟨x, y, z, rfl, a1, a2, a3⟩ := reps_three rd
    cases ri a1; cases ri a2; cases ri a3
    exact ⟨_, _, _, rfl, q.int ex⟩
  · cases hf
/-! is, is not between truths -/
theorem op_isB : OpR X (compareOp .Is) (fun x y H Q => ∃ i j, x = .bl i ∧ y = .bl j ∧ Q (.bl (i == j)) H) := by
  intro pins s σ H x y v u Q I rx ry h
  obtain ⟨i, j, rfl, rfl, q⟩ := h
  cases rx; cases ry
  refine wpAny_is_plain (by rfl) (fin_bl I q ?_)
  cases i <;> cases j <;> rfl
theorem op_notB : OpR X (compareOp .IsNot) (fun x y H Q => ∃ i j, x = .bl i ∧ y = .bl j ∧ Q (.bl (!(i == j))) H) := by
  intro pins s σ H x y v u Q I rx ry h
  obtain ⟨i, j, rfl, rfl, q⟩ := h
  cases rx; cases ry
  refine wpAny_isNot_plain (by rfl) (fin_bl I q ?_)
  cases i <;> cases j <;> rfl
def isBF (d e : D) : Option Out := match d, e with
  | .bl i, .bl j => some (.dt (.bl (i == j)))
  | _, _ => none
def notBF (d e : D) : Option Out := match d, e with
  | .bl i, .bl j => some (.dt (.bl (!(i == j))))
  | _, _ => none
theorem o2_isB : Op2 K (fun x y H Q => ∃ i j, x = .bl i ∧ y = .bl j ∧ Q (.bl (i == j)) H) isBF := by
  intro F H Q x y d e o ex r1 r2 hf q
  unfold isBF at hf
  split at hf
  · cases hf; cases rb r1; cases rb r2
    exact ⟨_, _, rfl, rfl, q.bl ex⟩
  · cases hf
theorem o2_notB : Op2 K (fun x y H Q => ∃ i j, x = .bl i ∧ y = .bl j ∧ Q (.bl (!(i == j))) H) notBF := by
  intro F H Q x y d e o ex r1 r2 hf q
  unfold notBF at hf
  split at hf
  · cases hf; cases rb r1; cases rb r2
    exact ⟨_, _, rfl, rfl, q.bl ex⟩
  · cases hf
/-! bool(x), x a truth or a number -/
def boolF : List D → Option Out
  | [.bl i] => some (.dt (.bl i))
  | [.int i] => some (.dt (.bl (i != 0)))
  | _ => none
theorem co_bool : CallOk K (fun xs H Q => (∃ i, xs = [.int i] ∧ Q (.bl (i != 0)) H) ∨ ∃ k, xs = [.bl k] ∧ Q (.bl k) H) boolF := by
  intro F H Q vs ds o ex rd hf q
  unfold boolF at hf
  split at hf
  · cases hf
    obtain ⟨x, rfl, a1⟩ := reps_one rd
    cases rb a1
    exact .inr ⟨_, rfl, q.bl ex⟩
  · cases hf
    obtain ⟨x, rfl, a1⟩ := reps_one rd
    cases ri a1
    exact .inl ⟨_, rfl, q.bl ex⟩
  · cases hf
/-! ### C.m(..), m a static method -/
structure SMet (K : PySem.W.Frag) (C : Addr) (m : Str) (p g : Addr) : Prop where
  rd : ClX.CRead K C (.type "type")
  at_ : PySem.W.findCls K (.ref C) (.type "type") m = some (.get (.builtin "staticmethod.__get__") (.ref p) .none (.ref C))
  rc : ∃ rest, PySem.W.recIn K p "staticmethod" = some (.ref g :: rest)
  kp : PySem.W.keepIn K (.ref g) = true
theorem pe_smeth {CX : CXT} {k : Nat} {C p g : Addr} {m x : Str} {fd : FuncData} {ps : List Str} {sp : Sp} {t : TA} {px apos : Pos} {pl : Sem Bool} {E : XK} (hg : Gl X x) (hm : X.mg x = some (.ref C)) (c : SMet X.K C m p g) (F : FnOk X.prog X.w X.K X.mg X.base CX k g fd ps sp) (hr : Room k X.A) (hb : Binds X.K fd ps []) (hx : Passes CX X E) (ha : PA X (e :: es) t)
    (hdb : (x == ("__debug__" : Str)) = false := by decide) (hst : starEach (e :: es) X.env = (false, eval e X.env) :: starEach es X.env := by rfl) (hpl : (backTo pos (starEach es X.env)).any (·.1) = false := by rfl)
    (ht : eval (.Call (.Attribute (.Name x px) m apos) (e :: es) [] pos) X.env = (do
      let ov ← eval (.Name x px) X.env
      standAt apos.atName
      let (f, first) ← holding [ov] (getMethod ov m pl)
      callWith pos f first (backTo pos (starEach (e :: es) X.env)) (backToKw pos (keywordEach [] X.env))) := by rfl) :
    PE X (.Call (.Attribute (.Name x px) m apos) (e :: es) [] pos) (tCall sp [] E t) := by
  refine ⟨fun pins s σ H Q I h => ?_⟩
  obtain ⟨rest, hp⟩ := c.rc
  refine PySem.W.methodCall_KW (pl := pl) (ld_glob I hg hm ?_ hdb) ht
  refine PySem.W.method_cls I.kIn c.rd.ga (PySem.W.cls_bind I.kIn c.rd.rd c.at_ ?_)
  refine wpAny_call (PySem.W.sm_get (s := { s with toks := s.toks + 1 }) I.kIn hp (PySem.W.handed_on rfl ?_))
  have I1 : Inv X pins σ H { s with toks := s.toks + 1 } := I.tok _
  refine PySem.W.callWith_K (h₀ := X.base) (first := []) I.ok.mod.kin c.kp (thn (ha.run pos pins _ σ H _ I1 h) fun us s1 ⟨vs, H1, I2, r, q⟩ => ⟨I2.kIn, ?_⟩) hst hpl
  exact run_fn F hr hb .nil hx I2 r q
structure SmOk (P : Program) (w : World) (K : PySem.W.Frag) (mg : Str → Option Value) (base : Heap) (k : Nat) (C m : Str) (a : Nat) (f : FnD) : Prop where
  ex : ∃ p g fd ps, SMet K (He.ga K C) m p g ∧ FnOk P w K mg base (L2.CX P w) k g fd ps (spD K a f) ∧ Binds K fd ps [] ∧ mg C = some (.ref (He.ga K C))
theorem se_smeth {k : Nat} {C m : Str} {px apos : Pos} {ar : Nat} {f : FnD} {pl : Sem Bool} (h : SmOk X.prog X.w X.K X.mg X.base k C m ar f) (hr : Room k X.A) (g : SA X W (e :: es) n) (hg : Gl X C := by rfl)
    (hdb : (C == ("__debug__" : Str)) = false := by decide) (hst : starEach (e :: es) X.env = (false, eval e X.env) :: starEach es X.env := by rfl) (hpl : (backTo pos (starEach es X.env)).any (·.1) = false := by rfl)
    (ht : eval (.Call (.Attribute (.Name C px) m apos) (e :: es) [] pos) X.env = (do
      let ov ← eval (.Name C px) X.env
      standAt apos.atName
      let (f, first) ← holding [ov] (getMethod ov m pl)
      callWith pos f first (backTo pos (starEach (e :: es) X.env)) (backToKw pos (keywordEach [] X.env))) := by rfl) :
    SE X W (.Call (.Attribute (.Name C px) m apos) (e :: es) [] pos) (eCall0 ar f [] n) := by
  obtain ⟨p, ga, fd, ps, c, F, hb, hm⟩ := h.ex
  obtain ⟨ta, q, z⟩ := g
  exact ⟨_, pe_smeth hg hm c F hr hb passE0 q hdb hst hpl ht, SndX.bnd (t2 := fun vs σ H Q => spD X.K ar f (vs ++ []) H Q E0) rfl z fun us xs _ => snd_callM0 (fun _ => reps_nil) us xs⟩
end
/-! facts of the head -/
def smf (C m : Str) (K : PySem.W.Frag) : Addr := match PySem.W.recIn K (He.ma K (He.ga K C) m) "staticmethod" with
  | some (.ref f :: _) => f
  | _ => 0
def pSm (C m : Str) : Ft := fun K => (match PySem.W.findCls K (.ref (He.ga K C)) (.type "type") m with
    | some (.get (.builtin g) (.ref p) .none (.ref D)) => decide (g = "staticmethod.__get__") && (decide (p = He.ma K (He.ga K C) m) && decide (D = He.ga K C))
    | _ => false) && ((match PySem.W.recIn K (He.ma K (He.ga K C) m) "staticmethod" with
    | some (.ref _ :: _) => true
    | _ => false) && (PySem.W.readsIn K (He.ga K C) (.type "type") && He.eqO (PySem.W.specialIn K (.ref (He.ga K C)) "__getattribute__") (some (some (.builtin "type.__getattribute__")))))
theorem smet_of {K : PySem.W.Frag} {C m : Str} (c : pSm C m K = true) (kp : PySem.W.keepIn K (.ref (smf C m K)) = true) : SMet K (He.ga K C) m (He.ma K (He.ga K C) m) (smf C m K) := by
  obtain ⟨h1, h⟩ := He.ba c
  obtain ⟨h2, h⟩ := He.ba h
  obtain ⟨h3, h4⟩ := He.ba h
  refine ⟨⟨h3, He.eqO_ok h4⟩, ?_, ?_, kp⟩
  · clear h2
    split at h1
    · rename_i g p D e
      obtain ⟨k1, k⟩ := He.ba h1
      obtain ⟨k2, k3⟩ := He.ba k
      rw [e, of_decide_eq_true k1, of_decide_eq_true k2, of_decide_eq_true k3]
    · cases h1
  · unfold smf
    split at h2
    · rename_i f r e
      exact ⟨r, by rw [e]⟩
    · cases h2
end SL

set_option Elab.async false
set_option linter.all false
set_option maxRecDepth 100000
set_option maxHeartbeats 4000000
/-! S-layer 23: super and static methods as the walks and the heads take them -/
namespace SL
open PySem PySem.Spec PyProof.Rows L2
structure SupOk (P : Program) (w : World) (K : PySem.W.Frag) (mg : Str → Option Value) (base : Heap) (k : Nat) (C : Str) (a : Nat) (g : FnB) : Prop where
  ex : ∃ f2 fd2 ps2, SupF P K (He.ga K C) (He.ga K C) f2 ∧ FnOk P w K mg base (L2.CX P w) k f2 fd2 ps2 (spB K a g) ∧ Binds K fd2 ps2 []
  ms : mg "super" = none
section
variable {P : Program} {w : World} {K : PySem.W.Frag} {mg : Str → Option Value} {base : Heap} {x qual : Str} {params : Arguments} {body : List Stmt} {scope : Scope} {f D cc cda : Addr} {fd : FuncData} {N ps : List Str} {k : Nat}
theorem ssa_sup {W : WX} {A : Around} {outer : List Env} {s0 : Shared} {H0 : Hp} {EE : XK} {k2 ar : Nat} {g : FnB} {C : Str} {e : Expr} {es : List Expr} {n : Mo (List T)} {ag : Arg} {p0 p1 ap pos pos2 : Pos} {pl : Sem Bool}
    (F : FunS P K x qual params body scope (He.ga K C) f cc cda fd) (T : SupOk P w K mg base k2 C ar g) (hr : Room k2 (cxS (L2.CX P w) P w K mg base N qual scope f cda cc A outer s0 H0 EE).A)
    (ha : SA (cxS (L2.CX P w) P w K mg base N qual scope f cda cc A outer s0 H0 EE) W (e :: es) n)
    (hp : (params.posonlyargs ++ params.args).head? = some ag := by rfl) (har : N[0]? = some ag.arg := by rfl) (hloc : scope.names.lookup ag.arg = some .local := by rfl)
    (hsp : scope.names.lookup ("super" : Str) = some .globalImplicit := by rfl) (hcl : scope.names.lookup ("__class__" : Str) = some .free := by rfl)
    (hst : starEach (e :: es) (cxS (L2.CX P w) P w K mg base N qual scope f cda cc A outer s0 H0 EE).env = (false, eval e (cxS (L2.CX P w) P w K mg base N qual scope f cda cc A outer s0 H0 EE).env) :: starEach es (cxS (L2.CX P w) P w K mg base N qual scope f cda cc A outer s0 H0 EE).env := by rfl)
    (hpl : (backTo pos (starEach es (cxS (L2.CX P w) P w K mg base N qual scope f cda cc A outer s0 H0 EE).env)).any (·.1) = false := by rfl)
    (hev : eval (.Call (.Attribute (.Call (.Name "super" p0) [] [] p1) "__init__" ap) (e :: es) [] pos) (cxS (L2.CX P w) P w K mg base N qual scope f cda cc A outer s0 H0 EE).env = (do
      let ov ← attributeBase (.Call (.Name "super" p0) [] [] p1) "__init__" (cxS (L2.CX P w) P w K mg base N qual scope f cda cc A outer s0 H0 EE).env (eval (.Call (.Name "super" p0) [] [] p1) (cxS (L2.CX P w) P w K mg base N qual scope f cda cc A outer s0 H0 EE).env)
      standAt ap.atName
      let (g, first) ← holding [ov] (getMethod ov "__init__" pl)
      callWith pos g first (backTo pos (starEach (e :: es) (cxS (L2.CX P w) P w K mg base N qual scope f cda cc A outer s0 H0 EE).env)) []) := by rfl)
    (hsw : swapsWith (.Call (.Attribute (.Call (.Name "super" p0) [] [] p1) "__init__" ap) (e :: es) [] pos) none pos2.line (cxS (L2.CX P w) P w K mg base N qual scope f cda cc A outer s0 H0 EE).env = pure false := by rfl) :
    SSA (cxS (L2.CX P w) P w K mg base N qual scope f cda cc A outer s0 H0 EE) W body (.Expr (.Call (.Attribute (.Call (.Name "super" p0) [] [] p1) "__init__" ap) (e :: es) [] pos) pos2) (sSup C ar g n) := by
  obtain ⟨f2, fd2, ps2, T1, F2, b2⟩ := T.ex
  exact ssa_super F T1 F2 b2 hr T.ms ha hp har hloc hsp hcl hst hpl hev hsw
end
section
variable {P : Program} {w : World} {K : PySem.W.Frag} {mg : Str → Option Value} {base : Heap} {fd : FuncData} {ps : List Str} {k : Nat}
theorem supOk_of {C B : Str} {a : Nat} {g : FnB} (h : FnOk P w K mg base (L2.CX P w) k (He.ma K (He.ga K B) "__init__") fd ps (spB K a g)) (c : pSupF C B K = true) (ht : (P.main.scope.names.lookup ("super" : Str)).isSome = false) (hm : mg "super" = none) (b : Binds K fd ps []) :
    SupOk P w K mg base k C a g := ⟨⟨_, _, _, supF_of c ht, h, b⟩, hm⟩
theorem smOk_of {C m : Str} {a : Nat} {f : FnD} (h : FnOk P w K mg base (L2.CX P w) k (smf C m K) fd ps (spD K a f)) (c : pSm C m K = true) (kp : PySem.W.keepIn K (.ref (smf C m K)) = true) (gm : mg C = some (.ref (He.ga K C))) (b : Binds K fd ps []) :
    SmOk P w K mg base k C m a f := ⟨⟨_, _, _, _, smet_of c kp, h, b, gm⟩⟩
end
/-! a module's numbers and texts -/
structure GlK (K : PySem.W.Frag) (mg : Str → Option Value) (x : Str) (d : D) : Prop where
  ex : ∃ u v, mg x = some u ∧ RelV v u ∧ ∀ F, Rep K F d v
theorem se_globK {X : Cx} {W : WX} {pos : Pos} {x : Str} {d : D} (h : GlK X.K X.mg x d) (hg : Gl X x := by rfl) (hd : (x == ("__debug__" : Str)) = false := by decide) : SE X W (.Name x pos) (eC d) := se_glob ⟨h.ex⟩ hg hd
def pInt (x : Str) (i : Int) : Ft := (He.Fa.int x i).ok
def pStr (x z : Str) : Ft := (He.Fa.str x z).ok
theorem glk_int {K : PySem.W.Frag} {h : Heap} {mg : Str → Option Value} (X : K.In h) (G : h.Ns mainGlobals mg) {x : Str} {i : Int} (c : pInt x i K = true) : GlK K mg x (.int i) := by
  obtain ⟨t, e⟩ := He.int_ok X G c
  exact ⟨_, .int i, e, ⟨t, rfl⟩, fun _ => rep_int⟩
theorem glk_str {K : PySem.W.Frag} {h : Heap} {mg : Str → Option Value} (X : K.In h) (G : h.Ns mainGlobals mg) {x z : Str} (c : pStr x z K = true) : GlK K mg x (.str z) := by
  obtain ⟨t, e⟩ := He.str_ok X G c
  exact ⟨_, .str z, e, ⟨t, rfl⟩, fun _ => rep_str⟩
/-! the Hook that holds the statics, too -/
def asS (g : Addr → Option Obj) (n : Nat) : List Addr := cStatics :: He.asD g n
def obsSG (n : Nat) (fa : List Ft) (fn : List Df) (g : Addr → Option Obj) : He.AlD := obsP fa fn (He.frG g (asS g n))
def hookS (n : Nat) (fa : List Ft) (fn : List Df) : PySem.W.Hook where
  α := He.AlD
  obs := fun s => obsSG n fa fn s.heap.get?
  val := fun _ => valP fn
  says := fun _ h => ∃ K : PySem.W.Frag, K.In h ∧ SaysP fa fn K
  of := fun _ _ e => ⟨_, He.frG_in, e⟩
  keeps := fun _ _ _ ⟨K, hK, c⟩ k => ⟨K, PySem.W.Frag.In.keeps hK k, c⟩
theorem obsSG_eq {n : Nat} {fa : List Ft} {fn : List Df} {g : Addr → Option Obj} {s : Shared} (h : ∀ a, g a = s.heap.get? a) : obsSG n fa fn g = (hookS n fa fn).obs s := by
  have e : g = s.heap.get? := funext h
  rw [e] <;> rfl
end SL

set_option Elab.async false
set_option linter.all false
set_option maxRecDepth 100000
set_option maxHeartbeats 4000000
/-! S-layer 24: tuple * int, int at most 1 -/
namespace SL
open PySem PySem.Spec PyProof.Rows L2
theorem tuple_mul1 (l : Addr) (items : Array Value) (n : Nat) (sl : Array (Option Value)) (dd : Option Addr) (u : Tok) :
    Meets (Builtin.«tuple.__mul__» ⟨[.ref l, .int 1 u], []⟩) (fun _ R s => s.heap.get? l = some { cls := .type "tuple", dict := dd, data := .seq items n, slots := sl } ∧ R (.ok (.ret (Value.ref l))) s) :=
  .of_wp fun prog w A R s h => by
    obtain ⟨hp, g, d, tk, os⟩ := s
    obtain ⟨hl, h⟩ := h
    have f1 := AutoSeq1.idx_int
    wp_walk using wpAny_loadPart' hl
    exact ⟨_, rfl, h⟩
theorem tuple_mul0 (l : Addr) (items : Array Value) (n : Nat) (sl : Array (Option Value)) (dd : Option Addr) (x : Int) (u : Tok) (c0 : (decide (x < -(2 ^ 63)) || decide (x ≥ 2 ^ 63)) = false) (c1 : (items.isEmpty || x == 1) = false) (c2 : (decide (x ≤ 0) || items.isEmpty) = true) :
    Meets (Builtin.«tuple.__mul__» ⟨[.ref l, .int x u], []⟩) (fun _ R s => s.heap.get? l = some { cls := .type "tuple", dict := dd, data := .seq items n, slots := sl } ∧
      R (.ok (.ret (Value.ref s.heap.objs.size))) { s with heap := s.heap.push { cls := Value.type "tuple", data := Data.seq #[] }, toks := s.toks }) :=
  .of_wp fun prog w A R s h => by
    obtain ⟨hp, g, d, tk, os⟩ := s
    obtain ⟨hl, h⟩ := h
    have f1 := AutoSeq1.idx_int
    wp_walk using wpAny_loadPart' hl
    repeat (first
      | (refine wpAny_ite_false (decide_eq_false (by rw [c0]; exact Bool.false_ne_true)) ?_; wp_walk using wpAny_loadPart' hl)
      | (refine wpAny_ite_false (decide_eq_false (by rw [c1]; exact Bool.false_ne_true)) ?_; wp_walk using wpAny_loadPart' hl)
      | (refine wpAny_ite_true (decide_eq_true (by rw [c2])) ?_; wp_walk using wpAny_loadPart' hl))
    exact ⟨_, rfl, h⟩
/-- tuple * int, the int at most 1 -/
def rRep0 (K : PySem.W.Frag) : R2 := fun x y H Q => ∃ l k xs, x = .ref l ∧ y = .int k ∧ SqT K H l xs ∧ xs ≠ [] ∧ -100000 ≤ k ∧ k ≤ 1 ∧ (k = 1 → Q (.ref l) H) ∧ (k ≤ 0 → ∀ p, H p = none → Q (.ref p) (upd H p (.tup [])))
theorem op_rep0 {X : Cx} : OpR X (binaryOp .Mult) (rRep0 X.K) := by
  intro pins s σ H x y v u Q I rx ry h
  obtain ⟨l, k, xs, rfl, rfl, hT, hne, h1, h2, q1, q0⟩ := h
  cases rx
  obtain ⟨t, rfl⟩ := ry
  obtain ⟨its, r, ⟨⟨cls, dd, data, sl⟩, ho, hc, n, hd⟩, hs⟩ := I.tuple hT
  simp only at hc hd
  subst hc hd
  have hle : its.length = xs.length := r.length.symm
  have hn : its ≠ [] := fun e => hne (by
    rw [e] at hle
    exact List.eq_nil_of_length_eq_zero hle.symm)
  have hi : its.toArray.isEmpty = false := by
    cases its with
    | nil => exact absurd rfl hn
    | cons a b => rfl
  by_cases e1 : k = 1
  · subst e1
    refine wpAny_binaryOp_repeat_ref (T := "tuple") (U := "int") (by decide) ⟨_, ho, rfl⟩ (fun s' => typeIs_int s' 1 t) noFill_tuple_mul F.fills_int_mul F.slot_int_rmul repeat_tuple F.slot_int_index.lookup
      (call_meets F.slot_int_rmul (typeIs_int s 1 t) F.entry_int_rmul (F.args_int_rmul_2 _ _) (int_rmul_tuple 1 t l its.toArray n dd sl)
        ⟨ho, rfl, ⟨_, ho, rfl⟩, call_meets F.slot_tuple_mul ⟨_, ho, rfl⟩ F.entry_tuple_mul (F.args_tuple_mul_2 _ _) (tuple_mul1 l its.toArray n sl dd t) ⟨ho, ?_⟩⟩)
    exact ⟨.ref l, H, I, rfl, q1 rfl⟩
  · have c0 : (decide (k < -(2 ^ 63)) || decide (k ≥ 2 ^ 63)) = false := by
      rw [decide_eq_false (by omega), decide_eq_false (by omega)] <;> rfl
    have c1 : (its.toArray.isEmpty || k == 1) = false := by
      rw [hi, Bool.false_or]
      exact beq_eq_false_iff_ne.mpr e1
    have c2 : (decide (k ≤ 0) || its.toArray.isEmpty) = true := by
      rw [decide_eq_true (by omega), Bool.true_or]
    refine wpAny_binaryOp_repeat_ref (T := "tuple") (U := "int") (by decide) ⟨_, ho, rfl⟩ (fun s' => typeIs_int s' k t) noFill_tuple_mul F.fills_int_mul F.slot_int_rmul repeat_tuple F.slot_int_index.lookup
      (call_meets F.slot_int_rmul (typeIs_int s k t) F.entry_int_rmul (F.args_int_rmul_2 _ _) (int_rmul_tuple k t l its.toArray n dd sl)
        ⟨ho, rfl, ⟨_, ho, rfl⟩, call_meets F.slot_tuple_mul ⟨_, ho, rfl⟩ F.entry_tuple_mul (F.args_tuple_mul_2 _ _) (tuple_mul0 l its.toArray n sl dd k t c0 c1 c2) ⟨ho, ?_⟩⟩)
    refine ⟨.ref s.heap.objs.size, _, I.laid (t' := s.toks) (o := .tup []) (fun b ob q => Heap.get?_push_of_some _ q) (Nat.le_refl _) ?_, rfl, q0 (by omega) _ (I.hok.fresh (Nat.le_refl _))⟩
    exact ⟨by simp, _, .nil, IsTup.new _ _⟩
/-- tuple * int, the int at least 2 -/
def rRepW (K : PySem.W.Frag) : R2 := fun x y H Q => ∃ l k xs, x = .ref l ∧ y = .int k ∧ SqT K H l xs ∧ xs ≠ [] ∧ 2 ≤ k ∧ k ≤ 100000 ∧ k.toNat * xs.length ≤ 100000 ∧ ∀ p, H p = none → Q (.ref p) (upd H p (.tup (List.replicate k.toNat xs).flatten))
theorem op_repW {X : Cx} : OpR X (binaryOp .Mult) (rRepW X.K) := by
  intro pins s σ H x y v u Q I rx ry h
  obtain ⟨l, k, xs, rfl, rfl, hT, hne, h1, h2, h3, q⟩ := h
  cases rx
  obtain ⟨t, rfl⟩ := ry
  obtain ⟨its, r, ⟨⟨cls, dd, data, sl⟩, ho, hc, n, hd⟩, hs⟩ := I.tuple hT
  simp only at hc hd
  subst hc hd
  have hle : its.length = xs.length := r.length.symm
  have hn : its ≠ [] := fun e => hne (by
    rw [e] at hle
    exact List.eq_nil_of_length_eq_zero hle.symm)
  have hi : its.toArray.isEmpty = false := by
    cases its with
    | nil => exact absurd rfl hn
    | cons a b => rfl
  have c0 : (decide (k < -(2 ^ 63)) || decide (k ≥ 2 ^ 63)) = false := by
    rw [decide_eq_false (by omega), decide_eq_false (by omega)] <;> rfl
  have c1 : (its.toArray.isEmpty || k == 1) = false := by
    rw [hi, Bool.false_or]
    exact beq_eq_false_iff_ne.mpr (by omega)
  have c2 : (decide (k ≤ 0) || its.toArray.isEmpty) = false := by
    rw [decide_eq_false (by omega), hi]; rfl
  have e1 : (its.toArray.size : Int) * k = ((k.toNat * xs.length : Nat) : Int) := by
    have ek : k = (k.toNat : Int) := by omega
    rw [List.size_toArray, hle, Int.natCast_mul, Int.mul_comm]
    congr 1
  have tm : ∀ m : Nat, m ≤ 100000 → Builtin.Tuple.tupleTooMany (m : Int) = false := fun m hm => by
    unfold Builtin.Tuple.tupleTooMany
    simp [sizeLine]
    omega
  have hf : (List.foldl (fun x1 x2 => x1 ++ x2) #[] (List.replicate k.toNat its.toArray)) = (List.replicate k.toNat its).flatten.toArray := L2.size_rep its k.toNat
  have hsz : (List.foldl (fun x1 x2 => x1 ++ x2) #[] (List.replicate k.toNat its.toArray)).size ≤ sizeLine := by
    rw [hf, List.size_toArray, PyProof.Rows.lm_len_rep_flat, hle]
    exact Nat.le_trans h3 (by decide)
  refine wpAny_binaryOp_repeat_ref (T := "tuple") (U := "int") (by decide) ⟨_, ho, rfl⟩ (fun s' => typeIs_int s' k t) noFill_tuple_mul F.fills_int_mul F.slot_int_rmul repeat_tuple F.slot_int_index.lookup
    (call_meets F.slot_int_rmul (typeIs_int s k t) F.entry_int_rmul (F.args_int_rmul_2 _ _) (int_rmul_tuple k t l its.toArray n dd sl)
      ⟨ho, rfl, ⟨_, ho, rfl⟩, call_meets F.slot_tuple_mul ⟨_, ho, rfl⟩ F.entry_tuple_mul (F.args_tuple_mul_2 _ _) (tuple_mulW l its.toArray n dd sl k t c0 c1 c2 (by rw [e1]; omega) (by rw [e1]; exact tm _ h3) hsz) ⟨ho, ?_⟩⟩)
  rw [hf]
  refine ⟨.ref s.heap.objs.size, _, I.laid (t' := s.toks) (o := .tup (List.replicate k.toNat xs).flatten) (fun b ob q => Heap.get?_push_of_some _ q) (Nat.le_refl _) ?_, rfl, q _ (I.hok.fresh (Nat.le_refl _))⟩
  exact ⟨by rw [PyProof.Rows.lm_len_rep_flat]; exact Nat.le_trans h3 (by decide), _, r.rep k.toNat, IsTup.new _ _⟩
/-- a tuple's values, told so many times -/
def repF : D → D → Option Out
  | .tup xs, .int k => if -100000 ≤ k ∧ k ≤ 100000 ∧ k.toNat * xs.length ≤ 100000 ∧ xs ≠ [] then some (.dt (.tup (List.replicate k.toNat xs).flatten)) else none
  | _, _ => none
theorem o2_rep {K : PySem.W.Frag} : Op2 K (fun x y H Q => rRepW K x y H Q ∨ rRep0 K x y H Q) repF := by
  intro F H Q x y d e o ex r1 r2 hf q
  unfold repF at hf
  split at hf
  · split at hf
    · next xs k h =>
      cases hf
      cases ri r2
      have r1' := r1
      unfold Rep at r1
      obtain ⟨a, vs, rfl, h1, h2⟩ := r1
      have hvs : vs ≠ [] := fun hv => by
        subst hv
        have := h2.len
        simp at this
        exact h.2.2.2 (List.eq_nil_of_length_eq_zero this.symm)
      by_cases k2 : 2 ≤ k
      · exact .inl ⟨a, _, vs, rfl, rfl, ex.t h1, hvs, k2, h.2.1, by rw [h2.len]; exact h.2.2.1, fun p hp => q.tup ex (Reps.flat _ h2) hp⟩
      · refine .inr ⟨a, _, vs, rfl, rfl, ex.t h1, hvs, h.1, by omega, fun e => ?_, fun e p hp => ?_⟩
        · subst e
          have e1 : (List.replicate (1 : Int).toNat xs).flatten = xs := by simp
          rw [e1] at q
          exact q.val ex r1'
        · have e0 : k.toNat = 0 := by omega
          rw [e0] at q
          exact q.tup ex reps_nil hp
    · cases hf
  · cases hf
theorem op_mulT {X : Cx} : OpR X (binaryOp .Mult) (fun x y H Q => rRepW X.K x y H Q ∨ rRep0 X.K x y H Q) := OpR.or op_repW op_rep0
end SL

set_option Elab.async false
set_option linter.all false
set_option maxRecDepth 100000
set_option maxHeartbeats 4000000
/-! S-layer 25: bool(x), x an instance whose class has __bool__ -/
namespace SL
open PySem L2 PySem.Calls PyProof.Rows
section
variable {prog : Program} {w : World} {A : Around} {E : Value → Shared → Prop} {s : Shared}
theorem bool_new_in (x : Value) : MeetsIn prog w (Builtin.«bool.__new__» ⟨[.type "bool", x], []⟩) (fun A R s => wpAny (model prog w) A.in1 (truthy x) (fun b s' => R (.ok (.ret (.bool b))) s') (fun e s' => R (.error e) s') s) :=
  .of_wp fun A R s h => by
    have f1 := PySem.F.conv_sub_bool
    have h2 := wpAny_mono h (fun b s' (hb : R (.ok (.ret (.bool b))) s') => wpAny_pure (M := model prog w) (A := A.in1) (E := fun e s' => R (.error e) s') (Q := fun fin s' => ∃ v, fin = Fin.done (.ret v) ∧ R (.ok (.ret v)) s') (a := Fin.done (.ret (.bool b))) ⟨_, rfl, hb⟩) fun _ _ e => e
    repeat (any_goals (first | assumption | (with_reducible refine wpAny_mono h (fun b s' hb => ?_) fun _ _ e => e) | wp_step))
    all_goals exact ⟨_, rfl, hb⟩
theorem call_bool_in {x : Value} {Q : Value → Shared → Prop} (h : wpAny (model prog w) A.in1.in1 (truthy x) (fun b s' => Q (.bool b) s') E s) : wpAny (model prog w) A (call (.type "bool") [x]) Q E s :=
  callType_newIn PySem.F.called_bool PySem.F.newNe_bool (PySem.F.typeCall_bool_1 x) (PySem.F.newCall_bool_1 x) (fun obj => PySem.F.args_object_init_2 obj x) PySem.F.entry_bool_new (bool_new_in x)
    (wpAny_mono h (fun b s' hb => ⟨rfl, hb⟩) fun _ _ e => e)
end
section
variable {X : Cx} {k : Nat} {C m : Str} {f : FnD}
theorem call_boolO (h : MetOk X.prog X.w X.K X.mg X.base k C "__bool__" 1 [] f) (hr : Room (k + 2) X.A) :
    CallR X (.type "bool") (fun xs H Q => ∃ a dx fs, xs = [.ref a] ∧ H a = some (.ins (He.ga X.K C) dx fs) ∧ spD X.K 1 f ([.ref a] ++ []) H (gEq Q) E0) := by
  intro pins s σ H xs us Q I r hq
  obtain ⟨a, dx, fs, rfl, ha, hsp⟩ := hq
  obtain ⟨u, rfl, rx⟩ := vals1 r
  cases rx
  obtain ⟨fa, fd, ps, dvs, ds, F, _, hm, hb, hd, hd2⟩ := h.ex
  obtain ⟨mA, J, _⟩ := ins_get I.hok ha
  obtain ⟨od, J, _⟩ := J.look
  obtain ⟨mm, hF⟩ := I.fr
  obtain rfl := dvs_nil hd2
  refine call_bool_in (PySem.W.truthy_K hF I.ok.mod.kin J hm.at_ hm.fn ?_)
  refine wpAny_call (codeAny_mono (F.raw hb hd X.A.in1.in1 X.stack s H [Value.ref a] [V.ref a] _ E0 hr.in1.in1 I.env0.in1.in1 (.cons (show RelV (V.ref a) (Value.ref a) from rfl) .nil) hsp) fun r s' hq => ?_)
  cases r with
  | error e => exact passE0 pins σ H s e s' I hq
  | ok fl =>
    cases fl with
    | ret u =>
      obtain ⟨z, H', I', rz, b, ez, q⟩ := I.after hq
      subst ez
      cases rz
      exact ⟨.bl b, H', I', rfl, q⟩
    | next => exact False.elim hq
    | brk => exact False.elim hq
    | cont => exact False.elim hq
end
theorem call_boolU {X : Cx} {k : Nat} {C : Str} {f : FnD} (h : MetOk X.prog X.w X.K X.mg X.base k C "__bool__" 1 [] f) (hr : Room (k + 2) X.A) :
    CallR X (.type "bool") (fun xs H Q => (∃ a dx fs, xs = [.ref a] ∧ H a = some (.ins (He.ga X.K C) dx fs) ∧ spD X.K 1 f ([.ref a] ++ []) H (gEq Q) E0) ∨ ((∃ i, xs = [.int i] ∧ Q (.bl (i != 0)) H) ∨ ∃ k, xs = [.bl k] ∧ Q (.bl k) H)) :=
  fun pins s σ H xs us Q I r q => q.elim (call_boolO h hr pins s σ H xs us Q I r) (call_bool1 pins s σ H xs us Q I r)
/-- bool(x), x an instance of C or what boolF takes -/
def boolO (C : Str) (f : FnD) : List D → Option Out
  | [.obj C' ns fs] => if C' = C then (match f [.obj C' ns fs] with
    | some (.ok (.dat (.bl b))) => some (.dt (.bl b))
    | _ => none) else none
  | ds => boolF ds
theorem co_boolO {K : PySem.W.Frag} {C : Str} {f : FnD} : CallOk K (fun xs H Q => (∃ a dx fs, xs = [.ref a] ∧ H a = some (.ins (He.ga K C) dx fs) ∧ spD K 1 f ([.ref a] ++ []) H (gEq Q) E0) ∨ ((∃ i, xs = [.int i] ∧ Q (.bl (i != 0)) H) ∨ ∃ k, xs = [.bl k] ∧ Q (.bl k) H)) (boolO C f) := by
  intro F H Q vs ds o ex rd hf q
  unfold boolO at hf
  split at hf
  · next C' ns fs =>
    by_cases c : C' = C
    · rw [if_pos c] at hf
      subst c
      obtain ⟨x, rfl, a1⟩ := reps_one rd
      have a2 := a1
      unfold Rep at a2
      obtain ⟨a, dx, vs, rfl, h3, h4⟩ := a2
      refine .inl ⟨a, dx, _, rfl, ex _ _ h3, ?_⟩
      cases hq : f [.obj C' ns fs] with
      | none => rw [hq] at hf; cases hf
      | some z =>
        rw [hq] at hf
        cases z with
        | exc x => cases hf
        | ok t =>
          cases t with
          | dat d =>
            cases d with
            | bl b =>
              cases hf
              refine ⟨F, _, _, ex, reps_cons a1 reps_nil, rfl, hq, rfl, fun v F' H' e1 e2 e3 e4 hold _ => ?_⟩
              have hv : v = .bl b := rb (show Rep K F' (.bl b) v from hold)
              subst hv
              exact ⟨b, rfl, q (.bl b) F' H' e1 e2 e3 e4 rep_bl⟩
            | _ => cases hf
          | lst _ _ => cases hf
          | ins _ _ _ _ => cases hf
    · rw [if_neg c] at hf; cases hf
  · exact .inr (co_bool F H Q vs _ o ex rd hf q)
end SL
namespace SL
open PySem L2 PySem.Calls PyProof.Rows
/-! isinstance(x, C), C with classes below it -/
def isSF (C : Str) (ys : List Str) (d : D) : Option Out := match d with
  | .obj C' _ _ => if C' = C then some (.dt (.bl true)) else if ys.contains C' = true then some (.dt (.bl true)) else none
  | d => (tyN d).map fun _ => .dt (.bl false)
structure SubK (K : PySem.W.Frag) (C : Str) (ys : List Str) : Prop where
  c : ∀ C' ∈ ys, IsC K C'
  y : ∀ C' ∈ ys, PySem.W.kitOne K (.ref (He.ga K C')) (.ref (He.ga K C)) = some true
section
variable {K : PySem.W.Frag}
theorem isS_ok {C : Str} {ys : List Str} {F H : Hp} {Q : VK} {d : D} {v : V} {o : Out} (c : IsC K C) (su : SubK K C ys) (ex : Ex F H) (r : Rep K F d v) (hf : isSF C ys d = some o) (q : OutOk K F H Q o) : ∃ t r, TyX K H v t ∧ PySem.W.kitOne K t (.ref (He.ga K C)) = some r ∧ Q (.bl r) H := by
  cases d with
  | obj C' ns fs =>
    by_cases h : C' = C
    · exact isO_ok c ex r (by unfold isSF at hf; unfold isOF; dsimp only at hf ⊢; rw [if_pos h] at hf ⊢; exact hf) q
    · unfold isSF at hf
      dsimp only at hf
      rw [if_neg h] at hf
      split at hf
      · next h2 =>
        cases hf
        have hm : C' ∈ ys := by simpa using h2
        exact ⟨_, true, obj_ty (su.c C' hm) ex r, su.y C' hm, q.bl ex⟩
      · cases hf
  | _ => exact isO_ok c ex r hf q
section
variable {X : Cx} {W : WX} {a : Expr} {ma : Mo T} {pos : Pos}
theorem se_isS {C : Str} {ys : List Str} {p p2 : Pos} (c : IsC X.K C) (su : SubK X.K C ys) (ha : SE X W a ma) (hm : X.mg "isinstance" = none) (hC : X.mg C = some (.ref (He.ga X.K C))) (hg : Gl X "isinstance" := by rfl) (hg2 : Gl X C := by rfl)
    (hd : (C == ("__debug__" : Str)) = false := by decide) (he : starEach [a, .Name C p2] X.env = (false, eval a X.env) :: starEach [.Name C p2] X.env := by rfl) (he2 : starEach [.Name C p2] X.env = (false, eval (.Name C p2) X.env) :: starEach [] X.env := by rfl)
    (hpl : (backTo pos (starEach [.Name C p2] X.env)).any (·.1) = false := by rfl) : SE X W (.Call (.Name "isinstance" p) [a, .Name C p2] [] pos) (una (isSF C ys) ma) := by
  obtain ⟨te, q1, z1⟩ := ha
  refine ⟨_, pe_callB call_isi hg hm PyProof.Rows.boot_isinstance (pa_cons q1 (pa_cons (pe_glob (v := .ref (He.ga X.K C)) hg2 hC rfl hd) pa_nil he2) he) (by decide) (by decide) he hpl, ?_⟩
  refine SndX.bnd (t2 := fun x σ H Q => rIsi X.K [x, .ref (He.ga X.K C)] H Q) rfl z1 fun t x _ => ?_
  refine snd_out (f := one (isSF C ys)) [t] [x] fun F H σ Q ds o ex rd hf q => ?_
  obtain ⟨d, rfl, r1⟩ := reps1 rd
  obtain ⟨t, r, h1, h2, h3⟩ := isS_ok c su ex r1 hf q
  exact ⟨x, .ref (He.ga X.K C), t, .ref (He.ga X.K C), r, rfl, .own _, h1, h2, h3⟩
end
end
def pSub (C' C : Str) : Ft := fun K => eqB (PySem.W.kitOne K (.ref (He.ga K C')) (.ref (He.ga K C))) (some true)
theorem sub_of {K : PySem.W.Frag} {C' C : Str} (c : pSub C' C K = true) : PySem.W.kitOne K (.ref (He.ga K C')) (.ref (He.ga K C)) = some true := eqB_ok c
end SL

set_option Elab.async false
set_option linter.all false
set_option maxRecDepth 100000
set_option maxHeartbeats 4000000
/-! S-layer 26: the head's run in pieces (each piece runs the top anew, and keeps less) -/
namespace SL
open PySem PySem.Spec PySem.W PySem.Calls PyProof.Rows L2
theorem run_join {α β γ δ : Type} {o : Option α} {f : α → β} {g : α → γ} {h : α → δ} {x : β} {y : γ} {z : δ} (p : o.map (fun s => (f s, g s)) = some (x, y)) (q : o.map h = some z) : o.map (fun s => (f s, g s, h s)) = some (x, y, z) := by
  cases o with
  | none => cases q
  | some s =>
    simp only [Option.map_some, Option.some.injEq, Prod.mk.injEq] at p q ⊢
    exact ⟨p.1, p.2, q⟩
theorem obsP_join {fa : List Ft} {fn : List Df} {K : PySem.W.Frag} (a m : Nat) (p : obsP (fa.take a) (fn.take m) K = valP (fn.take m)) (q : obsP (fa.drop a) (fn.drop m) K = valP (fn.drop m)) : obsP fa fn K = valP fn := by
  unfold obsP valP at *
  simp only [Prod.mk.injEq, Bool.and_eq_true] at p q ⊢
  refine ⟨?_, ?_⟩
  · constructor
    · rw [← List.take_append_drop a fa, List.all_append, p.1.1, q.1.1]; rfl
    · rw [← List.take_append_drop m fn, List.all_append, p.1.2, q.1.2]; rfl
  · rw [← List.take_append_drop m fn, List.map_append, List.map_append, p.2, q.2]
/-! the crawl with a number's bits as the seen ones: each address once -/
def crawlStep (g : Addr → Option Obj) (go : Nat → List Addr → List Addr) (m : Nat) (a : Addr) (as : List Addr) : List Addr := match Nat.testBit m a with
  | true => go m as
  | false => a :: HandSHeadRun.frNat (m ||| (1 <<< a)) fun m2 => go m2 (match g a with
    | some o => He.refsD o ++ as
    | none => as)
def crawl (g : Addr → Option Obj) : Nat → Nat → List Addr → List Addr
  | 0, _, _ => []
  | n + 1, m, as => match as with
    | [] => []
    | a :: r => crawlStep g (crawl g n) m a r
def obsWG (n : Nat) (fa : List Ft) (fn : List Df) (g : Addr → Option Obj) : He.AlD := obsP fa fn (He.frG g (crawl g n 0 [cStatics, mainGlobals]))
def hookW (n : Nat) (fa : List Ft) (fn : List Df) : PySem.W.Hook where
  α := He.AlD
  obs := fun s => obsWG n fa fn s.heap.get?
  val := fun _ => valP fn
  says := fun _ h => ∃ K : PySem.W.Frag, K.In h ∧ SaysP fa fn K
  of := fun _ _ e => ⟨_, He.frG_in, e⟩
  keeps := fun _ _ _ ⟨K, hK, c⟩ k => ⟨K, PySem.W.Frag.In.keeps hK k, c⟩
theorem obsWG_eq {n : Nat} {fa : List Ft} {fn : List Df} {g : Addr → Option Obj} {s : Shared} (h : ∀ a, g a = s.heap.get? a) : obsWG n fa fn g = (hookW n fa fn).obs s := by
  have e : g = s.heap.get? := funext h
  rw [e] <;> rfl
end SL

set_option Elab.async false
set_option linter.all false
set_option maxRecDepth 100000
set_option maxHeartbeats 4000000
/-! S-layer 27: super().__init__(e) in the __init__ of an own class over ValueError -/
namespace SL
open PySem L2 PyProof.Rows
section
variable {X : Cx} {pins : List (Addr × Obj)} {σ : L2.St} {H : Hp} {s : Shared}
/-- the wrapper that super() gave is called: nothing of the instance is told -/
theorem mw_call {A : Around} {E : Value → Shared → Prop} {u a C : Addr} {us : List Value} {Q : Value → Shared → Prop} (hu : s.heap.get? u = some (PySem.W.kxs_mw "ValueError.__init__" a)) (T : OexC X.K C) (I : Inv X pins σ H s)
    (e : H a = some (exo a C none)) (hl : us.length ≤ sizeLine) (h : ∀ s', Inv X pins σ H s' → Q .none s') : wpAny (model X.prog X.w) A (call (.ref u) us) Q E s := by
  obtain ⟨nm, q, N, bs, bm, sn, sub, ab, col, dd, k0, k1, k2, k3, k5, hC, hbm⟩ := T.cls
  obtain ⟨t1, ho⟩ := exo_at I.hok e
  obtain ⟨hp, g, d, t, os⟩ := s
  refine wpAny_call (codeAny_of_tree ?_)
  show wpAny _ A.in1 (callAny (.ref u) ⟨us, []⟩) _ _ _
  simp only [callAny]
  refine wpAny_bind (wpAny_load hu ?_)
  simp only [PySem.W.kxs_mw, show (Value.type "method-wrapper" == Value.type "method" || Value.type "method-wrapper" == Value.type "builtin_function_or_method" || Value.type "method-wrapper" == Value.type "method-wrapper") = true by decide, if_true]
  refine PySem.W.KFB.if_so (by decide) ?_
  refine wpAny_bind (PySem.W.check_bound_init F.excBase_ValueError.toExcCallFacts (I.kIn _ _ hC) ho rfl ?_)
  refine wpAny_bind (wpAny_pure (wpAny_pure ?_))
  refine ⟨plainId_quiet F.excBase_ValueError.init.plain _, codeAny_builtin F.excBase_ValueError.initEntry ?_⟩
  rw [Around.under_plainId F.excBase_ValueError.init.plain _]
  wp_walk
  have hx : ∀ h' : Heap, (∀ b o, b ≠ a → hp.get? b = some o → h'.get? b = some o) → (∃ t2 : Addr, h'.get? a = some ({ cls := .ref C, dict := none, data := .fields #[.ref t2, .none, .none, .none, .bool false, .none] } : Obj)) → Q .none ⟨h', g, d, t, os⟩ := fun h' k ⟨t2, hx⟩ => by
    have J := I.write (t' := t) (x := a) (e := a) (o := exo a C none) (by rw [e]; exact True.intro) (.inl rfl) k ⟨_, hx⟩ (exo_ok hx)
    have eu : upd H a (exo a C none) = H := by
      funext b
      by_cases hb : b = a
      · rw [hb, upd_same, e]
      · rw [upd_ne hb]
    rw [eu] at J
    exact h _ J
  refine hx _ (fun b o hb ho => ?_) ⟨hp.objs.size, ?_⟩
  · rw [Heap.get?_update_other _ _ (Ne.symm hb)]
    exact Heap.get?_push_of_some _ ho
  · rw [Heap.get?_update_self _ (Heap.get?_push_of_some _ ho) rfl]
    rfl
end
/-- what of the text is asked: behind D, among the classes of C, comes ValueError's -/
structure SupX (P : Program) (K : PySem.W.Frag) (C D : Addr) : Prop where
  top : (P.main.scope.names.lookup ("super" : Str)).isSome = false
  sub : PySem.W.mroIn K C (.ref D) = some true
  op : PySem.W.nsIn K cStatics "thirdparty.any" = some none
  sup : PySem.W.ks_superIn K C D "__init__" = some (some (.builtin "ValueError.__init__"))
  ve : PySem.W.subIn K (.ref C) (.type "ValueError") = some true
  ox : OexC K C
def tSupX (P : Program) (K : PySem.W.Frag) (D : Addr) (t : TA) : TS := fun Dn σ H => ∃ a C, σ[0]? = some (some (.ref a)) ∧ H a = some (exo a C none) ∧ SupX P K C D ∧ t σ H fun vs H1 => vs.length ≤ 1000 ∧ H1 a = some (exo a C none) ∧ Dn.nx σ H1
section
variable {P : Program} {w : World} {K : PySem.W.Frag} {mg : Str → Option Value} {base : Heap} {x qual : Str} {params : Arguments} {body : List Stmt} {scope : Scope} {f D cc cda : Addr} {fd : FuncData} {N ps : List Str} {k : Nat}
theorem psa_superX {CX : CXT} {A : Around} {outer : List Env} {s0 : Shared} {H0 : Hp} {E0 : XK} {e : Expr} {es : List Expr} {t : TA} {ar : Arg} {p0 p1 ap pos pos2 : Pos} {pl : Sem Bool}
    (F : FunS P K x qual params body scope D f cc cda fd) (hp : (params.posonlyargs ++ params.args).head? = some ar) (har : N[0]? = some ar.arg) (hloc : scope.names.lookup ar.arg = some .local)
    (hsp : scope.names.lookup ("super" : Str) = some .globalImplicit) (hcl : scope.names.lookup ("__class__" : Str) = some .free) (hms : mg "super" = none)
    (ha : PA (cxS CX P w K mg base N qual scope f cda cc A outer s0 H0 E0) (e :: es) t)
    (hst : starEach (e :: es) (cxS CX P w K mg base N qual scope f cda cc A outer s0 H0 E0).env = (false, eval e (cxS CX P w K mg base N qual scope f cda cc A outer s0 H0 E0).env) :: starEach es (cxS CX P w K mg base N qual scope f cda cc A outer s0 H0 E0).env := by rfl)
    (hpl : (backTo pos (starEach es (cxS CX P w K mg base N qual scope f cda cc A outer s0 H0 E0).env)).any (·.1) = false := by rfl)
    (hev : eval (.Call (.Attribute (.Call (.Name "super" p0) [] [] p1) "__init__" ap) (e :: es) [] pos) (cxS CX P w K mg base N qual scope f cda cc A outer s0 H0 E0).env = (do
      let ov ← attributeBase (.Call (.Name "super" p0) [] [] p1) "__init__" (cxS CX P w K mg base N qual scope f cda cc A outer s0 H0 E0).env (eval (.Call (.Name "super" p0) [] [] p1) (cxS CX P w K mg base N qual scope f cda cc A outer s0 H0 E0).env)
      standAt ap.atName
      let (g, first) ← holding [ov] (getMethod ov "__init__" pl)
      callWith pos g first (backTo pos (starEach (e :: es) (cxS CX P w K mg base N qual scope f cda cc A outer s0 H0 E0).env)) []) := by rfl)
    (hsw : swapsWith (.Call (.Attribute (.Call (.Name "super" p0) [] [] p1) "__init__" ap) (e :: es) [] pos) none pos2.line (cxS CX P w K mg base N qual scope f cda cc A outer s0 H0 E0).env = pure false := by rfl) :
    PSAx (cxS CX P w K mg base N qual scope f cda cc A outer s0 H0 E0) body (.Expr (.Call (.Attribute (.Call (.Name "super" p0) [] [] p1) "__init__" ap) (e :: es) [] pos) pos2) (tSupX P K D t) := by
  intro pins s σ H D' I ⟨a, C, h0, hH, T, q⟩
  have KX : K.In s.heap := I.kIn
  obtain ⟨kV, doc, pm, an, ct, oc, od, osl, rfl, lk⟩ := F.fdE
  obtain ⟨ccl, cdd, vs, ccs, file, tf, hcda, hvs, hfile⟩ := F.file
  obtain ⟨cl, cld, csl, hcell⟩ := F.cell
  obtain ⟨cdD, hD⟩ := F.cls
  obtain ⟨mb, hb1, hb2⟩ := I.mod.blt
  obtain ⟨m, hn, hlook⟩ := I.loc
  obtain ⟨u, ru, lu⟩ := hlook 0 ar.arg (.ref a) har h0 (.inl hloc)
  obtain rfl : u = Value.ref a := ru
  have hmu : m ar.arg = some (.ref a) := by
    rcases lu with ⟨_, hmu⟩ | ⟨hk, _⟩
    · exact hmu
    · have hk : scope.names.lookup ar.arg = some .cell ∨ scope.names.lookup ar.arg = some .free := hk
      rw [hloc] at hk
      rcases hk with hk | hk <;> cases hk
  obtain ⟨oD, hD1, hD2⟩ : ∃ oD, s.heap.get? D = some oD ∧ oD.data = .cls cdD := by
    unfold PySem.W.clsIn at hD
    split at hD
    · rename_i c d cd' sl ho
      cases hD
      exact ⟨_, KX _ _ ho, rfl⟩
    · cases hD
  obtain ⟨t1, hget⟩ := exo_at I.hok hH
  have J : PySem.W.InstAt s.heap a { cls := .ref C, dict := none, data := .fields #[.ref t1, .none, .none, .none, .bool false, .none] } C none := ⟨hget, rfl, rfl, trivial⟩
  cases hc : PySem.W.clsIn K C with
  | none => have := T.sup; unfold PySem.W.ks_superIn at this; rw [hc] at this; cases this
  | some cd =>
  have hm := T.sup
  unfold PySem.W.ks_superIn at hm
  rw [hc] at hm
  have hne : a ≠ C := PySem.W.ks_ne KX J hc
  refine PySem.ks_wpAt_Expr_any (PySem.ks_wpAt_MethodCall (pl := pl) ?_ hev) I.quiet hsw
  refine PySem.ks_wpAt_super_base hsp hcl (by decide) rfl (KX _ _ lk) rfl hp rfl (KX _ _ hcda) rfl hvs hfile T.top ?_
  refine PySem.W.ks_loadName_global I.ok.kind hsp (Calls.loadGlobal_builtin (by rw [I.ok.glob]; exact I.mod.glob.keeps I.bk) hms (by rw [I.ok.blt]; exact hb1.keeps I.bk) ((hb2 "super" (by decide)).trans (by first | rfl | decide +kernel)) ⟨rfl, ?_⟩)
  refine wpAny_loadName_free I.ok.kind hcl rfl ⟨_, KX _ _ hcell, rfl⟩ ?_
  refine wpAny_loadName_local I.ok.kind hloc hn hmu ?_
  refine PySem.ks_wpAny_isType_cls hD1 hD2 ⟨rfl, ?_⟩
  refine PySem.ks_wpAny_call_super hD1 hD2 J.at_ J.cls (fun c e => ?_) (PySem.W.looks_mroIn KX T.sub) (fun h' e k => ?_)
  · have := J.no
    unfold PySem.W.notCls at this
    rw [e] at this
    exact Bool.noConfusion this
  · have I1 := ClX.pin_new (t' := s.toks) I k (Nat.le_refl _) e (fun v z => by cases z)
    have hI : PySem.W.Looks (model P w) h' (isInstance (.ref a) (.type "ValueError")) true := by
      obtain ⟨t2, hg2⟩ := exo_at I1.hok hH
      have J2 : PySem.W.InstAt h' a { cls := .ref C, dict := none, data := .fields #[.ref t2, .none, .none, .none, .bool false, .none] } C none := ⟨hg2, rfl, rfl, trivial⟩
      exact J2.type.andThen (PySem.W.looks_subIn I1.kIn T.ve)
    refine PySem.W.kxs_getMethod PySem.W.kxs_ValueError (l₀ := cd.mro) (ClX.pin_at I1) (PySem.W.looks_opaque I1.kIn T.op) ?_ rfl I1.kIn hm hI hne (by decide) ?_
    · exact fun A Q E s k q => wpAny_bind ((PySem.W.looks_clsIn I1.kIn hc) A _ E s k (wpAny_pure q))
    · have I2 := ClX.pin_new (o := PySem.W.kxs_mw "ValueError.__init__" a) (a := h'.objs.size) (h' := h'.push (PySem.W.kxs_mw "ValueError.__init__" a)) (t' := s.toks + 1) I1 (fun _ _ z => Heap.get?_push_of_some _ z) (Nat.le_refl _) (Heap.get?_push_size h' rfl) (fun v z => nomatch z)
      rw [hst]
      refine PySem.W.kxs_callWith (i := "ValueError.__init__") (x := a) (by show (false || (backTo pos (starEach es _)).any (·.1)) = false; rw [hpl]; rfl) ?_
      refine Calls.evalArgs_plain ?_
      show wpAny _ _ (spliced (backTo pos ((false, eval _ (cxS CX P w K mg base N qual scope f cda cc A outer s0 H0 E0).env) :: starEach es (cxS CX P w K mg base N qual scope f cda cc A outer s0 H0 E0).env))) _ _ _
      rw [← hst]
      refine thn (ha.run pos _ _ σ H _ I2 q) fun us s3 ⟨vs, H2, I3, rv, hlen, hH2, q2⟩ => ⟨ClX.pin_at I3, ?_⟩
      have hlu : us.length ≤ sizeLine := by
        rw [← Paired.length rv, sizeLine_eq]; omega
      exact mw_call (ClX.pin_at I3) T.ox I3 hH2 hlu fun s4 I4 => ⟨σ, H2, ClX.unpin (ClX.unpin I4), q2⟩
end
end SL

set_option Elab.async false
set_option linter.all false
set_option maxRecDepth 100000
set_option maxHeartbeats 4000000
/-! S-layer 28: the __init__ of an own class over ValueError: super().__init__(text); self.f = x -/
namespace SL
open PySem L2 PyProof.Rows
/-- a text that is told of the second argument -/
def TxtOk (X : Cx) (e : Expr) (ok : Hp → V → Prop) : Prop := ∃ te, PE X e te ∧ ∀ (σ : L2.St) (H : Hp) (Q : VK) (v : V), σ[1]? = some (some v) → ok H v → (∀ z, Q (.str z) H) → te σ H Q
theorem txt_str {X : Cx} {x : Str} {j : Nat} {pos : Pos} {ok : Hp → V → Prop} : TxtOk X (.Constant (.str x) j pos) ok := ⟨_, pe_str, fun _ _ _ _ _ _ h => h _⟩
def spX (P : Program) (K : PySem.W.Frag) (D : Addr) (f : Str) (ok : Hp → V → Prop) : Sp := fun vs H Q _ => ∃ a C v, vs = [.ref a, v] ∧ ok H v ∧ H a = some (exo a C none) ∧ SupX P K C D ∧ PySem.W.findIn K (.ref C) f = some none ∧
  ∀ dx, H dx = none → dx ≠ a → Q .non (upd (upd H dx (exd dx [(f, v)])) a (exo a C (some dx)))
section
variable {P : Program} {w : World} {K : PySem.W.Frag} {mg : Str → Option Value} {base : Heap} {x qual : Str} {params : Arguments} {scope : Scope} {fI D cc cda : Addr} {fd : FuncData} {N : List Str} {k : Nat}
theorem fnX {CX : CXT} {s y f : Str} {e : Expr} {ok : Hp → V → Prop} {ag : Arg} {p0 p1 ap pos pos2 q0 q1 q2 q3 : Pos} {pl : Sem Bool}
    (F : FunS P K x qual params [.Expr (.Call (.Attribute (.Call (.Name "super" p0) [] [] p1) "__init__" ap) [e] [] pos) pos2, .Assign [.Attribute (.Name s q0) f q1] (.Name y q2) q3] scope D fI cc cda fd) (S : FnScopeS [s, y] [s, y] scope) (hms : mg "super" = none)
    (htx : ∀ (A : Around) (outer : List Env) (s0 : Shared) (H : Hp) (E : XK), Room k (cxS CX P w K mg base [s, y] qual scope fI cda cc A outer s0 H E).A → TxtOk (cxS CX P w K mg base [s, y] qual scope fI cda cc A outer s0 H E) e ok)
    (hp : (params.posonlyargs ++ params.args).head? = some ag := by rfl) (har : ag.arg = s := by rfl) (hls : scope.names.lookup s = some .local := by rfl) (hly : scope.names.lookup y = some .local := by rfl)
    (hsp : scope.names.lookup ("super" : Str) = some .globalImplicit := by rfl) (hcl : scope.names.lookup ("__class__" : Str) = some .free := by rfl)
    (hds : (s == ("__debug__" : Str)) = false := by decide) (hcs : (s == ("__classdict__" : Str)) = false := by decide) (hdy : (y == ("__debug__" : Str)) = false := by decide) (hcy : (y == ("__classdict__" : Str)) = false := by decide)
    (hst : ∀ (A : Around) (outer : List Env) (s0 : Shared) (H : Hp) (E : XK), starEach [e] (cxS CX P w K mg base [s, y] qual scope fI cda cc A outer s0 H E).env = (false, eval e (cxS CX P w K mg base [s, y] qual scope fI cda cc A outer s0 H E).env) :: starEach [] (cxS CX P w K mg base [s, y] qual scope fI cda cc A outer s0 H E).env := by intros; rfl)
    (hev : ∀ (A : Around) (outer : List Env) (s0 : Shared) (H : Hp) (E : XK), eval (.Call (.Attribute (.Call (.Name "super" p0) [] [] p1) "__init__" ap) [e] [] pos) (cxS CX P w K mg base [s, y] qual scope fI cda cc A outer s0 H E).env = (do
      let ov ← attributeBase (.Call (.Name "super" p0) [] [] p1) "__init__" (cxS CX P w K mg base [s, y] qual scope fI cda cc A outer s0 H E).env (eval (.Call (.Name "super" p0) [] [] p1) (cxS CX P w K mg base [s, y] qual scope fI cda cc A outer s0 H E).env)
      standAt ap.atName
      let (g, first) ← holding [ov] (getMethod ov "__init__" pl)
      callWith pos g first (backTo pos (starEach [e] (cxS CX P w K mg base [s, y] qual scope fI cda cc A outer s0 H E).env)) []) := by intros; rfl)
    (hsw : ∀ (A : Around) (outer : List Env) (s0 : Shared) (H : Hp) (E : XK), swapsWith (.Call (.Attribute (.Call (.Name "super" p0) [] [] p1) "__init__" ap) [e] [] pos) none pos2.line (cxS CX P w K mg base [s, y] qual scope fI cda cc A outer s0 H E).env = pure false := by intros; rfl)
    (hs2 : ∀ (A : Around) (outer : List Env) (s0 : Shared) (H : Hp) (E : XK), swapsWith (.Name y q2) (some (.Attribute (.Name s q0) f q1)) q3.line (cxS CX P w K mg base [s, y] qual scope fI cda cc A outer s0 H E).env = pure false := by intros; rfl) :
    FnOk P w K mg base CX (k + 1) fI fd [s, y] (spX P K D f ok) := by
  refine F.ok S (fun vs H Q E h => ?_) (fun A outer s0 H vs Q E hr h => ?_)
  · obtain ⟨a, C, v, rfl, _⟩ := h
    rfl
  · obtain ⟨a, C, v, rfl, hok, hH, T, hno, q⟩ := h
    obtain ⟨te, pe, hte⟩ := htx A outer s0 H E hr
    have v0 : Vis (cxS CX P w K mg base [s, y] qual scope fI cda cc A outer s0 H E).env.scope s := .inl hls
    have v1 : Vis (cxS CX P w K mg base [s, y] qual scope fI cda cc A outer s0 H E).env.scope y := .inl hly
    refine ⟨tSeq (tSupX P K D (tCons te tNil)) (tOst K f (tVar 0) (tVar 1)),
      PSsAx.cons (psa_superX F hp (by show [s, y][0]? = some ag.arg; rw [har]; rfl) (by rw [har]; exact hls) hsp hcl hms (pa_cons pe pa_nil (hst A outer s0 H E)) (hst A outer s0 H E) rfl (hev A outer s0 H E) (hsw A outer s0 H E))
        (PSsAx.of (pss_one (ps_ost (pe_var (i := 0) rfl v0 hds hcs) (pe_var (i := 1) rfl v1 hdy hcy) (hs2 A outer s0 H E)))), ?_⟩
    have h0 : (L2.start [s, y] [V.ref a, v])[0]? = some (some (V.ref a)) := rfl
    have h1 : (L2.start [s, y] [V.ref a, v])[1]? = some (some v) := rfl
    refine ⟨a, C, h0, hH, T, hte _ _ _ v h1 hok fun z => ⟨by simp, hH, ?_⟩⟩
    exact ⟨v, h1, .ref a, h0, a, C, rfl, T.ox, hno, .inl ⟨hH, fun dx n ne => q dx n ne⟩⟩
end
end SL

set_option Elab.async false
set_option linter.all false
set_option maxRecDepth 100000
set_option maxHeartbeats 4000000
/-! S-layer 29: raise C(e), C an own class over ValueError -/
namespace SL
open PySem L2
/-- an own class that is made by the __init__ of its base and bears the field f -/
structure ExcOk (P : Program) (w : World) (K : PySem.W.Frag) (mg : Str → Option Value) (base : Heap) (k : Nat) (C f : Str) (ok : D → Bool) : Prop where
  ex : ∃ (D0 fI : Addr) (fd : FuncData) (ps : List Str) (okv : Hp → V → Prop), FnOk P w K mg base (L2.CX P w) k fI fd ps (spX P K D0 f okv) ∧ Binds K fd ps [] ∧ SupX P K (He.ga K C) D0 ∧ PySem.W.findIn K (.ref (He.ga K C)) f = some none ∧
    PySem.W.findIn K (.ref (He.ga K C)) "__init__" = some (some (.ref fI)) ∧ PySem.W.typeIn K (.ref fI) = some (.type "function") ∧ mg C = some (.ref (He.ga K C)) ∧ ∀ F H d v, Rep K F d v → Ex F H → ok d = true → okv H v
def rsM (C f : Str) (ok : D → Bool) (ts : List T) : So := fun ρ => match frzs ts with
  | some [d] => if ok d = true then some (.exc ⟨C, [f], [d]⟩, ρ) else none
  | _ => none
def sRaise (C f : Str) (ok : D → Bool) (n : Mo (List T)) : So := toS n (rsM C f ok)
theorem mk_heap {H : Hp} {a dx : Addr} {o1 o2 o3 o4 : HO} (ha : H a = none) (ne : dx ≠ a) : upd (del (upd (upd (upd H a o1) dx o2) a o3) a) dx o4 = upd H dx o4 := by
  funext b
  by_cases h : b = dx
  · subst h; rw [upd_same, upd_same]
  · rw [upd_ne h, upd_ne h]
    by_cases h2 : b = a
    · subst h2; rw [del_same, ha]
    · rw [del_ne h2, upd_ne h2, upd_ne h, upd_ne h2]
section
variable {X : Cx} {W : WX} {e : Expr} {es : List Expr} {pos pos2 p : Pos} {n : Mo (List T)} {C f : Str} {ok : D → Bool} {k : Nat}
theorem ss_raise (h : ExcOk X.prog X.w X.K X.mg X.base k C f ok) (hr : Room (k + 1) X.A) (hc : X.calm = true) (tk : Takes X W) (g : SA X W (e :: es) n) (hg : Gl X C := by rfl)
    (hdb : (C == ("__debug__" : Str)) = false := by decide) (he : starEach (e :: es) X.env = (false, eval e X.env) :: starEach es X.env := by rfl) (hpl : (backTo pos (starEach es X.env)).any (·.1) = false := by rfl) :
    SS X W (.Raise (some (.Call (.Name C p) (e :: es) [] pos)) none pos2) (sRaise C f ok n) := by
  obtain ⟨D0, fI, fd, ps, okv, F1, hb, TS, hno, iC, tI, hm, hok⟩ := h.ex
  obtain ⟨ta, q, z⟩ := g
  refine ⟨_, ps_raise hc tk (pmk_oex TS.ox iC tI F1 hr hb .nil passL hg hm q hdb he hpl), ?_⟩
  refine SndX.toS (tk := fun vs D σ H1 => vs.length ≤ 1000 ∧ ∀ a, H1 a = none → spX X.prog X.K D0 f okv (.ref a :: (vs ++ [])) (upd H1 a (exo a (He.ga X.K C) none))
    (fun v H2 => v = .non ∧ ∃ (d : Addr) (fs : List (Str × V)), H2 a = some (exo a (He.ga X.K C) (some d)) ∧ H2 d = some (exd d fs) ∧ H1 d = none ∧ W (.ref (He.ga X.K C)) (some d) σ (upd (del H2 a) d (.xd fs))) (fun _ _ _ => False)) z fun ts vs hlen G F H ρ σ us ws D fl ρ' j hl ht hm2 kk => ?_
  unfold rsM at hm2
  cases hf : frzs ts with
  | none => rw [hf] at hm2; cases hm2
  | some ds =>
    rw [hf] at hm2
    unfold frzs at hf
    by_cases hb2 : ts.any T.brw = true
    · rw [if_pos hb2] at hf; cases hf
    · rw [if_neg hb2] at hf
      cases hf
      rw [← List.append_assoc, ← List.append_assoc] at j
      obtain ⟨F2, x1, j1, r1⟩ := j.freezes (by simp [hl, ht]) (by simpa using hb2)
      have j2 := j1.pre (by simp [hl, ht])
      cases hds : ts.map T.fz with
      | nil => rw [hds] at hm2; cases hm2
      | cons d r =>
        rw [hds] at hm2 r1
        cases r with
        | cons _ _ => cases hm2
        | nil =>
          dsimp only at hm2
          by_cases ho : ok d = true
          · rw [if_pos ho] at hm2
            cases hm2
            unfold Reps at r1
            obtain ⟨v, r, rfl, r2, r3⟩ := r1
            unfold Reps at r3
            subst r3
            refine ⟨by simp, fun a ha => ⟨a, He.ga X.K C, v, rfl, hok F2 _ d v r2 (j2.ex.trans (Ex.new ha)) ho, upd_same, TS, hno, fun dx hdx hne => ⟨rfl, dx, [(f, v)], upd_same, ?_, ?_, ?_⟩⟩⟩
            · rw [upd_ne hne, upd_same]
            · rw [upd_ne hne] at hdx; exact hdx
            · have hd2 : H dx = none := by rw [upd_ne hne] at hdx; exact hdx
              rw [mk_heap ha hne]
              refine kk _ _ σ (upd F2 dx (.xd [(f, v)])) (upd H dx (.xd [(f, v)])) (x1.trans (Ex.new (j2.ex.back hd2))) hl rfl (j2.frz hd2) ⟨rfl, rfl, fun _ => ⟨dx, [v], rfl, upd_same, ?_⟩⟩
              exact Reps.mono (Ex.new (j2.ex.back hd2)) [d] [v] (reps_cons r2 reps_nil)
          · rw [if_neg ho] at hm2; cases hm2
end
end SL

set_option Elab.async false
set_option linter.all false
set_option maxRecDepth 100000
set_option maxHeartbeats 4000000
/-! S-layer 30: methods and makings that let exceptions pass -/
namespace SL
open PySem L2
theorem takesD {P : Program} {w : World} {K : PySem.W.Frag} {mg : Str → Option Value} {base : Heap} {N : List Str} {qual : Str} {scope : Scope} {f : Addr} {cdv : Value} {A : Around} {outer : List Env} {s : Shared} {H : Hp} {E : XK} :
    Takes (cxOf (L2.CX P w) P w K mg base N qual scope f cdv A outer s H E) (fun c d _ H => E c d H) := takes_of rfl rfl rfl rfl
theorem takesS {P : Program} {w : World} {K : PySem.W.Frag} {mg : Str → Option Value} {base : Heap} {N : List Str} {qual : Str} {scope : Scope} {f cda cc : Addr} {A : Around} {outer : List Env} {s : Shared} {H : Hp} {E : XK} :
    Takes (cxS (L2.CX P w) P w K mg base N qual scope f cda cc A outer s H E) (fun c d _ H => E c d H) := takes_of rfl rfl rfl rfl
section
variable {X : Cx} {W : WX} {e o : Expr} {es : List Expr} {ma : Mo T} {pos p apos : Pos} {n : Mo (List T)} {K : PySem.W.Frag}
def tMethE (C : Addr) (m : Str) (sp : Sp) (dvs : List V) (E : L2.St → XK) (ta : TE) (t : TA) : TE := fun σ H Q => ta σ H fun x H1 => ∃ a dx fs, x = .ref a ∧ H1 a = some (.ins C dx fs) ∧ fs.lookup m = none ∧
  t σ H1 fun vs H2 => sp (x :: (vs ++ dvs)) H2 Q (E σ)
theorem pe_methE {CX : CXT} {k : Nat} {C f : Addr} {m : Str} {fd : FuncData} {ps : List Str} {sp : Sp} {dvs : List V} {ds : List Value} {E : L2.St → XK} {ta : TE} {t : TA} {pl : Sem Bool} (he : PE X o ta) (c : Cls X.K C) (hm : Meth X.K C m f) (F : FnOk X.prog X.w X.K X.mg X.base CX k f fd ps sp) (hr : Room k X.A) (hb : Binds X.K fd ps ds) (hd : Vals dvs ds) (hx : ∀ σ, PassesAt CX X σ (E σ)) (ha : PA X (e :: es) t)
    (hst : starEach (e :: es) X.env = (false, eval e X.env) :: starEach es X.env := by rfl) (hpl : (backTo pos (starEach es X.env)).any (·.1) = false := by rfl)
    (ht : eval (.Call (.Attribute o m apos) (e :: es) [] pos) X.env = (do
      let ov ← eval o X.env
      standAt apos.atName
      let (f, first) ← holding [ov] (getMethod ov m pl)
      callWith pos f first (backTo pos (starEach (e :: es) X.env)) (backToKw pos (keywordEach [] X.env))) := by rfl) :
    PE X (.Call (.Attribute o m apos) (e :: es) [] pos) (tMethE C m sp dvs E ta t) := by
  refine ⟨fun pins s σ H Q I h => ?_⟩
  refine PySem.W.methodCall_KW (pl := pl) (thn (he.run pins s σ H _ I h) fun u s1 ⟨x, H1, I1, rx, a, dx, fs, ex, ea, l, q⟩ => ?_) ht
  subst ex
  obtain rfl : u = Value.ref a := rx
  refine getmeth_ok I1 ea c hm l ?_
  refine PySem.W.callWith_K (first := [.ref a]) (h₀ := X.base) I.ok.mod.kin hm.kp (thn (ha.run pos pins s1 σ H1 _ I1 q) fun us s2 ⟨vs, H2, I2, r, q2⟩ => ⟨I2.kIn, ?_⟩) hst hpl
  exact run_fnSD (us := .ref a :: us) (vs := .ref a :: vs) F hr hb hd (hx σ) I2 (.cons rfl r) q2
def eMetX (C m : Str) (a : Nat) (f : FnD) (dds : List D) (mo : Mo T) (n : Mo (List T)) : Mo T := bnd mo fun t => bnd (chk C m t) fun t => bnd n fun ts => callM a f dds (t :: ts)
theorem se_metX {k : Nat} {C m : Str} {ar : Nat} {dds : List D} {f : FnD} {pl : Sem Bool} (h : MetOk X.prog X.w X.K X.mg X.base k C m ar dds f) (hr : Room k X.A) (tk : Takes X W) (ho : SE X W o ma) (g : SA X W (e :: es) n)
    (hst : starEach (e :: es) X.env = (false, eval e X.env) :: starEach es X.env := by rfl) (hpl : (backTo pos (starEach es X.env)).any (·.1) = false := by rfl)
    (ht : eval (.Call (.Attribute o m apos) (e :: es) [] pos) X.env = (do
      let ov ← eval o X.env
      standAt apos.atName
      let (f, first) ← holding [ov] (getMethod ov m pl)
      callWith pos f first (backTo pos (starEach (e :: es) X.env)) (backToKw pos (keywordEach [] X.env))) := by rfl) :
    SE X W (.Call (.Attribute o m apos) (e :: es) [] pos) (eMetX C m ar f dds ma n) := by
  obtain ⟨fa, fd, ps, dvs, ds, F, hc, hm, hb, hd, hr2⟩ := h.ex
  obtain ⟨to, q1, z1⟩ := ho
  obtain ⟨ta, q, z⟩ := g
  refine ⟨_, pe_methE q1 hc hm F hr hb hd (fun σ => passAt tk σ) q hst hpl ht, ?_⟩
  refine SndX.bnd (t2 := fun x σ H Q => ∃ a dx fs, x = .ref a ∧ H a = some (.ins (He.ga X.K C) dx fs) ∧ fs.lookup m = none ∧ ta σ H fun vs H2 => spD X.K ar f (x :: (vs ++ dvs)) H2 Q (WE W σ)) rfl z1 fun u x _ => ?_
  refine SndX.pre (t1 := fun σ H Q => ∃ a dx fs, x = .ref a ∧ H a = some (.ins (He.ga X.K C) dx fs) ∧ fs.lookup m = none ∧ Q x H) (t2 := fun y σ H Q => ta σ H fun vs H2 => spD X.K ar f (x :: (vs ++ dvs)) H2 Q (WE W σ)) rfl snd_chk fun u y hy => ?_
  subst hy
  refine SndX.bnd (L0 := [some u]) (M0 := [some y]) (t2 := fun vs σ H2 Q => spD X.K ar f (y :: (vs ++ dvs)) H2 Q (WE W σ)) rfl z fun us xs _ => ?_
  exact snd_callM hr2 (u :: us) (y :: xs)
/-! making -/
theorem run_makeE {CX : CXT} {k : Nat} {C f : Addr} {fd : FuncData} {ps : List Str} {sp : Sp} {dvs : List V} {ds : List Value} {E : L2.St → XK} {pins : List (Addr × Obj)} {σ : L2.St} {H : Hp} {s : Shared} {Q : VK} {us : List Value} {vs : List V} (M : Mk X.K C f) (F : FnOk X.prog X.w X.K X.mg X.base CX k f fd ps sp) (hr : Room (k + 1) X.A) (hb : Binds X.K fd ps ds) (hd : Vals dvs ds)
    (hx : PassesAt CX X σ (E σ)) (I : Inv X pins σ H s) (r : Vals vs us)
    (h : ∀ x dx, H x = none → H dx = none → dx ≠ x → sp (.ref x :: (vs ++ dvs)) (upd (upd H dx (.own x)) x (.ins C dx [])) (fun v H2 => v = .non ∧ Q (.ref x) H2) (E σ)) :
    wpAny (model X.prog X.w) X.A (call (.ref C) us) (EP X pins σ Q) X.xe s := by
  have hq := h (s.heap.objs.size + 1) s.heap.objs.size (I.hok.fresh (Nat.le_succ _)) (I.hok.fresh (Nat.le_refl _)) (Nat.ne_of_lt (Nat.lt_succ_self _))
  have I2 := Inv.made (C := C) I
  have r2 : Vals (V.ref (s.heap.objs.size + 1) :: (vs ++ dvs)) (Value.ref (s.heap.objs.size + 1) :: (us ++ ds)) := .cons rfl (r.append hd)
  have hl : (Value.ref (s.heap.objs.size + 1) :: us ++ ds).length = ps.length := by
    have e := r2.length
    rw [F.len _ _ _ _ hq] at e
    exact e.symm
  refine wpAny_call (make_map (f := f) I.kIn M.makes M.init (beq_iff_eq.mp M.fn) (codeAny_mono (F.run _ X.stack _ _ ⟨Value.ref (s.heap.objs.size + 1) :: us, []⟩ (Value.ref (s.heap.objs.size + 1) :: (us ++ ds)) _ _ (E σ) (hr.make C us [])
    (I2.env0.make C us []) (hb _ (Value.ref (s.heap.objs.size + 1) :: us) I2.kIn hl) r2 hq) fun r s' hq' => ?_))
  cases r with
  | error e => exact hx pins _ _ e s' I2 hq'
  | ok fl =>
    cases fl with
    | ret u =>
      obtain ⟨v, H', I3, rv, ev, q3⟩ := I2.after hq'
      subst ev
      exact ⟨rv, ⟨V.ref (s.heap.objs.size + 1), H', I3, rfl, q3⟩⟩
    | next => exact False.elim hq'
    | brk => exact False.elim hq'
    | cont => exact False.elim hq'
def tMakeE (C : Addr) (sp : Sp) (dvs : List V) (E : L2.St → XK) (t : TA) : TE := fun σ H Q => t σ H fun vs H1 => ∀ x dx, H1 x = none → H1 dx = none → dx ≠ x →
  sp (.ref x :: (vs ++ dvs)) (upd (upd H1 dx (.own x)) x (.ins C dx [])) (fun v H2 => v = .non ∧ Q (.ref x) H2) (E σ)
theorem pe_makeE {CX : CXT} {k : Nat} {C f : Addr} {x : Str} {fd : FuncData} {ps : List Str} {sp : Sp} {dvs : List V} {ds : List Value} {E : L2.St → XK} {t : TA} (M : Mk X.K C f) (F : FnOk X.prog X.w X.K X.mg X.base CX k f fd ps sp) (hr : Room (k + 1) X.A) (hg : Gl X x) (hm : X.mg x = some (.ref C)) (hb : Binds X.K fd ps ds) (hd : Vals dvs ds) (hx : ∀ σ, PassesAt CX X σ (E σ))
    (ha : PA X (e :: es) t) (hdb : (x == ("__debug__" : Str)) = false := by decide) (he : starEach (e :: es) X.env = (false, eval e X.env) :: starEach es X.env := by rfl) (hpl : (backTo pos (starEach es X.env)).any (·.1) = false := by rfl) :
    PE X (.Call (.Name x p) (e :: es) [] pos) (tMakeE C sp dvs E t) := by
  refine ⟨fun pins s σ H Q I h => ?_⟩
  refine wpAny_Call_Name_kw (ld_glob I hg hm ?_ hdb)
  refine PySem.W.callWith_K (h₀ := X.base) I.ok.mod.kin M.kp (thn (ha.run pos pins s σ H _ I h) fun us s1 ⟨vs, H1, I1, r, q⟩ => ⟨I1.kIn, ?_⟩) he hpl
  exact run_makeE M F hr hb hd (hx σ) I1 r q
def makMX (C : Str) (a : Nat) (f : FnB) (dds : List D) (ts : List T) : Mo T := match frzs ts with
  | none => nop
  | some ds => if (ds ++ dds).length = a then (match f (.ins true C [] []) (ds ++ dds) with
    | some (.ok .non, .ins true C' ns fs) => ret (.ins false C' ns fs)
    | some (.exc x, .ins true _ _ _) => fun ρ => some (.exc x, ρ)
    | _ => nop) else nop
theorem snd_makMX {C : Str} {k : Nat} {f : FnB} {dds : List D} {dvs : List V} (hd : ∀ F, Reps K F dds dvs) (ts : List T) (vs : List V) :
    SndX K W (ts.map some) (vs.map some) plT pmT (fun _ _ => True) (fun σ H Q => ∀ x dx, H x = none → H dx = none → dx ≠ x →
      spB K k f (.ref x :: (vs ++ dvs)) (upd (upd H dx (.own x)) x (.ins (He.ga K C) dx [])) (fun v H2 => v = .non ∧ Q (.ref x) H2) (WE W σ)) (makMX C k f dds ts) := by
  intro G F H ρ σ us ws Q r ρ' j hl ht hm kk x dx hx hdx hne
  unfold makMX at hm
  cases hf : frzs ts with
  | none => rw [hf] at hm; cases hm
  | some ds =>
    rw [hf] at hm
    simp only at hm
    by_cases ha : (ds ++ dds).length = k
    · rw [if_pos ha] at hm
      unfold frzs at hf
      by_cases hb : ts.any T.brw = true
      · rw [if_pos hb] at hf; cases hf
      · rw [if_neg hb] at hf
        cases hf
        rw [← List.append_assoc, ← List.append_assoc] at j
        obtain ⟨F1, x1, j1, r1⟩ := j.freezes (by simp [hl, ht]) (by simpa using hb)
        have j2 := j1.pre (by simp [hl, ht])
        cases hq : f (.ins true C [] []) (ts.map T.fz ++ dds) with
        | none => rw [hq] at hm; cases hm
        | some o =>
          obtain ⟨o1, t'⟩ := o
          rw [hq] at hm
          cases o1 with
          | exc xc =>
            cases t' with
            | dat d => cases hm
            | lst b xs => cases hm
            | ins b C' ns fs =>
              cases b with
              | false => cases hm
              | true =>
                cases hm
                have j3 : J K G (upd F1 dx (.own x)) (upd H dx (.own x)) (ρ ++ us) (σ ++ ws) := j2.frz hdx
                have hx2 : (upd H dx (.own x)) x = none := by rw [upd_ne (Ne.symm hne)]; exact hx
                have fx : (upd F1 dx (.own x)) x = none := j3.ex.back hx2
                have j4 := j3.heap (o := .ins (He.ga K C) dx []) hx2
                have eF : Ex F1 (upd F1 dx (.own x)) := Ex.new (j2.ex.back hdx)
                refine ⟨upd F1 dx (.own x), .ins true C [] [], .ref x, _, _, .exc xc, .ins true C' ns fs, rfl, j4.ex, ⟨x, dx, [], rfl, fx, by rw [upd_same]; rfl, rfl, reps_nil⟩, rfl, rfl, Reps.mono eF _ _ (r1.app (hd F1)), ha, hq, ?_⟩
                intro c dd F' H' e1 e2 e3 e4 hold rx
                refine kk c dd F' H' (x1.trans (eF.trans e1)) hl (j3.grow e1 (fun b o hbo => ?_) e3 (fun b o hbo => ?_)) rx
                · have hbx : b ≠ x := by rintro rfl; rw [hx2] at hbo; cases hbo
                  exact e2 b o (by rw [upd_ne hbx]; exact hbo) (by rintro z; cases z; exact hbx rfl)
                · rcases e4 b o hbo with z | z
                  · exact Or.inl z
                  · have hbx : b ≠ x := by rintro rfl; rw [upd_same] at z; cases z
                    rw [upd_ne hbx] at z
                    exact Or.inr z
          | ok d =>
            cases d with
            | non =>
              cases t' with
              | dat d => cases hm
              | lst b xs => cases hm
              | ins b C' ns fs =>
                cases b with
                | false => cases hm
                | true =>
                  cases hm
                  -- the dict cell is known data, the instance is new
                  have j3 : J K G (upd F1 dx (.own x)) (upd H dx (.own x)) (ρ ++ us) (σ ++ ws) := j2.frz hdx
                  have hx2 : (upd H dx (.own x)) x = none := by rw [upd_ne (Ne.symm hne)]; exact hx
                  have fx : (upd F1 dx (.own x)) x = none := j3.ex.back hx2
                  have j4 := j3.heap (o := .ins (He.ga K C) dx []) hx2
                  have eF : Ex F1 (upd F1 dx (.own x)) := Ex.new (j2.ex.back hdx)
                  refine ⟨upd F1 dx (.own x), .ins true C [] [], .ref x, _, _, .ok .non, .ins true C' ns fs, rfl, j4.ex, ⟨x, dx, [], rfl, fx, by rw [upd_same]; rfl, rfl, reps_nil⟩, rfl, rfl, Reps.mono eF _ _ (r1.app (hd F1)), ha, hq, ?_⟩
                  intro v F' H' e1 e2 e3 e4 hold rd
                  unfold Rep at rd
                  refine ⟨rd, kk (.ref x) F' H' (x1.trans (eF.trans e1)) hl trivial ?_⟩
                  -- back to the caller's slots: x left out of what is known
                  obtain ⟨a', dx', vs', q1, q2, q3, q4, q5⟩ := hold
                  cases q1
                  have jg : J K G F' (fun b => if b = x then none else H' b) (ρ ++ us) (σ ++ ws) := by
                    refine j3.grow e1 (fun b o hbo => ?_) (fun b o hbo => ?_) (fun b o hbo => ?_)
                    · have hbx : b ≠ x := by rintro rfl; rw [hx2] at hbo; cases hbo
                      show (if b = x then none else H' b) = some o
                      rw [if_neg hbx]
                      exact e2 b o (by rw [upd_ne hbx]; exact hbo) (by rintro z; cases z; exact hbx rfl)
                    · have hbx : b ≠ x := by rintro rfl; rw [q2] at hbo; cases hbo
                      show (if b = x then none else H' b) = some o
                      rw [if_neg hbx]
                      exact e3 b o hbo
                    · rcases e4 b o hbo with z | z
                      · exact Or.inl z
                      · have hbx : b ≠ x := by rintro rfl; rw [upd_same] at z; cases z
                        rw [upd_ne hbx] at z
                        exact Or.inr z
                  have hpush := jg.push (p := x) (o := .ins (He.ga K C') dx' (ns.zip vs')) (t := .ins false C' ns fs) (by simp) rfl rfl ⟨x, dx', vs', rfl, q2, upd_same, q4, q5⟩
                  have hH : upd (fun b => if b = x then none else H' b) x (.ins (He.ga K C') dx' (ns.zip vs')) = H' := by
                    funext b
                    by_cases hbx : b = x
                    · subst hbx; rw [upd_same, q3]
                    · rw [upd_ne hbx]; simp [hbx]
                  rw [hH] at hpush
                  rw [← List.append_assoc, ← List.append_assoc]
                  exact hpush
            | _ => cases hm
    · rw [if_neg ha] at hm; cases hm
def eMakX (C : Str) (a : Nat) (f : FnB) (dds : List D) (n : Mo (List T)) : Mo T := bnd n (makMX C a f dds)
theorem se_makX {k : Nat} {C : Str} {p : Pos} {ar : Nat} {dds : List D} {f : FnB} (h : MakOk X.prog X.w X.K X.mg X.base k C ar dds f) (hr : Room (k + 1) X.A) (tk : Takes X W) (g : SA X W (e :: es) n) (hg : Gl X C := by rfl)
    (hdb : (C == ("__debug__" : Str)) = false := by decide) (he : starEach (e :: es) X.env = (false, eval e X.env) :: starEach es X.env := by rfl) (hpl : (backTo pos (starEach es X.env)).any (·.1) = false := by rfl) :
    SE X W (.Call (.Name C p) (e :: es) [] pos) (eMakX C ar f dds n) := by
  obtain ⟨fa, fd, ps, dvs, ds, F, M, hm, hb, hd, hr2⟩ := h.ex
  obtain ⟨ta, q, z⟩ := g
  exact ⟨_, pe_makeE M F hr hg hm hb hd (fun σ => passAt tk σ) q hdb he hpl, SndX.bnd (t2 := fun (vs : List V) σ H (Q : VK) => ∀ x dx, H x = none → H dx = none → dx ≠ x → spB X.K ar f (.ref x :: (vs ++ dvs)) (upd (upd H dx (.own x)) x (.ins (He.ga X.K C) dx [])) (fun v H2 => v = .non ∧ Q (.ref x) H2) (WE W σ)) rfl z fun us xs _ => snd_makMX hr2 us xs⟩
end
end SL

set_option Elab.async false
set_option linter.all false
set_option maxRecDepth 100000
set_option maxHeartbeats 4000000
/-! S-layer 31: try .. except C as n -/
namespace SL
open PySem L2
def clrS (i : Nat) : Option (Fl × Sl) → Option (Fl × Sl)
  | some (.exc _, _) => none
  | some (fl, ρ) => some (fl, ρ.set i none)
  | none => none
open Classical in
/-- the suite, told the same wherever the exception lies -/
noncomputable def hRun (i : Nat) (h : Addr → Addr → So) (x : Xc) (ρ : Sl) : Option (Fl × Sl) := if e : ∃ R, ∀ a d, clrS i (h a d (ρ.set i (some (.dat (.exn a d x.ns x.ds))))) = R then e.choose else none
theorem hRun_eq {i : Nat} {h : Addr → Addr → So} {x : Xc} {ρ : Sl} {R : Option (Fl × Sl)} (e : ∀ a d, clrS i (h a d (ρ.set i (some (.dat (.exn a d x.ns x.ds))))) = R) : hRun i h x ρ = R := by
  unfold hRun
  have e' : ∃ R, ∀ a d, clrS i (h a d (ρ.set i (some (.dat (.exn a d x.ns x.ds))))) = R := ⟨R, e⟩
  rw [dif_pos e']
  exact (e'.choose_spec 0 0).symm.trans (e 0 0)
theorem hRun_at {i : Nat} {h : Addr → Addr → So} {x : Xc} {ρ : Sl} {q : Fl × Sl} (e : hRun i h x ρ = some q) (a d : Addr) : clrS i (h a d (ρ.set i (some (.dat (.exn a d x.ns x.ds))))) = some q := by
  unfold hRun at e
  by_cases e' : ∃ R, ∀ a d, clrS i (h a d (ρ.set i (some (.dat (.exn a d x.ns x.ds))))) = R
  · rw [dif_pos e'] at e
    rw [← e]
    exact e'.choose_spec a d
  · rw [dif_neg e'] at e; cases e
/-- C: the class that is caught, itself; no: other classes that are let pass -/
noncomputable def sTryAs (i : Nat) (C : Str) (no : List Str) (s : So) (h : Addr → Addr → So) : So := fun ρ => match s ρ with
  | some (.exc x, ρ') => if x.cls = C then (if x.ns ≠ [] ∧ i < ρ'.length then hRun i h x ρ' else none) else if no.contains x.cls = true then some (.exc x, ρ') else none
  | r => r
section
variable {K : PySem.W.Frag} {Wout : WX} {i : Nat} {C : Str} {no : List Str} {s : So} {h : Addr → Addr → So} {tb : WX → TS} {ts : Addr → Value → Option Addr → TS} {c : Value}
theorem snd_try (hb : ∀ W, SndS K W (tb W) s) (hh : ∀ a dd, SndS K W0 (ts a (.ref (He.ga K C)) (some dd)) (h a dd)) (hyes : PySem.W.exmOne K (.ref (He.ga K C)) c = some true) (hno : ∀ C' ∈ no, PySem.W.exmOne K (.ref (He.ga K C')) c = some false) :
    SndS K Wout (fun D σ H => tb (wAs K c i ts Wout D) D σ H) (sTryAs i C no s h) := by
  intro G F H ρ σ us ws D fl ρ' j hl ht hm k
  unfold sTryAs at hm
  cases e : s ρ with
  | none => rw [e] at hm; cases hm
  | some p =>
    obtain ⟨fl1, ρ1⟩ := p
    rw [e] at hm
    refine hb (wAs K c i ts Wout D) G F H ρ σ us ws D fl1 ρ1 j hl ht e ?_
    cases fl1 with
    | next => cases hm; exact k
    | brk => cases hm; exact k
    | cont => cases hm; exact k
    | ret t => cases hm; exact k
    | exc x =>
      dsimp only at hm
      intro cl d σ' F' H' e1 l1 l2 j1 rx
      obtain ⟨r1, r2, r3⟩ := rx
      by_cases hC : x.cls = C
      · rw [if_pos hC] at hm
        by_cases hn : x.ns ≠ [] ∧ i < ρ1.length
        · rw [if_pos hn] at hm
          obtain ⟨dd, vs, rfl, hF, rd⟩ := r3 hn.1
          subst r1
          rw [hC]
          refine ⟨true, hyes, fun _ a ha => ?_, nofun⟩
          have hc := hRun_at hm a dd
          have hi2 : i < σ'.length := by rw [l2, ← l1]; exact hn.2
          have j2 := (j1.dat (d := .exn a dd x.ns x.ds) (v := .ref a) (by unfold Rep; exact ⟨vs, rfl, hF, r2, rd⟩)).take (i := i) j1.len
          rw [List.set_append_left _ _ hn.2, List.set_append_left _ _ hi2] at j2
          cases e2 : h a dd (ρ1.set i (some (.dat (.exn a dd x.ns x.ds)))) with
          | none => rw [e2] at hc; cases hc
          | some p2 =>
            obtain ⟨fl2, ρ2⟩ := p2
            rw [e2] at hc
            refine hh a dd G F' H' _ _ us ws _ fl2 ρ2 j2 (by simp [l1, l2]) ht e2 ?_
            have off : ∀ {F2 H2 : Hp} {σ2 : L2.St} {X : Sl} {Y : L2.St}, ρ2.length = (σ'.set i (some (V.ref a))).length → σ2.length = (σ'.set i (some (V.ref a))).length → J K G F2 H2 (ρ2 ++ X) (σ2 ++ Y) →
                (ρ2.set i none).length = σ.length ∧ (σ2.set i none).length = σ.length ∧ J K G F2 H2 (ρ2.set i none ++ X) (σ2.set i none ++ Y) := fun {F2 H2 σ2 X Y} a1 a2 j3 => by
              rw [List.length_set] at a1 a2
              refine ⟨by rw [List.length_set, a1, l2], by rw [List.length_set, a2, l2], ?_⟩
              have j4 := j3.off (i := i) (w := none)
              rw [List.set_append_left _ _ (by rw [a1]; exact hi2), List.set_append_left _ _ (by rw [a2]; exact hi2)] at j4
              exact j4
            cases fl2 with
            | exc _ => cases hc
            | next =>
              cases hc
              intro σ2 F2 H2 e3 l3 l4 j3
              obtain ⟨b1, b2, b3⟩ := off l3 l4 j3
              exact k _ F2 H2 (e1.trans e3) b1 b2 b3
            | brk =>
              cases hc
              intro σ2 F2 H2 e3 l3 l4 j3
              obtain ⟨b1, b2, b3⟩ := off l3 l4 j3
              exact k _ F2 H2 (e1.trans e3) b1 b2 b3
            | cont =>
              cases hc
              intro σ2 F2 H2 e3 l3 l4 j3
              obtain ⟨b1, b2, b3⟩ := off l3 l4 j3
              exact k _ F2 H2 (e1.trans e3) b1 b2 b3
            | ret t =>
              cases hc
              intro v σ2 F2 H2 e3 l3 l4 j3
              obtain ⟨b1, b2, b3⟩ := off l3 l4 j3
              exact k v _ F2 H2 (e1.trans e3) b1 b2 b3
        · rw [if_neg hn] at hm; cases hm
      · rw [if_neg hC] at hm
        by_cases hcn : no.contains x.cls = true
        · rw [if_pos hcn] at hm
          cases hm
          refine ⟨false, by rw [r1]; exact hno x.cls (by simpa using hcn), nofun, fun _ => k cl d σ' F' H' e1 l1 l2 j1 ⟨r1, r2, r3⟩⟩
        · rw [if_neg hcn] at hm; cases hm
end
section
variable {X : Cx} {Wout : WX} {i : Nat} {C x n : Str} {no : List Str} {s : So} {h : Addr → Addr → So} {body suite : List Stmt} {b₀ : Stmt} {np pos pos' : Pos}
theorem ss_tryAs (hs : X.stack = X.env :: X.outer) (hf : X.env.frame = some X.env.locals) (hN : X.N.Nodup) (hi : X.N[i]? = some n) (hln : X.env.kindOf n = some .local) (hc : Names X x (.ref (He.ga X.K C))) (tk : Takes X Wout)
    (hyes : PySem.W.exmOne X.K (.ref (He.ga X.K C)) (.ref (He.ga X.K C)) = some true) (hno : ∀ C' ∈ no, PySem.W.exmOne X.K (.ref (He.ga X.K C')) (.ref (He.ga X.K C)) = some false)
    (hb : ∀ (W : WX) (pn : List (Addr × Obj)) (xe : Value → Shared → Prop), Takes (X.tr pn xe) W → PassesOwn (model X.prog X.w) X.A X.env xe → SSs (X.tr pn xe) W body s)
    (hsu : ∀ (a : Addr) (oe : Obj) (dd : Addr) (pn : List (Addr × Obj)), Zc (.ref (He.ga X.K C)) (some dd) oe → (∃ vs, oe.data = .fields vs) → SSs (X.suite a ((a, oe) :: pn)) W0 (b₀ :: suite) (h a dd)) :
    SS X Wout (.Try body [.ExceptHandler (some (.Name x np)) (some n) (b₀ :: suite) pos'] [] [] pos) (sTryAs i C no s h) := by
  let tb : WX → TS := fun W D σ H => ∀ (pn : List (Addr × Obj)) (xe : Value → Shared → Prop) (t1 : Takes (X.tr pn xe) W) (p1 : PassesOwn (model X.prog X.w) X.A X.env xe), (hb W pn xe t1 p1).choose D σ H
  let ts : Addr → Value → Option Addr → TS := fun a cls d D σ H => ∃ dd, cls = .ref (He.ga X.K C) ∧ d = some dd ∧ ∀ (oe : Obj) (pn : List (Addr × Obj)) (z : Zc (.ref (He.ga X.K C)) (some dd) oe) (f : ∃ vs, oe.data = .fields vs), (hsu a oe dd pn z f).choose D σ H
  refine ⟨_, ps_try_as (tb := tb) (ts := ts) hs hf hN hi hln hc tk (fun W pn xe t1 p1 => ⟨fun pins s σ H D I q => ?_⟩) (fun a oe cls d pn z f => ⟨fun pins s σ H D I q => ?_⟩), snd_try (fun W => ?_) (fun a dd => ?_) hyes hno⟩
  · exact (hb W pn xe t1 p1).choose_spec.1.run pins s σ H D I (q pn xe t1 p1)
  · obtain ⟨dd, rfl, rfl, q⟩ := q
    exact (hsu a oe dd pn z f).choose_spec.1.run pins s σ H D I (q oe pn z f)
  · intro G F H ρ σ us ws D fl ρ' j hl ht hm k pn xe t1 p1
    exact (hb W pn xe t1 p1).choose_spec.2 G F H ρ σ us ws D fl ρ' j hl ht hm k
  · intro G F H ρ σ us ws D fl ρ' j hl ht hm k
    exact ⟨dd, rfl, rfl, fun oe pn z f => (hsu a oe dd pn z f).choose_spec.2 G F H ρ σ us ws D fl ρ' j hl ht hm k⟩
/-- n.f in the suite -/
def eXf (a d : Addr) (f : Str) (m : Mo T) : Mo T := bnd m fun t => opM (one fun u => match u with
  | .exn a' d' ns fs => if a' = a ∧ d' = d then (idxOf f ns fs).map .dt else none
  | _ => none) [t]
theorem se_xf {W : WX} {a dd : Addr} {oe : Obj} {pn : List (Addr × Obj)} {e : Expr} {m : Mo T} {f : Str} {pos : Pos} (T : XfC X.K (He.ga X.K C)) (hno : PySem.W.findIn X.K (.ref (He.ga X.K C)) f = some none) (hz : Zc (.ref (He.ga X.K C)) (some dd) oe) (hf : ∃ vs, oe.data = .fields vs)
    (he : SE (X.suite a ((a, oe) :: pn)) W e m) (hb : attributeBase e f X.env (eval e X.env) = eval e X.env := by rfl) : SE (X.suite a ((a, oe) :: pn)) W (.Attribute e f pos) (eXf a dd f m) := by
  obtain ⟨te, p, z⟩ := he
  refine ⟨_, pe_xf T hno hz hf p hb, SndX.bnd (t2 := fun x σ H Q => x = .ref a ∧ Value.ref (He.ga X.K C) = .ref (He.ga X.K C) ∧ ∃ (d' : Addr) (fs : List (Str × V)) (v : V), some dd = some d' ∧ H d' = some (.xd fs) ∧ fs.lookup f = some v ∧ Q v H) rfl z fun t x _ => ?_⟩
  refine snd_out (f := one fun u => match u with
    | .exn a' d' ns fs => if a' = a ∧ d' = dd then (idxOf f ns fs).map .dt else none
    | _ => none) [t] [x] fun F H σ Q ds o e rd hf q => ?_
  obtain ⟨d, rfl, r1⟩ := reps1 rd
  unfold one at hf
  cases d with
  | exn a' d' ns fs =>
    simp only at hf
    by_cases c : a' = a ∧ d' = dd
    · rw [if_pos c] at hf
      obtain ⟨rfl, rfl⟩ := c
      cases hi : idxOf f ns fs with
      | none => rw [hi] at hf; cases hf
      | some y =>
        rw [hi] at hf
        cases hf
        unfold Rep at r1
        obtain ⟨vs, rfl, h1, h2, h3⟩ := r1
        obtain ⟨v, hv, rv⟩ := idx_rep hi h3
        exact ⟨rfl, rfl, d', _, v, rfl, e _ _ h1, hv, q.val e rv⟩
    · rw [if_neg c] at hf; cases hf
  | _ => cases hf
end
end SL

set_option Elab.async false
set_option linter.all false
set_option maxRecDepth 100000
set_option maxHeartbeats 4000000
/-! S-layer 32: isinstance(n, C2) in the suite, n a caught exception with fields -/
namespace SL
open PySem L2
def rIsX (K : PySem.W.Frag) (D a dd : Addr) : List V → Hp → VK → Prop := fun xs H Q => ∃ (c : V) (cv : Value) (b : Bool) (fs : List (Str × V)), xs = [.ref a, c] ∧ (∀ u, RelV c u → u = cv) ∧ PySem.W.kitOne K (.ref D) cv = some b ∧ H dd = some (.xd fs) ∧ Q (.bl b) H
theorem call_isX {X : Cx} {a D dd : Addr} {oe : Obj} {pn : List (Addr × Obj)} (C : ExcC X.K D) (hc : (PySem.W.clsIn X.K D).isSome = true) (hz : Zc (.ref D) (some dd) oe) (hf : ∃ vs, oe.data = .fields vs) : CallR (X.suite a ((a, oe) :: pn)) (.builtin "isinstance") (rIsX X.K D a dd) := by
  intro pins s σ H xs us Q I r h
  obtain ⟨c, cv, b, fs, rfl, hcv, e, ea, q⟩ := h
  cases r with
  | cons rx rr =>
    cases rr with
    | cons rt rr =>
      cases rr
      cases rx
      have ec := hcv _ rt
      subst ec
      obtain ⟨hget, _⟩ := I.pin (a, oe) (List.mem_append.mpr (.inl List.mem_cons_self))
      obtain ⟨vs, hv⟩ := hf
      have hx : ObjOk X.prog X.w H s.heap dd (.xd fs) := I.hok dd _ ea
      obtain ⟨mA, hns, hr⟩ := hx
      obtain ⟨od, ho, hl⟩ := lookIn_ns hns
      have J : PySem.W.InstAt s.heap a oe D (some od) := ⟨hget, hz.1, by unfold PySem.W.notCls; rw [hv] <;> rfl, by rw [hz.2]; exact ho⟩
      exact PySem.W.kia_one (PySem.W.kitx_exc hc C.hg C.hk C.hs C.ha C.hn C.ht C.hm) I.kIn J e (fun z => nomatch z) fun tk => ⟨.bl b, H, I.kept (t' := tk) fun _ _ z => z, rfl, q⟩
def isXF (b : Bool) (a dd : Addr) (u : D) : Option Out := match u with
  | .exn a' d' _ _ => if a' = a ∧ d' = dd then some (.dt (.bl b)) else none
  | _ => none
theorem se_isX {X : Cx} {W : WX} {C C2 : Str} {b : Bool} {a dd : Addr} {oe : Obj} {pn : List (Addr × Obj)} {e : Expr} {m : Mo T} {p p2 pos : Pos} (c : ExcC X.K (He.ga X.K C)) (hc : (PySem.W.clsIn X.K (He.ga X.K C)).isSome = true) (hk : PySem.W.kitOne X.K (.ref (He.ga X.K C)) (.ref (He.ga X.K C2)) = some b)
    (hz : Zc (.ref (He.ga X.K C)) (some dd) oe) (hf : ∃ vs, oe.data = .fields vs) (ha : SE (X.suite a ((a, oe) :: pn)) W e m) (hm : X.mg "isinstance" = none) (hC : X.mg C2 = some (.ref (He.ga X.K C2))) (hg : Gl X "isinstance" := by rfl) (hg2 : Gl X C2 := by rfl)
    (hd : (C2 == ("__debug__" : Str)) = false := by decide) (he : starEach [e, .Name C2 p2] X.env = (false, eval e X.env) :: starEach [.Name C2 p2] X.env := by rfl) (he2 : starEach [.Name C2 p2] X.env = (false, eval (.Name C2 p2) X.env) :: starEach [] X.env := by rfl)
    (hpl : (backTo pos (starEach [.Name C2 p2] X.env)).any (·.1) = false := by rfl) : SE (X.suite a ((a, oe) :: pn)) W (.Call (.Name "isinstance" p) [e, .Name C2 p2] [] pos) (una (isXF b a dd) m) := by
  obtain ⟨te, q1, z1⟩ := ha
  have hg' : Gl (X.suite a ((a, oe) :: pn)) "isinstance" := hg
  have hg2' : Gl (X.suite a ((a, oe) :: pn)) C2 := hg2
  refine ⟨_, pe_callB (call_isX c hc hz hf) hg' hm PyProof.Rows.boot_isinstance (pa_cons q1 (pa_cons (pe_glob (v := .ref (He.ga X.K C2)) hg2' hC rfl hd) pa_nil he2) he) (by decide) (by decide) he hpl, ?_⟩
  refine SndX.bnd (t2 := fun x σ H Q => rIsX X.K (He.ga X.K C) a dd [x, .ref (He.ga X.K C2)] H Q) rfl z1 fun t x _ => ?_
  refine snd_out (f := one (isXF b a dd)) [t] [x] fun F H σ Q ds o ex rd hf q => ?_
  obtain ⟨d, rfl, r1⟩ := reps1 rd
  have hf' : isXF b a dd d = some o := hf
  unfold isXF at hf'
  cases d with
  | exn a' d' ns fs =>
    dsimp only at hf'
    by_cases h : a' = a ∧ d' = dd
    · rw [if_pos h] at hf'
      obtain ⟨rfl, rfl⟩ := h
      cases hf'
      unfold Rep at r1
      obtain ⟨vs, rfl, h1, h2, h3⟩ := r1
      exact ⟨.ref (He.ga X.K C2), _, b, _, rfl, fun u r => r, hk, ex _ _ h1, q.bl ex⟩
    · rw [if_neg h] at hf'; cases hf'
  | _ => cases hf'
end SL

set_option Elab.async false
set_option linter.all false
set_option maxRecDepth 100000
set_option maxHeartbeats 4000000
/-! S-layer 33: the head's facts of own classes over ValueError -/
namespace SL
open PySem PySem.Spec PyProof.Rows L2
def oexB (K : PySem.W.Frag) (C : Addr) : Bool := (match K.lookup C with
    | some ⟨.type "type", _, .cls cd, sl⟩ => (match cd.mro, sl.toList with
      | .ref C' :: bm, [_, _, _, _, some (.builtin n), _] => C' == C && n == "ValueError.__new__" && !cd.hasDel && cd.hasDict && PySem.HandSPX.refsVE bm
      | _, _ => false)
    | _ => false) && (decide (PySem.W.findIn K (.ref C) "__setattr__" = some (some (.builtin "object.__setattr__"))) && (decide (PySem.W.subIn K (.ref C) (.type "BaseException") = some true) && (decide (PySem.W.typeIn K (.ref C) = some (.type "type")) && PySem.W.keepIn K (.ref C))))
theorem oex_of {K : PySem.W.Frag} {C : Addr} (h : oexB K C = true) : OexC K C := by
  unfold oexB at h
  obtain ⟨q, h⟩ := He.ba h
  obtain ⟨h1, h⟩ := He.ba h
  obtain ⟨h2, h⟩ := He.ba h
  obtain ⟨h3, h4⟩ := He.ba h
  refine ⟨?_, of_decide_eq_true h1, of_decide_eq_true h2, of_decide_eq_true h3, h4⟩
  clear h1 h2 h3 h4 h
  split at q
  · rename_i dd cd sl ho
    split at q
    · rename_i C' bm k0 k1 k2 k3 n k5 hm hs
      simp only [Bool.and_eq_true, beq_iff_eq, Bool.not_eq_true'] at q
      obtain ⟨⟨⟨⟨rfl, rfl⟩, hdel⟩, hdict⟩, ht⟩ := q
      obtain ⟨nm, bs, mro, ns, qn, hd, sn, sub, ab, col, del⟩ := cd
      dsimp only at hm hdel hdict
      subst hm hdel hdict
      have hsl : sl = #[k0, k1, k2, k3, some (.builtin "ValueError.__new__"), k5] := by
        obtain ⟨l⟩ := sl
        simp only at hs
        rw [hs]
      subst hsl
      exact ⟨nm, qn, ns, bs, bm, sn, sub, ab, col, dd, k0, k1, k2, k3, k5, ho, ht⟩
    · cases q
  · cases q
/-- C bears f; its __init__ is that of the class B, behind which ValueError's comes -/
def pExc (C f B : Str) : Ft := fun K => oexB K (He.ga K C) && (eqB (PySem.W.mroIn K (He.ga K C) (.ref (He.ga K B))) (some true) && (He.eqO (PySem.W.nsIn K cStatics "thirdparty.any") (some none) &&
  (He.eqO (PySem.W.ks_superIn K (He.ga K C) (He.ga K B) "__init__") (some (some (.builtin "ValueError.__init__"))) && (eqB (PySem.W.subIn K (.ref (He.ga K C)) (.type "ValueError")) (some true) &&
  (He.eqO (PySem.W.findIn K (.ref (He.ga K C)) f) (some none) && (He.eqO (PySem.W.findIn K (.ref (He.ga K C)) "__init__") (some (some (.ref (He.ma K (He.ga K B) "__init__")))) && decide (PySem.W.typeIn K (.ref (He.ma K (He.ga K B) "__init__")) = some (.type "function"))))))))
theorem excOk_of {P : Program} {w : World} {K : PySem.W.Frag} {mg : Str → Option Value} {base : Heap} {k : Nat} {C f B : Str} {ok : D → Bool} {okv : Hp → V → Prop} {fd : FuncData} {ps : List Str} (c : pExc C f B K = true) (ht : (P.main.scope.names.lookup ("super" : Str)).isSome = false)
    (F : FnOk P w K mg base (L2.CX P w) k (He.ma K (He.ga K B) "__init__") fd ps (spX P K (He.ga K B) f okv)) (hb : Binds K fd ps []) (hm : mg C = some (.ref (He.ga K C))) (hok : ∀ F H d v, Rep K F d v → Ex F H → ok d = true → okv H v) : ExcOk P w K mg base k C f ok := by
  obtain ⟨h1, h⟩ := He.ba c
  obtain ⟨h2, h⟩ := He.ba h
  obtain ⟨h3, h⟩ := He.ba h
  obtain ⟨h4, h⟩ := He.ba h
  obtain ⟨h5, h⟩ := He.ba h
  obtain ⟨h6, h⟩ := He.ba h
  obtain ⟨h7, h8⟩ := He.ba h
  exact ⟨_, _, _, _, _, F, hb, ⟨ht, eqB_ok h2, He.eqO_ok h3, He.eqO_ok h4, eqB_ok h5, oex_of h1⟩, He.eqO_ok h6, He.eqO_ok h7, of_decide_eq_true h8, hm, hok⟩
/-- what is read of a caught C: the field f -/
def pXf (C f : Str) : Ft := fun K => xfB K (He.ga K C) && He.eqO (PySem.W.findIn K (.ref (He.ga K C)) f) (some none)
theorem xf_of {K : PySem.W.Frag} {C f : Str} (c : pXf C f K = true) : XfC K (He.ga K C) ∧ PySem.W.findIn K (.ref (He.ga K C)) f = some none := let ⟨h1, h2⟩ := He.ba c; ⟨xfB_ok h1, He.eqO_ok h2⟩
/-- whether an exception of C' is caught by 'except C' -/
def pExm (C' C : Str) (b : Bool) : Ft := fun K => eqB (PySem.W.exmOne K (.ref (He.ga K C')) (.ref (He.ga K C))) (some b)
theorem exm_of {K : PySem.W.Frag} {C' C : Str} {b : Bool} (c : pExm C' C b K = true) : PySem.W.exmOne K (.ref (He.ga K C')) (.ref (He.ga K C)) = some b := eqB_ok c
/-- isinstance asked of a caught C -/
def pExcC (C : Str) : Ft := fun K => (PySem.W.clsIn K (He.ga K C)).isSome && (He.eqO (PySem.W.findIn K (.ref (He.ga K C)) "__getattribute__") (some (some (.builtin "BaseException.__getattribute__"))) && (He.eqO (PySem.W.findIn K (.ref (He.ga K C)) "__getattr__") (some none) &&
  (eqB (PySem.W.subIn K (.ref (He.ga K C)) (.type "BaseException")) (some true) && (PySem.W.hasDictIn K (He.ga K C) && (He.eqO (PySem.W.findIn K (.ref (He.ga K C)) "__class__") (some (some (.builtin "object.__class__"))) &&
  (He.eqO (PySem.W.specialIn K (.builtin "object.__class__") "__get__") (some (some (.builtin "getset_descriptor.__get__"))) && (eqB (PySem.W.takesIn K (.builtin "object.__class__")) (some true) && eqB (PySem.W.mroIn K (He.ga K C) (.type "object")) (some true))))))))
theorem excC_of {K : PySem.W.Frag} {C : Str} (c : pExcC C K = true) : (PySem.W.clsIn K (He.ga K C)).isSome = true ∧ ExcC K (He.ga K C) := by
  obtain ⟨h1, h⟩ := He.ba c
  obtain ⟨h2, h⟩ := He.ba h
  obtain ⟨h3, h⟩ := He.ba h
  obtain ⟨h4, h⟩ := He.ba h
  obtain ⟨h5, h⟩ := He.ba h
  obtain ⟨h6, h⟩ := He.ba h
  obtain ⟨h7, h⟩ := He.ba h
  obtain ⟨h8, h9⟩ := He.ba h
  exact ⟨h1, ⟨He.eqO_ok h2, He.eqO_ok h3, eqB_ok h4, h5, He.eqO_ok h6, He.eqO_ok h7, eqB_ok h8, eqB_ok h9⟩⟩
end SL

set_option Elab.async false
set_option linter.all false
set_option maxRecDepth 100000
set_option maxHeartbeats 4000000
/-! S-layer 34: x.m(..), the instance of slot i lent to its method -/
namespace SL
open PySem L2 PyProof.Rows
def eMetB (C m : Str) (k : Nat) (f : FnB) (i : Nat) (n : Mo (List T)) : Mo T := fun ρ => match ρ[i]? with
  | some (some (SL.T.ins _ C' ns _)) => if C' = C ∧ ns.contains m = false then eCallB k f i n ρ else none
  | _ => none
theorem snd_metB {K : PySem.W.Frag} {W : WX} {ta : TA} {n : Mo (List T)} {ar i : Nat} {g : FnB} {C m : Str} (z : SndA K W ta n) :
    SndE K W (tMeth (He.ga K C) m (spB K ar g) [] E0 (tVar i) ta) (eMetB C m ar g i n) := by
  intro G F H ρ σ us ws Q r ρ' j hl ht hm k
  have j' := j
  simp only [List.append_nil] at j'
  unfold eMetB at hm
  cases e0 : ρ[i]? with
  | none => rw [e0] at hm; cases hm
  | some o =>
    cases o with
    | none => rw [e0] at hm; cases hm
    | some t0 =>
      cases t0 with
      | dat _ => rw [e0] at hm; cases hm
      | lst _ _ => rw [e0] at hm; cases hm
      | ins b C' ns xs =>
        rw [e0] at hm
        dsimp only at hm
        by_cases hC : C' = C ∧ ns.contains m = false
        · rw [if_pos hC] at hm
          obtain ⟨rfl, hnm⟩ := hC
          have hi := (List.getElem?_eq_some_iff.mp e0).1
          obtain ⟨v, hv, hold, _⟩ := j'.ok i (.ins b C' ns xs) (by rw [List.getElem?_append_left hi]; exact e0)
          obtain ⟨a, dx, vs, rfl, _, hH, _, _⟩ := hold
          have hs : σ[i]? = some (some (V.ref a)) := by rw [List.getElem?_append_left (by rw [← hl]; exact hi)] at hv; exact hv
          obtain ⟨v, h1, h2⟩ := snd_callB (i := i) (ar := ar) (g := g) z G F H ρ σ us ws Q r ρ' j hl ht hm k
          rw [hs] at h1; cases h1
          exact ⟨_, hs, a, dx, _, rfl, hH, zip_none hnm, h2⟩
        · rw [if_neg hC] at hm; cases hm
/-- a method whose self is lent -/
structure MetB (P : Program) (w : World) (K : PySem.W.Frag) (mg : Str → Option Value) (base : Heap) (k : Nat) (C m : Str) (a : Nat) (f : FnB) : Prop where
  ex : ∃ fa fd ps, FnOk P w K mg base (L2.CX P w) k fa fd ps (spB K a f) ∧ Cls K (He.ga K C) ∧ Meth K (He.ga K C) m fa ∧ Binds K fd ps []
section
variable {X : Cx} {W : WX} {e : Expr} {es : List Expr} {pos xp apos : Pos} {n : Mo (List T)} {C m x : Str} {i ar k : Nat} {f : FnB} {pl : Sem Bool}
theorem se_metB0 (h : MetB X.prog X.w X.K X.mg X.base k C m ar f) (hr : Room k X.A) (hN : X.N[i]? = some x) (hv : Vis X.env.scope x) (hd : (x == ("__debug__" : Str)) = false := by decide) (hcd : (x == ("__classdict__" : Str)) = false := by decide)
    (ht : eval (.Call (.Attribute (.Name x xp) m apos) [] [] pos) X.env = (do
      let ov ← eval (.Name x xp) X.env
      standAt apos.atName
      let (f, first) ← holding [ov] (getMethod ov m pl)
      callWith pos f first (backTo pos (starEach [] X.env)) (backToKw pos (keywordEach [] X.env))) := by rfl) :
    SE X W (.Call (.Attribute (.Name x xp) m apos) [] [] pos) (eMetB C m ar f i (ret [])) := by
  obtain ⟨fa, fd, ps, F, hc, hm, hb⟩ := h.ex
  refine ⟨_, pe_meth0 (pe_var hN hv hd hcd) hc hm F hr hb .nil passL ht, snd_metB fun G F H ρ σ us ws Q r ρ' j hl ht hm k => ?_⟩
  cases hm
  exact k [] F H Ex.rfl hl rfl j
end
end SL

set_option Elab.async false
set_option linter.all false
set_option maxRecDepth 100000
set_option maxHeartbeats 4000000
/-! S-layer 35: x.index(e), the list of slot i; names of classes caught; isinstance facts -/
namespace SL
open PySem PySem.Spec L2
def okT : D → Bool := fun _ => true
def idxD (d : D) : List D → Option Nat
  | [] => none
  | e :: xs => if eqFl e d = true then some 0 else (idxD d xs).map (· + 1)
def idxF (x y : D) : Option Out := match x with
  | .lst xs => if flatD y = true ∧ xs.all flatD = true ∧ xs.length ≤ 100000 then (idxD y xs).map fun j => .dt (.int (j : Nat)) else none
  | _ => none
theorem idx_at {K : PySem.W.Frag} {F : Hp} {d : D} {v : V} (h : flatD d = true) (r : Rep K F d v) : ∀ {xs : List D} {vs : List V} {j : Nat}, xs.all flatD = true → Reps K F xs vs → idxD d xs = some j →
    vs.all flatV = true ∧ ∃ z, vs[j]? = some z ∧ eqV z v = true ∧ ∀ m z', m < j → vs[m]? = some z' → eqV z' v = false
  | [], vs, j, g, s, e => by cases e
  | x :: xs, vs, j, g, s, e => by
    unfold Reps at s
    obtain ⟨u, ur, rfl, s1, s2⟩ := s
    rw [List.all_cons, Bool.and_eq_true] at g
    have g2 : ur.all flatV = true := (in_rep h r g.2 s2).1
    have eu : eqV u v = eqFl x d := eqFl_rep g.1 h s1 r
    unfold idxD at e
    refine ⟨by rw [List.all_cons, flat_rep g.1 s1, g2]; rfl, ?_⟩
    by_cases c : eqFl x d = true
    · rw [if_pos c] at e
      cases e
      exact ⟨u, rfl, eu.trans c, fun m z' hm => absurd hm (Nat.not_lt_zero _)⟩
    · rw [if_neg c] at e
      cases e1 : idxD d xs with
      | none => rw [e1] at e; cases e
      | some k =>
        rw [e1] at e
        cases e
        obtain ⟨_, z, h1, h2, h3⟩ := idx_at h r g.2 s2 e1
        refine ⟨z, h1, h2, fun m z' hm hz => ?_⟩
        cases m with
        | zero => cases hz; exact eu.trans (by simpa using c)
        | succ m => exact h3 m z' (Nat.lt_of_succ_lt_succ hm) hz
def isLstD : D → Bool
  | .lst _ => true
  | _ => false
def sIdx (i : Nat) (mb : Mo T) : Mo T := fun ρ => match atS i ρ with
  | some t => if isLstD t.fz = true then s2M idxF i mb ρ else none
  | none => none
theorem sv_idx {K : PySem.W.Frag} : ∀ F H Q x y d u o, Ex F H → SV K F H d x → Rep K F u y → idxF d u = some o → OutOk K F H Q o → rIndex K x [y] H Q := by
  intro F H Q x y d u o ex s r hf q
  unfold idxF at hf
  cases d with
  | lst xs =>
    dsimp only at hf
    by_cases c : flatD u = true ∧ xs.all flatD = true ∧ xs.length ≤ 100000
    · rw [if_pos c] at hf
      obtain ⟨a, vs, rfl, h1, h2⟩ := s
      cases e : idxD u xs with
      | none => rw [e] at hf; cases hf
      | some j =>
        rw [e] at hf
        cases hf
        obtain ⟨g1, z, g2, g3, g4⟩ := idx_at c.1 r c.2.1 h2 e
        exact ⟨a, vs, y, j, z, rfl, rfl, SqL.of h1, flat_rep c.1 r, g1, g2, g3, g4, q.val ex rep_int⟩
    · rw [if_neg c] at hf; cases hf
  | _ => cases hf
theorem snd_idx {K : PySem.W.Frag} {W : WX} {i : Nat} {mb : Mo T} {tb : TE} (z : SndE K W tb mb) : SndE K W (tBM K "list" (rIndex K) (tVar i) (tCons tb tNil)) (sIdx i mb) := by
  intro G F H ρ σ us ws Q r1 ρ' j hl ht hm k
  have j0 := j
  simp only [List.append_nil] at j
  unfold sIdx at hm
  cases e : atS i ρ with
  | none => rw [e] at hm; cases hm
  | some t =>
    rw [e] at hm
    dsimp only at hm
    by_cases c : isLstD t.fz = true
    · rw [if_pos c] at hm
      obtain ⟨v, h1, h2, _⟩ := j.slot hl e
      obtain ⟨v', g1, g2⟩ := snd_s2 (r := fun x y H Q => rIndex K x [y] H Q) z sv_idx G F H ρ σ us ws Q r1 ρ' j0 hl ht hm k
      rw [h1] at g1; cases g1
      refine ⟨v, h1, ?_, g2⟩
      have sv := SV.hold j.ex h2
      cases ed : t.fz with
      | lst xs =>
        rw [ed] at sv
        obtain ⟨a, vs, rfl, h3, _⟩ := sv
        exact .inl ⟨rfl, vs, SqL.of h3⟩
      | _ => rw [ed] at c; cases c
    · rw [if_neg c] at hm; cases hm
section
variable {X : Cx} {W : WX} {e : Expr} {mb : Mo T} {cpos apos px : Pos}
theorem se_idxS {i : Nat} {x : Str} (hb : SE X W e mb) (hN : X.N[i]? = some x := by rfl) (hv : Vis X.env.scope x := by first | exact Or.inl rfl | exact Or.inr (Or.inl rfl) | exact Or.inr (Or.inr rfl)) (hd : (x == ("__debug__" : Str)) = false := by decide) (hcd : (x == ("__classdict__" : Str)) = false := by decide)
    (hbase : attributeBase (.Name x px) "index" X.env (eval (.Name x px) X.env) = eval (.Name x px) X.env := by rfl)
    (hfew : ((backTo cpos (starEach (e :: []) X.env)).all (fun x => !x.1) && (backToKw cpos (keywordEach [] X.env)).all (fun x => x.1.isSome)
      && decide ((e :: []).length + ([] : List Keyword).length + (if ([] : List Keyword).isEmpty then 0 else 1) < 30)) = true := by rfl)
    (hline : (apos.endLine == cpos.line) = true := by rfl) (hst : starEach (e :: []) X.env = (false, eval e X.env) :: starEach [] X.env := by rfl) (hplain : (backTo cpos (starEach [] X.env)).any (·.1) = false := by rfl) :
    SE X W (.Call (.Attribute (.Name x px) "index" apos) [e] [] cpos) (sIdx i mb) := by
  obtain ⟨te, p, z⟩ := hb
  exact ⟨_, pe_bm PySem.F.plainAttrs_list PySem.F.slot_list_index PySem.F.type_list_index mt_index (pe_var hN hv hd hcd) (pa_cons p pa_nil hst) hbase hfew hline hst hplain, snd_idx z⟩
end
/-! isinstance between two own classes -/
def pKit (C' C : Str) (b : Bool) : Ft := fun K => eqB (PySem.W.kitOne K (.ref (He.ga K C')) (.ref (He.ga K C))) (some b)
theorem kit_of {K : PySem.W.Frag} {C' C : Str} {b : Bool} (c : pKit C' C b K = true) : PySem.W.kitOne K (.ref (He.ga K C')) (.ref (He.ga K C)) = some b := eqB_ok c
end SL

set_option Elab.async false
set_option linter.all false
set_option maxRecDepth 100000
set_option maxHeartbeats 4000000
/-! S-layer 36: texts of f-strings in own exceptions; {}; instances that are called and static methods that let exceptions pass -/
namespace SL
open PySem PySem.Spec L2 PyProof.Rows
/-- what an f-string takes: short texts, ints, None, a pair of a short text and an int -/
def okS : D → Bool
  | .str s => decide (s.length ≤ 1000)
  | .int i => decide (i.natAbs.log2 < 1920)
  | .non => true
  | .tup [.str s, .int i] => decide (i.natAbs.log2 < 1920) && (decide ((reprText s).length ≤ 1000) && decide ((tupleText [reprText s, Str.ofString (toString i)]).length ≤ 1900))
  | _ => false
def okSV (K : PySem.W.Frag) (H : Hp) : V → Prop
  | .str s => s.length ≤ 1000
  | .int i => i.natAbs.log2 < 1920
  | .non => True
  | .ref a => ∃ (s : Str) (i : Int), SqT K H a [.str s, .int i] ∧ i.natAbs.log2 < 1920 ∧ (reprText s).length ≤ 1000 ∧ (tupleText [reprText s, Str.ofString (toString i)]).length ≤ 1900
  | _ => False
theorem okS_rep {K : PySem.W.Frag} (F H : Hp) (d : D) (v : V) (r : Rep K F d v) (ex : Ex F H) (h : okS d = true) : okSV K H v := by
  unfold okS at h
  split at h
  · unfold Rep at r
    subst r
    show Str.length _ ≤ 1000
    exact of_decide_eq_true h
  · unfold Rep at r
    subst r
    show (Int.natAbs _).log2 < 1920
    exact of_decide_eq_true h
  · unfold Rep at r
    subst r
    exact trivial
  · next s i =>
    unfold Rep at r
    obtain ⟨a, vs, rfl, h1, h2⟩ := r
    unfold Reps at h2
    obtain ⟨v1, r1, rfl, h3, h4⟩ := h2
    unfold Reps at h4
    obtain ⟨v2, r2, rfl, h5, h6⟩ := h4
    unfold Reps at h6
    subst h6
    unfold Rep at h3 h5
    subst h3 h5
    rw [Bool.and_eq_true, Bool.and_eq_true] at h
    exact ⟨s, i, ex.t h1, of_decide_eq_true h.1, of_decide_eq_true h.2.1, of_decide_eq_true h.2.2⟩
  · cases h
theorem app_len (a b : Str) : (a ++ b).length = a.length + b.length := by
  show (a.cps ++ b.cps).size = a.cps.size + b.cps.size
  exact Array.size_append
theorem int_len {i : Int} (h : i.natAbs.log2 < 1920) : (Str.ofString (toString i)).length ≤ 2000 := by
  rw [PySem.ofString_length]
  have hb : i.natAbs < 2 ^ 1920 := by
    rcases Nat.eq_zero_or_pos i.natAbs with z | z
    · rw [z]; exact Nat.two_pow_pos _
    · exact Nat.lt_of_lt_of_le Nat.lt_log2_self (Nat.pow_le_pow_right (by decide) h)
  have h10 : i.natAbs < 10 ^ 1920 := Nat.lt_of_lt_of_le hb (Nat.pow_le_pow_left (by decide) _)
  have hd : (Nat.toDigits 10 i.natAbs).length ≤ 1920 := (Nat.length_toDigits_le_iff (by decide) (by decide)).mpr h10
  have hr : ∀ n : Nat, (Nat.repr n).length = (Nat.toDigits 10 n).length := fun n => by simp [Nat.repr]
  cases i with
  | ofNat n =>
    show (Nat.repr n).length ≤ 2000
    rw [hr]
    exact Nat.le_trans hd (by decide)
  | negSucc n =>
    show ("-" ++ Nat.repr (n + 1)).length ≤ 2000
    rw [String.length_append, hr]
    have : (Nat.toDigits 10 (n + 1)).length ≤ 1920 := hd
    have e1 : ("-" : String).length = 1 := rfl
    omega
def TxP (X : Cx) (e : Expr) (ok : Hp → V → Prop) : Prop := ∃ te, PE X e te ∧ ∀ (σ : L2.St) (H : Hp) (Q : VK) (v : V), σ[1]? = some (some v) → ok H v → (∀ z : Str, z.length ≤ 2000 → Q (.str z) H) → te σ H Q
def TxPs (X : Cx) (es : List Expr) (ok : Hp → V → Prop) : Prop := ∃ ts, PJ X es ts ∧ ∀ (σ : L2.St) (H : Hp) (Q : Str → Hp → Prop) (v : V) (acc : Str), σ[1]? = some (some v) → ok H v → acc.length + 2000 * es.length ≤ 100000 → (∀ z : Str, Q z H) → tJs ts acc σ H Q
section
variable {X : Cx} {e : Expr} {es : List Expr} {ok : Hp → V → Prop} {pos p : Pos}
theorem txp_str {x : Str} {j : Nat} (h : x.length ≤ 2000) : TxP X (.Constant (.str x) j pos) ok := ⟨_, pe_str, fun _ _ _ _ _ _ q => q _ h⟩
theorem pe_fmtA {k : Nat} {te : TE} (hr : Room k X.A) (he : PE X e te) : PE X (.FormattedValue e (-1) none pos) (fun σ H Q => te σ H fun x H1 => okSV X.K H1 x ∧ ∀ z : Str, z.length ≤ 2000 → Q (.str z) H1) := by
  refine ⟨fun pins s σ H Q I h => ?_⟩
  refine wpAny_FormattedValue_plain (thn (he.run pins s σ H _ I h) fun v s1 hv => ?_)
  obtain ⟨x, H1, I1, r1, ok, q⟩ := hv
  have hu := hr.units
  cases x with
  | str y =>
    obtain ⟨t, rfl⟩ := r1
    have ok : y.length ≤ 1000 := ok
    exact wpAny_formatField_str ⟨.str y, H1, I1, ⟨t, rfl⟩, q y (Nat.le_trans ok (by decide))⟩ ⟨.str y, H1, I1.tok _, ⟨_, rfl⟩, q y (Nat.le_trans ok (by decide))⟩ (big_line (Nat.le_trans ok (by decide)))
  | int i =>
    obtain ⟨t, rfl⟩ := r1
    exact wpAny_formatField_int ok ⟨.str (toString i), H1, I1.tok _, ⟨_, rfl⟩, q _ (int_len ok)⟩
  | non =>
    cases r1
    exact wpAny_formatField_none ⟨.str "None", H1, I1.tok _, ⟨_, rfl⟩, q _ (by decide +kernel)⟩
  | ref a =>
    cases r1
    obtain ⟨y, i, ht, h1, h2, h3⟩ := ok
    obtain ⟨its, rv, ⟨o, ho, hcl, n, hd⟩, _⟩ := I1.tuple ht
    cases rv with
    | cons ra rv =>
      cases rv with
      | cons rb rv =>
        cases rv
        obtain ⟨t1, rfl⟩ := ra
        obtain ⟨t2, rfl⟩ := rb
        exact fmt_tuple (ts := [reprText y, Str.ofString (toString i)]) (by omega) ho hcl hd (.cons (ReprIs.str y t1 (big_line (Nat.le_trans h2 (by decide)))) (.cons (ReprIs.int t2 h1) .nil)) (big_line (Nat.le_trans h3 (by decide)))
          fun m u tk hm => ⟨.str m, H1, I1.tok _, ⟨u, rfl⟩, q m (by omega)⟩
  | _ => cases ok
theorem txp_var {k : Nat} {y : Str} (hr : Room k X.A) (hN : X.N[1]? = some y) (hv : Vis X.env.scope y) (hd : (y == ("__debug__" : Str)) = false := by decide) (hcd : (y == ("__classdict__" : Str)) = false := by decide) : TxP X (.FormattedValue (.Name y p) (-1) none pos) (okSV X.K) :=
  ⟨_, pe_fmtA hr (pe_var (i := 1) hN hv hd hcd), fun σ H Q v h1 hok q => ⟨v, h1, hok, q⟩⟩
theorem txps_nil : TxPs X [] ok := ⟨_, .nil, fun σ H Q v acc _ _ _ q => q acc⟩
theorem txps_cons (h : TxP X e ok) (g : TxPs X es ok) : TxPs X (e :: es) ok := by
  obtain ⟨t, p, h⟩ := h
  obtain ⟨ts, q, g⟩ := g
  refine ⟨_, .cons p q, fun σ H Q v acc h1 hok hl hq => ?_⟩
  simp only [List.length_cons] at hl
  exact h σ H _ v h1 hok fun z hz => ⟨z, rfl, by rw [app_len]; exact big_line (by omega), g σ H Q v (acc ++ z) h1 hok (by rw [app_len]; omega) hq⟩
theorem txt_js {v1 v2 : Expr} {rest : List Expr} (h : TxPs X (v1 :: v2 :: rest) ok) (hl : 2000 * (v1 :: v2 :: rest).length ≤ 100000 := by decide) : TxtOk X (.JoinedStr (v1 :: v2 :: rest) pos) ok := by
  obtain ⟨ts, p, h⟩ := h
  exact ⟨_, pe_joined p, fun σ H Q v h1 hok q => h σ H _ v Str.empty h1 hok (by show 0 + _ ≤ _; omega) fun z => q z⟩
end
/-! {} -/
def eDic0 : Mo T := fun ρ => some (.ok (.dat (.dic [] [])), ρ)
theorem se_dic0 {X : Cx} {W : WX} {pos : Pos} : SE X W (.Dict [] [] pos) eDic0 := by
  refine ⟨_, pe_dnewK, fun G F H ρ σ us ws Q r ρ' j hl ht hm k => ?_⟩
  cases hm
  intro p hp
  simp only [List.append_nil] at j
  refine k (.ref p) (upd F p (.dK [])) (upd H p (.dK [])) (Ex.new (j.ex.back hp)) hl trivial ?_
  have j2 := (j.frz (o := .dK []) hp).dat (d := .dic [] []) (v := .ref p) (by unfold Rep; exact ⟨p, [], rfl, upd_same, rfl, reps_nil⟩)
  rw [List.append_assoc, List.append_assoc] at j2
  exact j2
/-! calls that let exceptions pass -/
section
variable {X : Cx} {W : WX} {e fe : Expr} {es : List Expr} {ma : Mo T} {n : Mo (List T)} {pos : Pos}
theorem pe_callOS {CX : CXT} {k : Nat} {C g : Addr} {fd : FuncData} {ps : List Str} {sp : Sp} {E : L2.St → XK} {tf : TE} {t : TA} (hf : PE X fe tf) (c : StX.CallO X.K C g) (F : FnOk X.prog X.w X.K X.mg X.base CX k g fd ps sp) (hb : Binds X.K fd ps []) (hr : Room k X.A) (hx : ∀ σ, PassesAt CX X σ (E σ)) (ha : PA X (e :: es) t)
    (ht : eval (.Call fe (e :: es) [] pos) X.env = (do callWith pos (← eval fe X.env) [] (backTo pos (starEach (e :: es) X.env)) (backToKw pos (keywordEach [] X.env))) := by rfl)
    (he : starEach (e :: es) X.env = (false, eval e X.env) :: starEach es X.env := by rfl) (hpl : (backTo pos (starEach es X.env)).any (·.1) = false := by rfl) : PE X (.Call fe (e :: es) [] pos) (fun σ H Q => StX.tCallO X C sp (E σ) tf t σ H Q) := by
  refine ⟨fun pins s σ H Q I h => PyProof.Rows.Call_ (thn (hf.run pins s σ H _ I h) fun u s1 ⟨y, H1, I1, ry, a, ey, q⟩ => ?_) ht⟩
  subst ey
  obtain rfl : u = Value.ref a := ry
  refine StX.callO_with (thn (ha.run pos pins s1 σ H1 _ I1 q) fun us s2 ⟨vs, H2, I2, r, hi, q2⟩ => ?_) he hpl
  obtain ⟨ox, od, J, hd⟩ := StX.insC_at I2 hi
  refine ⟨⟨C, ox, od, J, hd⟩, ?_⟩
  have rv : Vals (V.ref a :: vs) (Value.ref a :: us) := .cons (show RelV (V.ref a) (Value.ref a) from rfl) r
  have hl : (Value.ref a :: us).length = ps.length := by
    have e := rv.length
    rw [F.len _ _ _ _ q2] at e
    exact e.symm
  have bb := hb s2 (Value.ref a :: us) I2.kIn (by rw [List.append_nil]; exact hl)
  rw [List.append_nil] at bb
  refine wpAny_call (PySem.W.kco_code I2.kIn J hd c.at_ c.fn c.fi (codeAny_mono (F.run _ X.stack _ _ ⟨Value.ref a :: us, []⟩ (Value.ref a :: us) (V.ref a :: vs) _ (E σ) hr I2.env0 bb rv q2) fun r s' hq => ?_))
  cases r with
  | error e => exact hx σ pins H2 s2 e s' I2 hq
  | ok fl =>
    cases fl with
    | ret u => exact I2.after hq
    | next => exact False.elim hq
    | brk => exact False.elim hq
    | cont => exact False.elim hq
structure CalX (P : Program) (w : World) (K : PySem.W.Frag) (mg : Str → Option Value) (base : Heap) (k : Nat) (C : Str) (a : Nat) (f : FnD) : Prop where
  ex : ∃ fa fd ps, FnOk P w K mg base (L2.CX P w) k fa fd ps (spD K a f) ∧ Binds K fd ps [] ∧ StX.CallO K (He.ga K C) fa
def calMX (C : Str) (a : Nat) (f : FnD) (ts : List T) : Mo T := match frzs ts with
  | none => nop
  | some ds => if hdObj C ds = true then callM a f [] ts else nop
def eCalX (C : Str) (a : Nat) (f : FnD) (mo : Mo T) (n : Mo (List T)) : Mo T := bnd mo fun t => bnd (refM t) fun t => bnd n fun ts => calMX C a f (t :: ts)
theorem snd_calMX {C : Str} {k : Nat} {f : FnD} (ts : List T) (x : V) (vs : List V) :
    SndX X.K W (ts.map some) ((x :: vs).map some) plT pmT (fun _ _ => True) (fun σ H Q => StX.InsC X H (adr x) (He.ga X.K C) ∧ spD X.K k f (.ref (adr x) :: vs) H Q (WE W σ)) (calMX C k f ts) := by
  intro G F H ρ σ us ws Q r ρ' j hl ht hm kk
  unfold calMX at hm
  cases hf : frzs ts with
  | none => rw [hf] at hm; cases hm
  | some ds =>
    rw [hf] at hm
    dsimp only at hm
    by_cases c : hdObj C ds = true
    · rw [if_pos c] at hm
      have key : x = .ref (adr x) ∧ StX.InsC X H (adr x) (He.ga X.K C) := by
        unfold frzs at hf
        by_cases hb : ts.any T.brw = true
        · rw [if_pos hb] at hf; cases hf
        · rw [if_neg hb] at hf
          cases hf
          have j' := j
          rw [← List.append_assoc, ← List.append_assoc] at j'
          obtain ⟨F1, x1, j1, r1⟩ := j'.freezes (by simp [hl, ht]) (by simpa using hb)
          have e := j1.ex
          cases ts with
          | nil => cases c
          | cons t ts =>
            rw [List.map_cons] at r1 c
            unfold Reps at r1
            obtain ⟨v, vr, e1, r2, _⟩ := r1
            cases e1
            cases hz : t.fz with
            | obj C' ns fs =>
              rw [hz] at c r2
              obtain rfl : C' = C := by simpa [hdObj] using c
              unfold Rep at r2
              obtain ⟨b, dx, ws', eb, h1, _⟩ := r2
              subst eb
              exact ⟨rfl, .inr ⟨dx, _, e _ _ h1⟩⟩
            | _ => rw [hz] at c; cases c
      refine ⟨key.2, ?_⟩
      have z := snd_callM (K := X.K) (W := W) (k := k) (f := f) (dds := []) (dvs := []) (fun _ => reps_nil) ts (x :: vs) G F H ρ σ us ws Q r ρ' j hl ht hm kk
      rw [List.append_nil] at z
      rw [← key.1]
      exact z
    · rw [if_neg c] at hm; cases hm
theorem se_calX {k : Nat} {C : Str} {ar : Nat} {f : FnD} (h : CalX X.prog X.w X.K X.mg X.base k C ar f) (hr : Room k X.A) (tk : Takes X W) (ho : SE X W fe ma) (g : SA X W (e :: es) n)
    (ht : eval (.Call fe (e :: es) [] pos) X.env = (do callWith pos (← eval fe X.env) [] (backTo pos (starEach (e :: es) X.env)) (backToKw pos (keywordEach [] X.env))) := by rfl)
    (he : starEach (e :: es) X.env = (false, eval e X.env) :: starEach es X.env := by rfl) (hpl : (backTo pos (starEach es X.env)).any (·.1) = false := by rfl) : SE X W (.Call fe (e :: es) [] pos) (eCalX C ar f ma n) := by
  obtain ⟨fa, fd, ps, F, hb, co⟩ := h.ex
  obtain ⟨to, q1, z1⟩ := ho
  obtain ⟨ta, q, z⟩ := g
  refine ⟨_, pe_callOS q1 co F hb hr (fun σ => passAt tk σ) q ht he hpl, ?_⟩
  refine SndX.bnd (t2 := fun x σ H Q => ∃ a, x = V.ref a ∧ ta σ H fun vs H2 => StX.InsC X H2 a (He.ga X.K C) ∧ spD X.K ar f (V.ref a :: vs) H2 Q (WE W σ)) rfl z1 fun u x _ => ?_
  have q : SndX X.K W [some u] [some x] plT pmT (fun _ _ => True) (fun σ H Q => ∃ a, x = .ref a ∧ ta σ H fun vs H2 => StX.InsC X H2 (adr x) (He.ga X.K C) ∧ spD X.K ar f (.ref (adr x) :: vs) H2 Q (WE W σ)) (bnd (refM u) fun t => bnd n fun ts => calMX C ar f (t :: ts)) := by
    refine SndX.pre (t1 := fun σ H Q => ∃ a, x = .ref a ∧ Q x H) (t2 := fun y σ H Q => ta σ H fun vs H2 => StX.InsC X H2 (adr x) (He.ga X.K C) ∧ spD X.K ar f (.ref (adr x) :: vs) H2 Q (WE W σ)) rfl snd_refM fun u y hy => ?_
    subst hy
    refine SndX.bnd (L0 := [some u]) (M0 := [some y]) (t2 := fun vs σ H2 Q => StX.InsC X H2 (adr y) (He.ga X.K C) ∧ spD X.K ar f (.ref (adr y) :: vs) H2 Q (WE W σ)) rfl z fun us xs _ => ?_
    exact snd_calMX (u :: us) y xs
  refine q.cg fun σ H Q ⟨a, e1, e2⟩ => ⟨a, e1, ?_⟩
  subst e1
  exact e2
theorem pe_smethS {CX : CXT} {k : Nat} {C p g : Addr} {m x : Str} {fd : FuncData} {ps : List Str} {sp : Sp} {t : TA} {px apos : Pos} {pl : Sem Bool} {E : L2.St → XK} (hg : Gl X x) (hm : X.mg x = some (.ref C)) (c : SMet X.K C m p g) (F : FnOk X.prog X.w X.K X.mg X.base CX k g fd ps sp) (hr : Room k X.A) (hb : Binds X.K fd ps []) (hx : ∀ σ, PassesAt CX X σ (E σ)) (ha : PA X (e :: es) t)
    (hdb : (x == ("__debug__" : Str)) = false := by decide) (hst : starEach (e :: es) X.env = (false, eval e X.env) :: starEach es X.env := by rfl) (hpl : (backTo pos (starEach es X.env)).any (·.1) = false := by rfl)
    (ht : eval (.Call (.Attribute (.Name x px) m apos) (e :: es) [] pos) X.env = (do
      let ov ← eval (.Name x px) X.env
      standAt apos.atName
      let (f, first) ← holding [ov] (getMethod ov m pl)
      callWith pos f first (backTo pos (starEach (e :: es) X.env)) (backToKw pos (keywordEach [] X.env))) := by rfl) :
    PE X (.Call (.Attribute (.Name x px) m apos) (e :: es) [] pos) (fun σ H Q => t σ H fun vs H2 => sp (vs ++ []) H2 Q (E σ)) := by
  refine ⟨fun pins s σ H Q I h => ?_⟩
  obtain ⟨rest, hp⟩ := c.rc
  refine PySem.W.methodCall_KW (pl := pl) (ld_glob I hg hm ?_ hdb) ht
  refine PySem.W.method_cls I.kIn c.rd.ga (PySem.W.cls_bind I.kIn c.rd.rd c.at_ ?_)
  refine wpAny_call (PySem.W.sm_get (s := { s with toks := s.toks + 1 }) I.kIn hp (PySem.W.handed_on rfl ?_))
  have I1 : Inv X pins σ H { s with toks := s.toks + 1 } := I.tok _
  refine PySem.W.callWith_K (h₀ := X.base) (first := []) I.ok.mod.kin c.kp (thn (ha.run pos pins _ σ H _ I1 h) fun us s1 ⟨vs, H1, I2, r, q⟩ => ⟨I2.kIn, ?_⟩) hst hpl
  have q : sp (vs ++ []) H1 Q (E σ) := q
  rw [List.append_nil] at q
  exact run_fnS F hr hb (hx σ) I2 r q
theorem se_smethX {k : Nat} {C m : Str} {px apos : Pos} {ar : Nat} {f : FnD} {pl : Sem Bool} (h : SmOk X.prog X.w X.K X.mg X.base k C m ar f) (hr : Room k X.A) (tk : Takes X W) (g : SA X W (e :: es) n) (hg : Gl X C := by rfl)
    (hdb : (C == ("__debug__" : Str)) = false := by decide) (hst : starEach (e :: es) X.env = (false, eval e X.env) :: starEach es X.env := by rfl) (hpl : (backTo pos (starEach es X.env)).any (·.1) = false := by rfl)
    (ht : eval (.Call (.Attribute (.Name C px) m apos) (e :: es) [] pos) X.env = (do
      let ov ← eval (.Name C px) X.env
      standAt apos.atName
      let (f, first) ← holding [ov] (getMethod ov m pl)
      callWith pos f first (backTo pos (starEach (e :: es) X.env)) (backToKw pos (keywordEach [] X.env))) := by rfl) :
    SE X W (.Call (.Attribute (.Name C px) m apos) (e :: es) [] pos) (eCall ar f [] n) := by
  obtain ⟨p, ga, fd, ps, c, F, hb, hm⟩ := h.ex
  obtain ⟨ta, q, z⟩ := g
  exact ⟨_, pe_smethS hg hm c F hr hb (fun σ => passAt tk σ) q hdb hst hpl ht, SndX.bnd (t2 := fun vs σ H Q => spD X.K ar f (vs ++ []) H Q (WE W σ)) rfl z fun us xs _ => snd_callM (fun _ => reps_nil) us xs⟩
end
end SL

set_option Elab.async false
set_option linter.all false
set_option maxRecDepth 100000
set_option maxHeartbeats 4000000
/-! S-layer 37: texts: signs, str, int, join, split, order; chains of two comparisons; methods with arguments on a lent instance; x.f += k -/
namespace SL
open PySem PySem.Spec L2
/-! texts as what is walked -/
def chrD (s : Str) : List D := s.cps.toList.map fun c => .str ⟨#[c]⟩
def iChr (m : Mo T) : Mo (List D) := bnd m fun t ρ => match t with
  | .dat (.str s) => some (.ok (chrD s), ρ)
  | _ => none
theorem wk_chr {K : PySem.W.Frag} {F : Hp} {s : Str} : Wk K (Its s) F (chrD s) := by
  intro F1 H e1 e2 i
  have hl : (chrD s).length = s.cps.size := by unfold chrD; simp
  refine ⟨fun hi => (show s.cps.size ≤ i by rw [hl] at hi; exact hi), fun d hd => ?_⟩
  unfold chrD at hd
  rw [List.getElem?_map] at hd
  cases e : s.cps.toList[i]? with
  | none => rw [e] at hd; cases hd
  | some c =>
    rw [e] at hd
    have hd2 : D.str ⟨#[c]⟩ = d := Option.some.inj hd
    subst hd2
    have hi := (List.getElem?_eq_some_iff.mp e).1
    refine ⟨(show i < s.cps.size by simpa using hi), fun x H' ⟨e1, c', y1, y2⟩ => ?_⟩
    subst e1 y2
    have hc : c' = c := by
      rw [Array.getElem?_toList] at e
      rw [e] at y1
      exact (Option.some.inj y1).symm
    subst hc
    exact ⟨F1, Ex.rfl, Ex.rfl, e2, fun a o z => .inl z, rep_str⟩
section
variable {X : Cx} {W : WX} {tg iter a b c e o : Expr} {es : List Expr} {ma mb mc mo : Mo T} {pos : Pos} {K : PySem.W.Frag} {n : Mo (List T)}
theorem si_chr (h : SE X W iter ma) : SI X W tg iter (iChr ma) := by
  obtain ⟨te, p, z⟩ := h
  refine ⟨_, pi_str p, ?_⟩
  intro G F H ρ σ ts vs R r ρ' j hl ht hm k
  unfold iChr bnd at hm
  cases e : ma ρ with
  | none => rw [e] at hm; cases hm
  | some q =>
    obtain ⟨r1, ρ1⟩ := q
    rw [e] at hm
    cases r1 with
    | exc x =>
      cases hm
      exact z G F H ρ σ ts vs _ (.exc x) ρ' (by simpa using j) hl ht e k
    | ok t =>
      simp only at hm
      cases t with
      | lst _ _ => cases hm
      | ins _ _ _ _ => cases hm
      | dat d =>
        cases d with
        | str s =>
          cases hm
          refine z G F H ρ σ ts vs _ (.ok (.dat (.str s))) ρ' (by simpa using j) hl ht e fun v F' H' e1 l1 _ j1 => ?_
          obtain ⟨F2, x2, j2, rd⟩ := j1.fzLast l1 ht rfl
          have rd : Rep X.K F2 (.str s) v := rd
          have hv : v = .str s := rs rd
          exact ⟨s, hv, k _ F2 H' (e1.trans x2) l1 wk_chr (app_pre j2 l1 ht)⟩
        | _ => cases hm
/-! a text's method with one argument -/
def strM (t : T) : Mo T := match t with
  | .dat (.str s) => ret (.dat (.str s))
  | _ => nop
theorem snd_strM {t : T} {x : V} : SndX K W [some t] [some x] plT pmT (fun t v => v = x) (fun σ H Q => tyV K "str" x H ∧ Q x H) (strM t) := by
  intro G F H ρ σ us ws Q r ρ' j hl ht hm k
  cases t with
  | lst _ _ => cases hm
  | ins _ _ _ _ => cases hm
  | dat d =>
    cases d with
    | str s =>
      cases hm
      have hold := j.last hl ht
      have h : Rep K F (.str s) x := hold
      have hx : x = .str s := rs h
      subst hx
      exact ⟨rfl, k (.str s) F H Ex.rfl hl rfl j⟩
    | _ => cases hm
def eStr (f : D → D → Option Out) (mo ma : Mo T) : Mo T := bnd mo fun t => bnd (strM t) fun t => bnd ma fun u => opM (two f) [t, u]
theorem se_bms {id : String} {name : Str} {r : V → List V → Hp → VK → Prop} {f : D → D → Option Out} {apos cpos : Pos} (sl : Slot "str" name id) (ty : typeOf (.builtin id) = pure (.type "method_descriptor")) (mt : MtR X id r)
    (h : ∀ F H Q x y d u o, Ex F H → Rep X.K F d x → Rep X.K F u y → f d u = some o → OutOk X.K F H Q o → r x [y] H Q) (ho : SE X W o mo) (ha : SE X W e ma)
    (hbase : attributeBase o name X.env (eval o X.env) = eval o X.env := by rfl)
    (hfew : ((backTo cpos (starEach (e :: []) X.env)).all (fun x => !x.1) && (backToKw cpos (keywordEach [] X.env)).all (fun x => x.1.isSome)
      && decide ((e :: []).length + ([] : List Keyword).length + (if ([] : List Keyword).isEmpty then 0 else 1) < 30)) = true := by rfl)
    (hline : (apos.endLine == cpos.line) = true := by rfl) (hst : starEach (e :: []) X.env = (false, eval e X.env) :: starEach [] X.env := by rfl) (hplain : (backTo cpos (starEach [] X.env)).any (·.1) = false := by rfl) :
    SE X W (.Call (.Attribute o name apos) [e] [] cpos) (eStr f mo ma) := by
  obtain ⟨to, p, z⟩ := ho
  obtain ⟨te, p2, z2⟩ := ha
  refine ⟨_, pe_bm PySem.F.plainAttrs_str sl ty mt p (pa_cons p2 pa_nil hst) hbase hfew hline hst hplain, ?_⟩
  refine SndX.bnd (t2 := fun x σ H Q => tyV X.K "str" x H ∧ te σ H fun y H2 => r x [y] H2 Q) rfl z fun t x _ => ?_
  refine SndX.pre (t1 := fun σ H Q => tyV X.K "str" x H ∧ Q x H) (t2 := fun y σ H Q => te σ H fun w H2 => r x [w] H2 Q) rfl snd_strM fun u y hy => ?_
  subst hy
  refine SndX.bnd (L0 := [some u]) (M0 := [some y]) (t2 := fun w σ H2 Q => r y [w] H2 Q) rfl z2 fun w yy _ => ?_
  refine snd_out (f := two f) [u, w] [y, yy] fun F H σ Q ds o e rd hf q => ?_
  obtain ⟨d, e', rfl, r1, r2⟩ := reps2 rd
  exact h F H Q _ _ d e' o e r1 r2 hf q
def strsOf : List D → Option (List Str)
  | [] => some []
  | .str s :: ds => (strsOf ds).map (s :: ·)
  | _ => none
theorem strs_rep {F : Hp} : ∀ {ds : List D} {vs : List V} {ys : List Str}, strsOf ds = some ys → Reps K F ds vs → vs = ys.map V.str
  | [], vs, ys, h, r => by cases h; unfold Reps at r; exact r
  | d :: ds, vs, ys, h, r => by
    unfold Reps at r
    obtain ⟨v, vr, rfl, r1, r2⟩ := r
    cases d with
    | str s =>
      unfold strsOf at h
      cases e : strsOf ds with
      | none => rw [e] at h; cases h
      | some zs =>
        rw [e] at h
        cases h
        rw [rs r1, strs_rep e r2]
        rfl
    | _ => cases h
theorem reps_strs {F : Hp} : ∀ ys : List Str, Reps K F (ys.map .str) (ys.map V.str)
  | [] => reps_nil
  | y :: ys => reps_cons rep_str (reps_strs ys)
def joinF (d e : D) : Option Out := match d, (itemsD e).bind strsOf with
  | .str a, some ys => if (ys.map (·.length)).sum + ys.length * a.length ≤ 100000 then some (.dt (.str (Txt.join a ys))) else none
  | _, _ => none
theorem op_join {F H : Hp} {Q : VK} {x y : V} {d u : D} {o : Out} (ex : Ex F H) (r1 : Rep K F d x) (r2 : Rep K F u y) (hf : joinF d u = some o) (q : OutOk K F H Q o) : ∃ a p, ∃ ys : List Str, x = V.str a ∧ [y] = [V.ref p] ∧ (SqL K H p (ys.map V.str) ∨ SqT K H p (ys.map V.str)) ∧ (ys.map (·.length)).sum + ys.length * a.length ≤ 16777216 ∧ Q (.str (Txt.join a ys)) H := by
  unfold joinF at hf
  cases d with
  | str a =>
    cases hi : itemsD u with
    | none => rw [hi] at hf; cases hf
    | some xs =>
      rw [hi] at hf
      cases hs : strsOf xs with
      | none => simp only [Option.bind_some, hs] at hf; cases hf
      | some ys =>
        simp only [Option.bind_some, hs] at hf
        by_cases c : (ys.map (·.length)).sum + ys.length * a.length ≤ 100000
        · rw [if_pos c] at hf
          cases hf
          obtain ⟨p, vs, rfl, h1, h2⟩ := items_rep ex hi r2
          have hv := strs_rep hs h2
          subst hv
          exact ⟨a, p, ys, rs r1, rfl, h1, Nat.le_trans c (by decide), q.val ex rep_str⟩
        · rw [if_neg c] at hf; cases hf
  | _ => cases hf
theorem se_join {apos cpos : Pos} (ho : SE X W o mo) (ha : SE X W e ma)
    (hbase : attributeBase o "join" X.env (eval o X.env) = eval o X.env := by rfl)
    (hfew : ((backTo cpos (starEach (e :: []) X.env)).all (fun x => !x.1) && (backToKw cpos (keywordEach [] X.env)).all (fun x => x.1.isSome)
      && decide ((e :: []).length + ([] : List Keyword).length + (if ([] : List Keyword).isEmpty then 0 else 1) < 30)) = true := by rfl)
    (hline : (apos.endLine == cpos.line) = true := by rfl) (hst : starEach (e :: []) X.env = (false, eval e X.env) :: starEach [] X.env := by rfl) (hplain : (backTo cpos (starEach [] X.env)).any (·.1) = false := by rfl) :
    SE X W (.Call (.Attribute o "join" apos) [e] [] cpos) (eStr joinF mo ma) := se_bms PySem.F.slot_str_join PySem.F.type_str_join mt_join (fun F H Q x y d u o ex r1 r2 hf q => op_join ex r1 r2 hf q) ho ha hbase hfew hline hst hplain
def splitF (d e : D) : Option Out := match d, e with
  | .str a, .str b => if b.length ≠ 0 ∧ a.length ≤ 100000 then some (.nl ((Txt.split a b).map .str)) else none
  | _, _ => none
theorem se_split {apos cpos : Pos} (ho : SE X W o mo) (ha : SE X W e ma)
    (hbase : attributeBase o "split" X.env (eval o X.env) = eval o X.env := by rfl)
    (hfew : ((backTo cpos (starEach (e :: []) X.env)).all (fun x => !x.1) && (backToKw cpos (keywordEach [] X.env)).all (fun x => x.1.isSome)
      && decide ((e :: []).length + ([] : List Keyword).length + (if ([] : List Keyword).isEmpty then 0 else 1) < 30)) = true := by rfl)
    (hline : (apos.endLine == cpos.line) = true := by rfl) (hst : starEach (e :: []) X.env = (false, eval e X.env) :: starEach [] X.env := by rfl) (hplain : (backTo cpos (starEach [] X.env)).any (·.1) = false := by rfl) :
    SE X W (.Call (.Attribute o "split" apos) [e] [] cpos) (eStr splitF mo ma) := se_bms PySem.F.slot_str_split PySem.F.type_str_split mt_split (fun F H Q x y d u o ex r1 r2 hf q => by
  unfold splitF at hf
  cases d with
  | str a =>
    cases u with
    | str b =>
      dsimp only at hf
      by_cases c : b.length ≠ 0 ∧ a.length ≤ 100000
      · rw [if_pos c] at hf
        cases hf
        exact ⟨a, b, rs r1, by rw [rs r2], by simpa using c.1, Nat.le_trans (Nat.add_le_add_right c.2 2) (by decide), fun p hp => q p _ hp (reps_strs _)⟩
      · rw [if_neg c] at hf; cases hf
    | _ => cases hf
  | _ => cases hf) ho ha hbase hfew hline hst hplain
/-! str(n), int(s) -/
def strF : List D → Option Out
  | [.int i] => if i.natAbs.log2 < 1920 then some (.dt (.str (Str.ofString (toString i)))) else none
  | _ => none
theorem co_str : CallOk K (fun xs H Q => ∃ i, xs = [V.int i] ∧ i.natAbs.log2 < 1920 ∧ Q (.str (Str.ofString (toString i))) H) strF := by
  intro F H Q vs ds o ex rd hf q
  match ds, hf with
  | [.int i], hf =>
    obtain ⟨x, rfl, a1⟩ := reps_one rd
    have hx := ri a1
    subst hx
    have hf : (if i.natAbs.log2 < 1920 then some (Out.dt (.str (Str.ofString (toString i)))) else none) = some o := hf
    by_cases c : i.natAbs.log2 < 1920
    · rw [if_pos c] at hf
      cases hf
      exact ⟨i, rfl, c, q.val ex rep_str⟩
    · rw [if_neg c] at hf; cases hf
def intSF : List D → Option Out
  | [.str a] => match intText? a with
    | some n => if a.length ≤ 640 then some (.dt (.int n)) else none
    | none => none
  | _ => none
theorem co_intS : CallOk K (fun xs H Q => ∃ a n, xs = [V.str a] ∧ intText? a = some n ∧ a.length ≤ 640 ∧ Q (.int n) H) intSF := by
  intro F H Q vs ds o ex rd hf q
  match ds, hf with
  | [.str a], hf =>
    obtain ⟨x, rfl, a1⟩ := reps_one rd
    have hx := rs a1
    subst hx
    have hf : (match intText? a with
      | some n => if a.length ≤ 640 then some (Out.dt (.int n)) else none
      | none => none) = some o := hf
    cases e : intText? a with
    | none => rw [e] at hf; cases hf
    | some n =>
      rw [e] at hf
      dsimp only at hf
      by_cases c : a.length ≤ 640
      · rw [if_pos c] at hf
        cases hf
        exact ⟨a, n, rfl, e, c, q.val ex rep_int⟩
      · rw [if_neg c] at hf; cases hf
/-! order of texts -/
def leSF (d e : D) : Option Out := match d, e with
  | .str a, .str b => some (.dt (.bl (!decide (b.cps.toList < a.cps.toList))))
  | _, _ => none
theorem o2_leS : Op2 K (fun x y H Q => ∃ i j, x = .str i ∧ y = .str j ∧ Q (.bl (!decide (j.cps.toList < i.cps.toList))) H) leSF := by
  intro F H Q x y d e o ex r1 r2 hf q
  unfold leSF at hf
  split at hf
  · cases hf; cases rs r1; cases rs r2; exact ⟨_, _, rfl, rfl, q.bl ex⟩
  · cases hf
/-! x.m(e, ..), the instance of slot i lent -/
theorem se_metB {C m x : Str} {i ar k : Nat} {f : FnB} {xp apos : Pos} {pl : Sem Bool} (h : MetB X.prog X.w X.K X.mg X.base k C m ar f) (hr : Room k X.A) (g : SA X W (e :: es) n) (hN : X.N[i]? = some x) (hv : Vis X.env.scope x) (hd : (x == ("__debug__" : Str)) = false := by decide) (hcd : (x == ("__classdict__" : Str)) = false := by decide)
    (hst : starEach (e :: es) X.env = (false, eval e X.env) :: starEach es X.env := by rfl) (hpl : (backTo pos (starEach es X.env)).any (·.1) = false := by rfl)
    (ht : eval (.Call (.Attribute (.Name x xp) m apos) (e :: es) [] pos) X.env = (do
      let ov ← eval (.Name x xp) X.env
      standAt apos.atName
      let (f, first) ← holding [ov] (getMethod ov m pl)
      callWith pos f first (backTo pos (starEach (e :: es) X.env)) (backToKw pos (keywordEach [] X.env))) := by rfl) :
    SE X W (.Call (.Attribute (.Name x xp) m apos) (e :: es) [] pos) (eMetB C m ar f i n) := by
  obtain ⟨fa, fd, ps, F, hc, hm, hb⟩ := h.ex
  obtain ⟨ta, q, z⟩ := g
  exact ⟨_, pe_meth (pe_var hN hv hd hcd) hc hm F hr hb .nil passL q hst hpl ht, snd_metB z⟩
end
end SL

set_option Elab.async false
set_option linter.all false
set_option maxRecDepth 100000
set_option maxHeartbeats 4000000
/-! S-layer 38: a < b < c (b an int or a text); x.f += k -/
namespace SL
open PySem PySem.Spec L2
section
variable {X : Cx} {W : WX} {tg iter a b c e o : Expr} {es : List Expr} {ma mb mc mo : Mo T} {pos : Pos} {K : PySem.W.Frag} {n : Mo (List T)}
def vOf : D → Option V
  | .int i => some (.int i)
  | .str s => some (.str s)
  | _ => none
theorem vOf_rep {F : Hp} {d : D} {x v : V} (h : vOf d = some v) (r : Rep K F d x) : x = v := by
  cases d with
  | int i => cases h; exact ri r
  | str s => cases h; exact rs r
  | _ => cases h
theorem vOf_any {F : Hp} {d : D} {v : V} (h : vOf d = some v) : Rep K F d v := by
  cases d with
  | int i => cases h; exact rep_int
  | str s => cases h; exact rep_str
  | _ => cases h
def chM (f g : D → D → Option Out) (mc : Mo T) (t u : T) : Mo T := fun ρ => match t, u with
  | .dat d, .dat e => match f d e, vOf e with
    | some (.dt (.bl true)), some _ => bnd mc (fun w => opM (one (g e)) [w]) ρ
    | some (.dt (.bl false)), _ => some (.ok (.dat (.bl false)), ρ)
    | _, _ => none
  | _, _ => none
/-- a op b op2 c -/
def eCh (f g : D → D → Option Out) (ma mb mc : Mo T) : Mo T := bnd ma fun t => bnd mb fun u => chM f g mc t u
theorem snd_ch {r r' : R2} {f g : D → D → Option Out} {tc : TE} (hf : Op2 K r f) (hg : Op2 K r' g) (zc : SndE K W tc mc) (t u : T) (x y : V) :
    SndX K W [some t, some u] [some x, some y] plT pmT (fun _ _ => True) (fun σ H Q => r x y H fun z H3 => ∃ k, z = V.bl k ∧ (if k = true then tc σ H3 fun w H4 => r' y w H4 Q else Q (.bl false) H3)) (chM f g mc t u) := by
  intro G F H ρ σ us ws Q rr ρ' j0 hl ht hm k
  unfold chM at hm
  cases t with
  | lst _ _ => cases hm
  | ins _ _ _ _ => cases hm
  | dat d =>
  cases u with
  | lst _ _ => cases hm
  | ins _ _ _ _ => cases hm
  | dat e =>
  dsimp only at hm
  have ja : J K G F H (ρ ++ ((us ++ [some (.dat d)]) ++ [some (.dat e)])) (σ ++ ((ws ++ [some x]) ++ [some y])) := by simpa using j0
  have re : Rep K F e y := ja.last hl (show (us ++ [some (T.dat d)]).length = (ws ++ [some x]).length by simp [ht])
  have jb : J K G F H ((ρ ++ (us ++ [some (.dat d)])) ++ [some (.dat e)]) ((σ ++ (ws ++ [some x])) ++ [some y]) := by simpa using j0
  have jc := jb.pre (by simp [hl, ht])
  have rd : Rep K F d x := jc.last hl ht
  have jp : J K G F H (ρ ++ us) (σ ++ ws) := by
    have jd : J K G F H ((ρ ++ us) ++ [some (.dat d)]) ((σ ++ ws) ++ [some x]) := by simpa using jc
    exact jd.pre (by simp [hl, ht])
  cases ef : f d e with
  | none => rw [ef] at hm; cases hm
  | some o =>
    rw [ef] at hm
    cases o with
    | nl _ => cases hm
    | dt z =>
      cases z with
      | bl b =>
        refine hf F H _ x y d e (.dt (.bl b)) j0.ex rd re ef ?_
        intro v F' H' g1 g2 g3 g4 g5
        have hv : v = .bl b := rb g5
        refine ⟨b, hv, ?_⟩
        have j4 : J K G F' H' (ρ ++ us) (σ ++ ws) := jp.grow g1 g2 g3 g4
        cases b with
        | false =>
          dsimp only at hm
          cases hm
          rw [if_neg (by decide)]
          exact k (.bl false) F' H' g1 hl trivial (by
            have := j4.dat (d := .bl false) (v := .bl false) rep_bl
            rw [List.append_assoc, List.append_assoc] at this
            exact this)
        | true =>
          rw [if_pos rfl]
          cases ev : vOf e with
          | none => rw [ev] at hm; cases hm
          | some ve =>
            rw [ev] at hm
            have hy : y = ve := vOf_rep ev re
            subst hy
            have zz : SndE K W (fun σ H Q => tc σ H fun w H4 => r' y w H4 Q) (bnd mc fun w => opM (one (g e)) [w]) := by
              refine SndX.bnd (t2 := fun w σ H4 Q => r' y w H4 Q) rfl zc fun w yy _ => ?_
              refine snd_out (f := one (g e)) [w] [yy] fun F2 H2 σ2 Q2 ds o ex2 rd2 hf2 q2 => ?_
              obtain ⟨d2, rfl, r2⟩ := reps1 rd2
              exact hg F2 H2 Q2 y yy e d2 o ex2 (vOf_any ev) r2 hf2 q2
            refine zz G F' H' ρ σ us ws Q rr ρ' (by simpa using j4) hl ht hm ?_
            cases rr with
            | ok a => exact fun v F2 H2 h1 h2 h3 h4 => k v F2 H2 (g1.trans h1) h2 h3 h4
            | exc x => exact fun c dd F2 H2 h1 h2 h3 h4 => k c dd F2 H2 (g1.trans h1) h2 h3 h4
      | _ => cases hm
theorem snd_eCh {r r' : R2} {f g : D → D → Option Out} {ta tb tc : TE} (hf : Op2 K r f) (hg : Op2 K r' g) (sa : SndE K W ta ma) (sb : SndE K W tb mb) (sc : SndE K W tc mc) : SndE K W (tChain r r' ta tb tc) (eCh f g ma mb mc) :=
  SndX.bnd (t2 := fun x σ H Q => tb σ H fun y H2 => r x y H2 fun z H3 => ∃ k, z = V.bl k ∧ (if k = true then tc σ H3 fun w H4 => r' y w H4 Q else Q (.bl false) H3)) rfl sa fun t x _ =>
    SndX.bnd (L0 := [some t]) (M0 := [some x]) (t2 := fun y σ H2 Q => r x y H2 fun z H3 => ∃ k, z = V.bl k ∧ (if k = true then tc σ H3 fun w H4 => r' y w H4 Q else Q (.bl false) H3)) rfl sb fun u y _ => snd_ch hf hg sc t u x y
theorem se_ch {op op' : CmpOp} {r r' : R2} {f g : D → D → Option Out} (ho : OpR X (compareOp op) r) (hf : Op2 X.K r f) (ho' : OpR X (compareOp op') r') (hg : Op2 X.K r' g) (ha : SE X W a ma) (hb : SE X W b mb) (hc : SE X W c mc) (hm : lastMarks [op, op'] [b, c] = false := by rfl) :
    SE X W (.Compare a [op, op'] [b, c] pos) (eCh f g ma mb mc) := by
  obtain ⟨ta, pa, sa⟩ := ha
  obtain ⟨tb, pb, sb⟩ := hb
  obtain ⟨tc, pc, sc⟩ := hc
  exact ⟨_, pe_chain ho ho' pa pb pc hm, snd_eCh hf hg sa sb sc⟩
theorem sc_ch {op op' : CmpOp} {r r' : R2} {f g : D → D → Option Out} (ho : OpR X (compareOp op) r) (hf : Op2 X.K r f) (ho' : OpR X (compareOp op') r') (hg : Op2 X.K r' g) (ha : SE X W a ma) (hb : SE X W b mb) (hc : SE X W c mc) (hm : lastMarks [op, op'] [b, c] = false := by rfl) :
    SC X W (.Compare a [op, op'] [b, c] pos) (tst (eCh f g ma mb mc)) := by
  obtain ⟨ta, pa, sa⟩ := ha
  obtain ⟨tb, pb, sb⟩ := hb
  obtain ⟨tc, pc, sc⟩ := hc
  exact ⟨_, pt_chain ho ho' pa pb pc hm, snd_tst (snd_eCh hf hg sa sb sc)⟩
/-! x.f += w, the instance of slot i -/
def sFldInc (cs : List Str) (i : Nat) (f : Str) (w : Int) : So := fun ρ => match atS i ρ with
  | some (.ins b C ns xs) => if cs.contains C = true ∧ ns.length < 900 then (match idxOf f ns xs with
    | some (.int v) => some (.next, ρ.set i (some (.ins b C (putO f (.int (v + w)) ns xs).1 (putO f (.int (v + w)) ns xs).2)))
    | _ => none) else none
  | _ => none
theorem ss_fldInc {i : Nat} {x f : Str} {cs : List Str} {px p2 pw : Pos} {jw : Nat} {w : Int} (hc : FldOk X.K cs f) (hN : X.N[i]? = some x := by rfl) (hv : Vis X.env.scope x := by first | exact Or.inl rfl | exact Or.inr (Or.inl rfl) | exact Or.inr (Or.inr rfl)) (hd : (x == ("__debug__" : Str)) = false := by decide)
    (hcd : (x == ("__classdict__" : Str)) = false := by decide) : SS X W (.AugAssign (.Attribute (.Name x px) f p2) .Add (.Constant (.int w) jw pw) pos) (sFldInc cs i f w) := by
  refine ⟨_, ps_fldaug (pe_var hN hv hd hcd) pe_int in_add, ?_⟩
  intro G F H ρ σ us ws D fl ρ' j hl ht hm k
  unfold sFldInc at hm
  cases e2 : atS i ρ with
  | none => rw [e2] at hm; cases hm
  | some t =>
    rw [e2] at hm
    cases t with
    | dat d => cases hm
    | lst _ _ => cases hm
    | ins b C ns xs =>
      simp only at hm
      by_cases hz : cs.contains C = true ∧ ns.length < 900
      · rw [if_pos hz] at hm
        cases hi : idxOf f ns xs with
        | none => rw [hi] at hm; cases hm
        | some y =>
          rw [hi] at hm
          cases y with
          | int v =>
            cases hm
            obtain ⟨vv, m1, m2, m3, m4, m5⟩ := j.slot hl e2
            obtain ⟨aa, dx, vs, q1, q2, q3, q4, q5⟩ := m2
            subst q1
            obtain ⟨yv, hy, ry⟩ := idx_rep hi q5
            have hyv := ri ry
            subst hyv
            obtain ⟨vs', p1, p2, p3⟩ := putO_rep (f := f) (rep_int (i := v + w)) q4 q5
            obtain ⟨c1, c2⟩ := hc.ok C (by simpa using hz.1)
            refine ⟨_, m1, aa, _, dx, _, _, rfl, q3, c1, c2, hy, v, w, rfl, rfl, dx, _, q3, ?_, ?_⟩
            · rw [List.length_zip]
              have := hz.2
              omega
            · rw [p1]
              have j3 := j.mut (t' := .ins b C (putO f (.int (v + w)) ns xs).1 (putO f (.int (v + w)) ns xs).2) (o := .ins (He.ga X.K C) dx ((putO f (.int (v + w)) ns xs).1.zip vs')) m4 rfl rfl rfl m5 ⟨aa, dx, vs', rfl, q2, upd_same, p2, p3⟩
              rw [List.set_append_left _ _ m3] at j3
              exact k σ F _ Ex.rfl (by simpa using hl) rfl j3
          | _ => cases hm
      · rw [if_neg hz] at hm; cases hm
end
end SL

set_option Elab.async false
set_option linter.all false
set_option maxRecDepth 100000
set_option maxHeartbeats 4000000
/-! S-layer 39: x.m(..), the instance of slot i lent to its method, which may end with an exception -/
namespace SL
open PySem L2 PyProof.Rows
def eCallBX (k : Nat) (f : FnB) (i : Nat) (n : Mo (List T)) : Mo T := fun ρ => match atS i ρ with
  | none => none
  | some _ => bnd n (fun ts ρ1 => match frzs ts, atS i ρ1 with
    | some ds, some t => if t.own = true ∧ ds.length = k then (match f (t.setB true) ds with
      | some (.ok d, t') => if t'.own = true then some (.ok (.dat d), ρ1.set i (some (t'.setB t.brw))) else none
      | some (.exc x, t') => if t'.own = true then some (.exc x, ρ1.set i (some (t'.setB t.brw))) else none
      | _ => none) else none
    | _, _ => none) ρ
def eMetBX (C m : Str) (k : Nat) (f : FnB) (i : Nat) (n : Mo (List T)) : Mo T := fun ρ => match ρ[i]? with
  | some (some (SL.T.ins _ C' ns _)) => if C' = C ∧ ns.contains m = false then eCallBX k f i n ρ else none
  | _ => none
theorem snd_callBX {K : PySem.W.Frag} {W : WX} {ta : TA} {n : Mo (List T)} {i ar : Nat} {g : FnB} (z : SndA K W ta n) :
    SndE K W (fun σ H Q => ∃ v, σ[i]? = some (some v) ∧ ta σ H fun vs H1 => spB K ar g ((v :: vs) ++ []) H1 Q (WE W σ)) (eCallBX ar g i n) := by
  intro G F H ρ σ us ws Q r ρ' j hl ht hm k
  simp only [List.append_nil] at j
  unfold eCallBX at hm
  cases e0 : atS i ρ with
  | none => rw [e0] at hm; cases hm
  | some t0 =>
    rw [e0] at hm
    simp only at hm
    obtain ⟨v, h1, _⟩ := j.slot hl e0
    refine ⟨v, h1, ?_⟩
    unfold bnd at hm
    cases en : n ρ with
    | none => rw [en] at hm; cases hm
    | some qq =>
      obtain ⟨r1, ρ1⟩ := qq
      rw [en] at hm
      refine z G F H ρ σ us ws _ r1 ρ1 (by simpa using j) hl ht en ?_
      cases r1 with
      | exc x => cases hm; exact k
      | ok ts =>
        intro vs F' H' e1 l1 _ j1
        dsimp only at hm
        cases hf : frzs ts with
        | none => rw [hf] at hm; cases hm
        | some ds =>
          rw [hf] at hm
          cases e2 : atS i ρ1 with
          | none => rw [e2] at hm; cases hm
          | some t =>
            rw [e2] at hm
            dsimp only at hm
            by_cases hc : t.own = true ∧ ds.length = ar
            · rw [if_pos hc] at hm
              cases eg : g (t.setB true) ds with
              | none => rw [eg] at hm; cases hm
              | some o =>
                obtain ⟨o1, t'⟩ := o
                rw [eg] at hm
                cases o1 with
                | exc x =>
                  dsimp only at hm
                  by_cases ho' : t'.own = true
                  · rw [if_pos ho'] at hm
                    cases hm
                    unfold frzs at hf
                    by_cases hb : ts.any T.brw = true
                    · rw [if_pos hb] at hf; cases hf
                    · rw [if_neg hb] at hf
                      cases hf
                      rw [← List.append_assoc, ← List.append_assoc] at j1
                      obtain ⟨F1, x1, j2, rd⟩ := j1.freezes (by simp [l1, ht]) (by simpa using hb)
                      have j3 := j2.pre (by simp [l1, ht])
                      obtain ⟨v', m1, m2, m3, m4, m5⟩ := j3.slot l1 e2
                      rw [h1] at m1; cases m1
                      obtain ⟨ad, u, ea, _, _⟩ := m2.adr hc.1
                      subst ea
                      refine ⟨F1, t.setB true, .ref ad, _, vs ++ [], .exc x, t', rfl, j3.ex, setB_hold m2, by rw [setB_own]; exact hc.1, setB_brw hc.1, by rw [List.append_nil]; exact rd, hc.2, eg, ?_⟩
                      intro c dd F2 H2 g1 g2 g3 g4 g5 g6
                      have j4 := j3.call m4 hc.1 m5 g1 g2 g3 g4 g5 ho'
                      rw [List.set_append_left _ _ m3] at j4
                      exact k c dd F2 H2 ((e1.trans x1).trans g1) (by simpa using l1) j4 g6
                  · rw [if_neg ho'] at hm; cases hm
                | ok d =>
                  dsimp only at hm
                  by_cases ho' : t'.own = true
                  · rw [if_pos ho'] at hm
                    cases hm
                    unfold frzs at hf
                    by_cases hb : ts.any T.brw = true
                    · rw [if_pos hb] at hf; cases hf
                    · rw [if_neg hb] at hf
                      cases hf
                      rw [← List.append_assoc, ← List.append_assoc] at j1
                      obtain ⟨F1, x1, j2, rd⟩ := j1.freezes (by simp [l1, ht]) (by simpa using hb)
                      have j3 := j2.pre (by simp [l1, ht])
                      obtain ⟨v', m1, m2, m3, m4, m5⟩ := j3.slot l1 e2
                      rw [h1] at m1; cases m1
                      obtain ⟨ad, u, ea, _, _⟩ := m2.adr hc.1
                      subst ea
                      refine ⟨F1, t.setB true, .ref ad, _, vs ++ [], .ok d, t', rfl, j3.ex, setB_hold m2, by rw [setB_own]; exact hc.1, setB_brw hc.1, by rw [List.append_nil]; exact rd, hc.2, eg, ?_⟩
                      intro rv F2 H2 g1 g2 g3 g4 g5 g6
                      have j4 := j3.call m4 hc.1 m5 g1 g2 g3 g4 g5 ho'
                      rw [List.set_append_left _ _ m3] at j4
                      refine k rv F2 H2 ((e1.trans x1).trans g1) (by simpa using l1) trivial ?_
                      rw [← List.append_assoc, ← List.append_assoc]
                      exact j4.dat g6
                  · rw [if_neg ho'] at hm; cases hm
            · rw [if_neg hc] at hm; cases hm
theorem snd_metBX {K : PySem.W.Frag} {W : WX} {ta : TA} {n : Mo (List T)} {ar i : Nat} {g : FnB} {C m : Str} (z : SndA K W ta n) :
    SndE K W (tMethE (He.ga K C) m (spB K ar g) [] (fun σ => WE W σ) (tVar i) ta) (eMetBX C m ar g i n) := by
  intro G F H ρ σ us ws Q r ρ' j hl ht hm k
  have j' := j
  simp only [List.append_nil] at j'
  unfold eMetBX at hm
  cases e0 : ρ[i]? with
  | none => rw [e0] at hm; cases hm
  | some o =>
    cases o with
    | none => rw [e0] at hm; cases hm
    | some t0 =>
      cases t0 with
      | dat _ => rw [e0] at hm; cases hm
      | lst _ _ => rw [e0] at hm; cases hm
      | ins b C' ns xs =>
        rw [e0] at hm
        dsimp only at hm
        by_cases hC : C' = C ∧ ns.contains m = false
        · rw [if_pos hC] at hm
          obtain ⟨rfl, hnm⟩ := hC
          have hi := (List.getElem?_eq_some_iff.mp e0).1
          obtain ⟨v, hv, hold, _⟩ := j'.ok i (.ins b C' ns xs) (by rw [List.getElem?_append_left hi]; exact e0)
          obtain ⟨a, dx, vs, rfl, _, hH, _, _⟩ := hold
          have hs : σ[i]? = some (some (V.ref a)) := by rw [List.getElem?_append_left (by rw [← hl]; exact hi)] at hv; exact hv
          obtain ⟨v, h1, h2⟩ := snd_callBX (i := i) (ar := ar) (g := g) z G F H ρ σ us ws Q r ρ' j hl ht hm k
          rw [hs] at h1; cases h1
          exact ⟨_, hs, a, dx, _, rfl, hH, zip_none hnm, h2⟩
        · rw [if_neg hC] at hm; cases hm
section
variable {X : Cx} {W : WX} {e o : Expr} {es : List Expr} {pos xp apos : Pos} {n : Mo (List T)} {C m x : Str} {i ar k : Nat} {f : FnB}
theorem pe_meth0E {CX : CXT} {k : Nat} {C f : Addr} {m : Str} {fd : FuncData} {ps : List Str} {sp : Sp} {dvs : List V} {ds : List Value} {E : L2.St → XK} {ta : TE} {pl : Sem Bool} (he : PE X o ta) (c : Cls X.K C) (hm : Meth X.K C m f) (F : FnOk X.prog X.w X.K X.mg X.base CX k f fd ps sp) (hr : Room k X.A) (hb : Binds X.K fd ps ds) (hd : Vals dvs ds) (hx : ∀ σ, PassesAt CX X σ (E σ))
    (ht : eval (.Call (.Attribute o m apos) [] [] pos) X.env = (do
      let ov ← eval o X.env
      standAt apos.atName
      let (f, first) ← holding [ov] (getMethod ov m pl)
      callWith pos f first (backTo pos (starEach [] X.env)) (backToKw pos (keywordEach [] X.env))) := by rfl) :
    PE X (.Call (.Attribute o m apos) [] [] pos) (tMethE C m sp dvs E ta tNil) := by
  refine ⟨fun pins s σ H Q I h => ?_⟩
  refine PySem.W.methodCall_KW (pl := pl) (thn (he.run pins s σ H _ I h) fun u s1 ⟨x, H1, I1, rx, a, dx, fs, ex, ea, l, q⟩ => ?_) ht
  subst ex
  obtain rfl : u = Value.ref a := rx
  refine getmeth_ok I1 ea c hm l ?_
  exact PySem.W.callWith_K0 (first := [.ref a]) I1.kIn hm.kp (run_fnSD (us := [.ref a]) (vs := [.ref a]) F hr hb hd (hx σ) I1 (.cons rfl .nil) q)
theorem se_metBX {pl : Sem Bool} (h : MetB X.prog X.w X.K X.mg X.base k C m ar f) (hr : Room k X.A) (tk : Takes X W) (g : SA X W (e :: es) n) (hN : X.N[i]? = some x) (hv : Vis X.env.scope x) (hd : (x == ("__debug__" : Str)) = false := by decide) (hcd : (x == ("__classdict__" : Str)) = false := by decide)
    (hst : starEach (e :: es) X.env = (false, eval e X.env) :: starEach es X.env := by rfl) (hpl : (backTo pos (starEach es X.env)).any (·.1) = false := by rfl)
    (ht : eval (.Call (.Attribute (.Name x xp) m apos) (e :: es) [] pos) X.env = (do
      let ov ← eval (.Name x xp) X.env
      standAt apos.atName
      let (f, first) ← holding [ov] (getMethod ov m pl)
      callWith pos f first (backTo pos (starEach (e :: es) X.env)) (backToKw pos (keywordEach [] X.env))) := by rfl) :
    SE X W (.Call (.Attribute (.Name x xp) m apos) (e :: es) [] pos) (eMetBX C m ar f i n) := by
  obtain ⟨fa, fd, ps, F, hc, hm, hb⟩ := h.ex
  obtain ⟨ta, q, z⟩ := g
  exact ⟨_, pe_methE (pe_var hN hv hd hcd) hc hm F hr hb .nil (fun σ => passAt tk σ) q hst hpl ht, snd_metBX z⟩
theorem se_metBX0 {pl : Sem Bool} (h : MetB X.prog X.w X.K X.mg X.base k C m ar f) (hr : Room k X.A) (tk : Takes X W) (hN : X.N[i]? = some x) (hv : Vis X.env.scope x) (hd : (x == ("__debug__" : Str)) = false := by decide) (hcd : (x == ("__classdict__" : Str)) = false := by decide)
    (ht : eval (.Call (.Attribute (.Name x xp) m apos) [] [] pos) X.env = (do
      let ov ← eval (.Name x xp) X.env
      standAt apos.atName
      let (f, first) ← holding [ov] (getMethod ov m pl)
      callWith pos f first (backTo pos (starEach [] X.env)) (backToKw pos (keywordEach [] X.env))) := by rfl) :
    SE X W (.Call (.Attribute (.Name x xp) m apos) [] [] pos) (eMetBX C m ar f i (ret [])) := by
  obtain ⟨fa, fd, ps, F, hc, hm, hb⟩ := h.ex
  refine ⟨_, pe_meth0E (pe_var hN hv hd hcd) hc hm F hr hb .nil (fun σ => passAt tk σ) ht, snd_metBX fun G F H ρ σ us ws Q r ρ' j hl ht hm k => ?_⟩
  cases hm
  exact k [] F H Ex.rfl hl rfl j
end
end SL

set_option Elab.async false
set_option linter.all false
set_option maxRecDepth 100000
set_option maxHeartbeats 4000000
/-! S-layer 40: a text times a number; a sign in a text -/
namespace SL
open PySem L2 PyProof.Rows
def repS (a : Str) (n : Nat) : Str := ⟨(List.replicate n a.cps).foldl (· ++ ·) #[]⟩
theorem fold_size (n : Nat) (x : Array Nat) : ∀ b : Array Nat, ((List.replicate n x).foldl (· ++ ·) b).size = b.size + n * x.size := by
  induction n with
  | zero => intro b; simp
  | succ n ih => intro b; rw [List.replicate_succ, List.foldl_cons, ih, Array.size_append, Nat.succ_mul]; omega
theorem repS_size (n : Nat) (x : Array Nat) : ((List.replicate n x).foldl (· ++ ·) #[]).size = n * x.size := by
  rw [fold_size]; simp
def rRepS : R2 := fun x y H Q => ∃ a k, x = .str a ∧ y = .int k ∧ (2 ≤ k ∧ k ≤ 1000 ∧ 1 ≤ a.length ∧ a.length ≤ 100) ∧ Q (.str (repS a k.toNat)) H
theorem op_repS {X : Cx} : OpR X (binaryOp .Mult) rRepS := by
  intro pins s σ H x y v u Q I rx ry h
  obtain ⟨a, k, rfl, rfl, ⟨h1, h2, h3, h4⟩, q⟩ := h
  obtain ⟨t, rfl⟩ := rx
  obtain ⟨t', rfl⟩ := ry
  have c1 : (k == 1 || a.length == 0) = false := by
    rw [beq_eq_false_iff_ne.mpr (show k ≠ 1 by omega), beq_eq_false_iff_ne.mpr (show a.length ≠ 0 by omega)]; rfl
  refine PySem.P.mul_str (by rw [decide_eq_false (by omega), decide_eq_false (by omega)] <;> rfl) (fun _ _ => ?_) (fun _ _ => ?_) ?_
  · have d1 : (100 : Int) ≤ (2 ^ 63 - 1) / k := by
      rw [Int.le_ediv_iff_mul_le (by omega)]
      omega
    omega
  · have d2 : a.length * k.toNat ≤ 100 * 1000 := Nat.mul_le_mul h4 (by omega)
    unfold Builtin.Str.tooLong
    rw [sizeLine_eq]
    exact decide_eq_false (by omega)
  · rw [if_neg (by omega), c1]
    have d2 : k.toNat * a.length ≤ 1000 * 100 := Nat.mul_le_mul (by omega) h4
    refine ⟨?_, ⟨.str (repS a k.toNat), H, I.tok _, ⟨_, rfl⟩, q⟩⟩
    have e : (⟨(List.replicate k.toNat a.cps).foldl (· ++ ·) #[]⟩ : Str).length = k.toNat * a.length := by
      show ((List.replicate k.toNat a.cps).foldl (· ++ ·) #[]).size = _
      rw [repS_size]; rfl
    rw [e, sizeLine_eq]
    omega
def mulSF (d e : D) : Option Out := match d, e with
  | .str a, .int k => if 2 ≤ k ∧ k ≤ 1000 ∧ 1 ≤ a.length ∧ a.length ≤ 100 then some (.dt (.str (repS a k.toNat))) else none
  | _, _ => none
theorem o2_mulS {K : PySem.W.Frag} : Op2 K rRepS mulSF := by
  intro F H Q x y d e o ex r1 r2 hf q
  unfold mulSF at hf
  split at hf
  · split at hf
    · cases hf; cases rs r1; cases ri r2; exact ⟨_, _, rfl, rfl, by assumption, q.val ex rep_str⟩
    · cases hf
  · cases hf
def inSF (d e : D) : Option Out := match d, e with
  | .str a, .str b => match a.cps.toList with
    | [c] => some (.dt (.bl (decide (c ∈ b.cps.toList))))
    | _ => none
  | _, _ => none
theorem o2_inS {K : PySem.W.Frag} : Op2 K (fun x y H Q => ∃ (c : Nat) (z : Str), x = V.str ⟨#[c]⟩ ∧ y = V.str z ∧ Q (.bl (decide (c ∈ z.cps.toList))) H) inSF := by
  intro F H Q x y d e o ex r1 r2 hf q
  unfold inSF at hf
  split at hf
  · split at hf
    · rename_i a b _ c hc
      cases hf; cases rs r1; cases rs r2
      refine ⟨c, _, ?_, rfl, q.bl ex⟩
      congr 1
      exact Str.ext' (Array.toList_inj.mp hc)
    · cases hf
  · cases hf
end SL

set_option Elab.async false
set_option linter.all false
set_option maxRecDepth 100000
set_option maxHeartbeats 4000000
/-! S-layer 41: a, b, c = x, y, z; the new things stay owned -/
namespace SL
open PySem L2 PyProof.Rows
def sPar3T (i jj l : Nat) (n : Mo (List T)) : So := toS n fun ts ρ => match ts with
  | [t, u, y] => if (t.brw = false ∧ u.brw = false ∧ y.brw = false) ∧ i < ρ.length ∧ jj < ρ.length ∧ l < ρ.length then some (.next, ((ρ.set l (some y)).set jj (some u)).set i (some t)) else none
  | _ => none
section
variable {X : Cx} {W : WX} {a b c : Expr} {pos : Pos} {n : Mo (List T)}
theorem ss_par3T {i jj l : Nat} {x y z : Str} {px py pz pt : Pos} {kt k2 pt2} (hc : X.calm = true) (hN : X.N.Nodup) (ha : SA X W [a, b, c] n) (hij : i ≠ jj) (hil : i ≠ l) (hjl : jj ≠ l)
    (hp : ∀ {ta : TA}, PA X [a, b, c] ta → PS X (.Assign [.Tuple [.Name x px, .Name y py, .Name z pz] kt pt] (.Tuple [a, b, c] k2 pt2) pos) (tPar3 i jj l ta)) :
    SS X W (.Assign [.Tuple [.Name x px, .Name y py, .Name z pz] kt pt] (.Tuple [a, b, c] k2 pt2) pos) (sPar3T i jj l n) := by
  obtain ⟨ta, q, z⟩ := ha
  refine ⟨_, hp q, ?_⟩
  refine z.toS (tk := fun vs D σ H => ∃ u v w, vs = [u, v, w] ∧ D.nx (((σ.set i (some u)).set jj (some v)).set l (some w)) H) fun ts vs _ G F H ρ σ us ws D fl ρ' j hl ht hm k => ?_
  match ts, hm with
  | [t, u, y], hm =>
    dsimp only at hm
    by_cases hlt : (t.brw = false ∧ u.brw = false ∧ y.brw = false) ∧ i < ρ.length ∧ jj < ρ.length ∧ l < ρ.length
    · rw [if_pos hlt] at hm
      cases hm
      have hv : ∃ p v w, vs = [p, v, w] := by
        have := j.len
        simp at this
        match vs, this with
        | [p, v, w], _ => exact ⟨p, v, w, rfl⟩
        | [], h => simp at h; omega
        | [_], h => simp at h; omega
        | [_, _], h => simp at h; omega
        | _ :: _ :: _ :: _ :: _, h => simp at h; omega
      obtain ⟨p, v, w, rfl⟩ := hv
      refine ⟨p, v, w, rfl, ?_⟩
      obtain ⟨_, h1, h2, h3⟩ := hlt
      have e1 : ρ ++ (us ++ List.map some [t, u, y]) = ((ρ ++ us ++ [some t]) ++ [some u]) ++ [some y] := by simp
      have e2 : σ ++ (ws ++ List.map some [p, v, w]) = ((σ ++ ws ++ [some p]) ++ [some v]) ++ [some w] := by simp
      rw [e1, e2] at j
      have j3 := j.take (i := l) (by simp [hl, ht])
      have e3 : ((ρ ++ us ++ [some t]) ++ [some u]).set l (some y) = ((ρ.set l (some y) ++ us) ++ [some t]) ++ [some u] := by
        rw [List.append_assoc, List.append_assoc, List.set_append_left _ _ h3]; simp
      have e4 : ((σ ++ ws ++ [some p]) ++ [some v]).set l (some w) = ((σ.set l (some w) ++ ws) ++ [some p]) ++ [some v] := by
        rw [List.append_assoc, List.append_assoc, List.set_append_left _ _ (by rw [← hl]; exact h3)]; simp
      rw [e3, e4] at j3
      have j4 := j3.take (i := jj) (by simp [hl, ht])
      have e5 : (ρ.set l (some y) ++ us ++ [some t]).set jj (some u) = ((ρ.set l (some y)).set jj (some u) ++ us) ++ [some t] := by
        rw [List.append_assoc, List.set_append_left _ _ (by simpa using h2)]; simp
      have e6 : (σ.set l (some w) ++ ws ++ [some p]).set jj (some v) = ((σ.set l (some w)).set jj (some v) ++ ws) ++ [some p] := by
        rw [List.append_assoc, List.set_append_left _ _ (by rw [List.length_set, ← hl]; exact h2)]; simp
      rw [e5, e6] at j4
      have j5 := j4.take (i := i) (by simp [hl, ht])
      rw [List.set_append_left _ _ (by simpa using h1), List.set_append_left _ _ (by rw [List.length_set, List.length_set, ← hl]; exact h1)] at j5
      rw [List.set_comm (l := σ) _ _ hij, List.set_comm _ _ hil, List.set_comm (l := σ) _ _ hjl]
      exact k _ F H Ex.rfl (by simpa using hl) (by simp) j5
    · rw [if_neg hlt] at hm; cases hm
end
end SL

set_option Elab.async false
set_option linter.all false
set_option maxRecDepth 100000
set_option maxHeartbeats 4000000
/-! S-layer 42: e + x, the list of slot x stays the slot's own -/
namespace SL
open PySem L2 PyProof.Rows
def s2R (f : D → D → Option Out) (i : Nat) (ma : Mo T) : Mo T := bnd ma fun u ρ1 => if u.brw = true then none else match atS i ρ1 with
  | none => none
  | some t => outM (f u.fz t.fz) ρ1
def catR (d e : D) : Option Out := match d, e with
  | .lst xs, .lst ys => if xs.length + ys.length ≤ 100000 then some (.nl (xs ++ ys)) else none
  | _, _ => none
section
variable {X : Cx} {W : WX} {a : Expr} {ma : Mo T} {pos : Pos} {K : PySem.W.Frag}
theorem snd_s2R {i : Nat} {f : D → D → Option Out} {ta : TE} {r : R2} (z : SndE K W ta ma) (h : ∀ F H Q x y u d o, Ex F H → Rep K F u x → SV K F H d y → f u d = some o → OutOk K F H Q o → r x y H Q) : SndE K W (tOp r ta (tVar i)) (s2R f i ma) := by
  intro G F H ρ σ us ws Q r1 ρ' j hl ht hm k
  unfold s2R bnd at hm
  cases eb : ma ρ with
  | none => rw [eb] at hm; cases hm
  | some q =>
    obtain ⟨r2, ρ1⟩ := q
    rw [eb] at hm
    refine z G F H ρ σ us ws _ r2 ρ1 j hl ht eb ?_
    cases r2 with
    | exc x => cases hm; exact k
    | ok u =>
      intro x F' H' e1 l1 _ j1
      simp only at hm
      by_cases hb : u.brw = true
      · rw [if_pos hb] at hm; cases hm
      · rw [if_neg hb] at hm
        cases e2 : atS i ρ1 with
        | none => rw [e2] at hm; cases hm
        | some t1 =>
          rw [e2] at hm
          simp only at hm
          obtain ⟨F2, x2, j2, rd⟩ := j1.fzLast l1 ht (by simpa using hb)
          have j3 := app_pre j2 l1 ht
          obtain ⟨v2, g1, g2, _⟩ := j3.slot l1 e2
          obtain ⟨o, ho, q⟩ := snd_outM (Q := Q) j3 l1 ht (e1.trans x2) hm (by cases r1 with
            | ok a => exact k
            | exc x => trivial)
          exact ⟨v2, g1, h F2 H' Q x v2 u.fz t1.fz o j3.ex rd (SV.hold j3.ex g2) ho q⟩
theorem o2_catR : ∀ F H Q x y u d o, Ex F H → Rep K F u x → SV K F H d y → catR u d = some o → OutOk K F H Q o → rCat x y H Q := by
  intro F H Q x y u d o ex r1 sv hf q
  unfold catR at hf
  split at hf
  · split at hf
    · next h =>
      cases hf
      unfold Rep at r1
      obtain ⟨a, vs, rfl, h1, h2⟩ := r1
      obtain ⟨b, us, rfl, g1, g2⟩ := sv
      exact ⟨a, b, vs, us, rfl, rfl, ex _ _ h1, g1, by rw [h2.len, g2.len]; exact big_line h, fun p hp => q p _ hp (h2.app g2)⟩
    · cases hf
  · cases hf
theorem se_catR {i : Nat} {x : Str} {px : Pos} (ha : SE X W a ma) (hN : X.N[i]? = some x := by rfl) (hv : Vis X.env.scope x := by first | exact Or.inl rfl | exact Or.inr (Or.inl rfl) | exact Or.inr (Or.inr rfl)) (hd : (x == ("__debug__" : Str)) = false := by decide) (hcd : (x == ("__classdict__" : Str)) = false := by decide) :
    SE X W (.BinOp a .Add (.Name x px) pos) (s2R catR i ma) := by
  obtain ⟨ta, pa, sa⟩ := ha
  exact ⟨_, pe_op op_cat pa (pe_var hN hv hd hcd), snd_s2R sa o2_catR⟩
end
end SL

set_option Elab.async false
set_option linter.all false
set_option maxRecDepth 100000
set_option maxHeartbeats 4000000
/-! S-layer 43: x.pop(e), the list of slot i -/
namespace SL
open PySem L2 PyProof.Rows
def ePopAt (i : Nat) (ma : Mo T) : Mo T := fun ρ => match atS i ρ with
  | some (.lst _ _) => bnd ma (fun u ρ1 => match u, atS i ρ1 with
    | .dat (.int q), some (.lst b xs) => (match ixN xs.length q, decide (xs.length ≤ 100000) with
      | some jj, true => (match xs[jj]? with
        | some d => some (.ok (.dat d), ρ1.set i (some (.lst b (xs.eraseIdx jj))))
        | none => none)
      | _, _ => none)
    | _, _ => none) ρ
  | _ => none
theorem reps_erase {K : PySem.W.Frag} {F : Hp} : ∀ {xs : List D} {vs : List V} (j : Nat), Reps K F xs vs → Reps K F (xs.eraseIdx j) (vs.eraseIdx j)
  | [], vs, j, h => by unfold Reps at h; subst h; simpa using reps_nil
  | x :: xs, vs, j, h => by
    unfold Reps at h
    obtain ⟨v, r, rfl, h1, h2⟩ := h
    cases j with
    | zero => simpa using h2
    | succ j => simpa using reps_cons h1 (reps_erase j h2)
section
variable {X : Cx} {W : WX} {e : Expr} {ma : Mo T}
theorem se_popAt {i : Nat} {x : Str} {px apos cpos : Pos} (h : SE X W e ma) (hN : X.N[i]? = some x := by rfl) (hv : Vis X.env.scope x := by first | exact Or.inl rfl | exact Or.inr (Or.inl rfl) | exact Or.inr (Or.inr rfl)) (hd : (x == ("__debug__" : Str)) = false := by decide) (hcd : (x == ("__classdict__" : Str)) = false := by decide)
    (hbase : attributeBase (.Name x px) "pop" X.env (eval (.Name x px) X.env) = eval (.Name x px) X.env := by rfl)
    (hfew : ((backTo cpos (starEach (e :: []) X.env)).all (fun x => !x.1) && (backToKw cpos (keywordEach [] X.env)).all (fun x => x.1.isSome)
      && decide ((e :: []).length + ([] : List Keyword).length + (if ([] : List Keyword).isEmpty then 0 else 1) < 30)) = true := by rfl)
    (hline : (apos.endLine == cpos.line) = true := by rfl) (hst : starEach (e :: []) X.env = (false, eval e X.env) :: starEach [] X.env := by rfl) (hplain : (backTo cpos (starEach [] X.env)).any (·.1) = false := by rfl) :
    SE X W (.Call (.Attribute (.Name x px) "pop" apos) [e] [] cpos) (ePopAt i ma) := by
  obtain ⟨te, p, z⟩ := h
  refine ⟨_, pe_bm PySem.F.plainAttrs_list PySem.F.slot_list_pop PySem.F.type_list_pop mt_popAt (pe_var hN hv hd hcd) (pa_cons p pa_nil hst) hbase hfew hline hst hplain, ?_⟩
  intro G F H ρ σ us ws Q r ρ' j hl ht hm k
  simp only [List.append_nil] at j
  unfold ePopAt at hm
  cases e0 : atS i ρ with
  | none => rw [e0] at hm; cases hm
  | some t0 =>
    rw [e0] at hm
    cases t0 with
    | dat d => cases hm
    | ins _ _ _ _ => cases hm
    | lst b0 xs0 =>
      simp only at hm
      obtain ⟨v, h1, h2, hi, _, _⟩ := j.slot hl e0
      obtain ⟨a, vs0, rfl, g1, g2, g3⟩ := h2
      refine ⟨.ref a, h1, ?_⟩
      refine ⟨Or.inl ⟨rfl, vs0, Or.inl (Or.inl g2)⟩, ?_⟩
      unfold bnd at hm
      cases em : ma ρ with
      | none => rw [em] at hm; cases hm
      | some q =>
        obtain ⟨r1, ρ1⟩ := q
        rw [em] at hm
        refine z G F H ρ σ us ws _ r1 ρ1 (by simpa using j) hl ht em ?_
        cases r1 with
        | exc x => cases hm; exact k
        | ok u =>
          intro y F' H' e1 l1 _ j1
          simp only at hm
          cases u with
          | lst _ _ => cases hm
          | ins _ _ _ _ => cases hm
          | dat du =>
            cases du with
            | int q =>
              obtain ⟨F2, x2, j2, rd⟩ := j1.fzLast l1 ht (by rfl)
              have j3 := app_pre j2 l1 ht
              have hy := ri rd
              subst hy
              cases e2 : atS i ρ1 with
              | none => rw [e2] at hm; cases hm
              | some t1 =>
                rw [e2] at hm
                cases t1 with
                | dat d => cases hm
                | ins _ _ _ _ => cases hm
                | lst b xs =>
                  simp only at hm
                  cases ex : ixN xs.length q with
                  | none => rw [ex] at hm; cases hm
                  | some jj =>
                    rw [ex] at hm
                    by_cases hz : xs.length ≤ 100000
                    · rw [decide_eq_true hz] at hm
                      simp only at hm
                      cases ed : xs[jj]? with
                      | none => rw [ed] at hm; cases hm
                      | some d =>
                        rw [ed] at hm
                        cases hm
                        obtain ⟨v', m1, m2, m3, m4, m5⟩ := j3.slot l1 e2
                        rw [h1] at m1; cases m1
                        obtain ⟨a', vs, q1, q2, q3, q4⟩ := m2
                        cases q1
                        obtain ⟨s1, s2, s3, s4⟩ := ixN_seq ex
                        obtain ⟨yv, hyv, ryv⟩ := q4.get ed
                        refine ⟨a, vs, q, jj, yv, rfl, rfl, q3, by omega, by omega, by rw [q4.len]; exact s1, hyv, ?_⟩
                        have j4 := j3.mut (t' := .lst b (xs.eraseIdx jj)) (o := .lst (vs.eraseIdx jj)) m4 rfl rfl rfl m5 ⟨a, _, rfl, q2, upd_same, reps_erase jj q4⟩
                        rw [List.set_append_left _ _ m3] at j4
                        refine k yv F2 _ (e1.trans x2) (by simpa using l1) trivial ?_
                        rw [← List.append_assoc, ← List.append_assoc]
                        exact j4.dat ryv
                    · rw [decide_eq_false hz] at hm; cases hm
            | _ => cases hm
end
end SL

set_option Elab.async false
set_option linter.all false
set_option maxRecDepth 100000
set_option maxHeartbeats 4000000
/-! S-layer 44: try with several clauses, each with a name or without -/
namespace SL
open PySem L2 PySem.Spec PyProof.Rows
abbrev ClauseT := Value × Option Nat × (Addr → Value → Option Addr → TS)
def tClause : Option Nat → (Addr → Value → Option Addr → TS) → Addr → Value → Option Addr → TS
  | none, ts => ts
  | some i, ts => fun a c d D σ H => ts a c d ⟨fun σ1 H1 => D.nx (σ1.set i none) H1, D.rt, fun σ1 H1 => D.bk (σ1.set i none) H1, fun σ1 H1 => D.ct (σ1.set i none) H1⟩ (σ.set i (some (.ref a))) H
def wCs (K : PySem.W.Frag) (Wout : WX) (D : Ends) : List ClauseT → WX
  | [] => Wout
  | q :: r => fun c d σ H => ∃ b, PySem.W.exmOne K c q.1 = some b ∧ (b = true → ∀ a, H a = none → tClause q.2.1 q.2.2 a c d D σ H) ∧ (b = false → wCs K Wout D r c d σ H)
/-- the clauses' suites read -/
inductive Cks (X : Cx) : List ExceptHandler → List ClauseT → Prop
  | nil : Cks X [] []
  | bare {x : Str} {c : Value} {ts : Addr → Value → Option Addr → TS} {b₀ : Stmt} {su : List Stmt} {np hp : Pos} {hs : List ExceptHandler} {l : List ClauseT} (hc : Names X x c)
      (rd : ∀ a oe cls d pn, Zc cls d oe → (∃ vs, oe.data = .fields vs) → PSs (X.suite a ((a, oe) :: pn)) (b₀ :: su) (ts a cls d)) (r : Cks X hs l) : Cks X (.ExceptHandler (some (.Name x np)) none (b₀ :: su) hp :: hs) ((c, none, ts) :: l)
  | named {x n : Str} {i : Nat} {c : Value} {ts : Addr → Value → Option Addr → TS} {b₀ : Stmt} {su : List Stmt} {np hp : Pos} {hs : List ExceptHandler} {l : List ClauseT} (hN : X.N.Nodup) (hi : X.N[i]? = some n) (hln : X.env.kindOf n = some .local) (hc : Names X x c)
      (rd : ∀ a oe cls d pn, Zc cls d oe → (∃ vs, oe.data = .fields vs) → PSs (X.suite a ((a, oe) :: pn)) (b₀ :: su) (ts a cls d)) (r : Cks X hs l) : Cks X (.ExceptHandler (some (.Name x np)) (some n) (b₀ :: su) hp :: hs) ((c, some i, ts) :: l)
section
variable {X : Cx} {body : List Stmt} {h₀ : ExceptHandler} {hs : List ExceptHandler} {l : List ClauseT} {pos : Pos} {tb : WX → TS} {Wout : WX}
theorem nameOf {x : Str} {c : Value} {np : Pos} (hc : Names X x c) {a : Addr} {oe : Obj} {pn : List (Addr × Obj)} {σ : L2.St} {H : Hp} {s : Shared} (S : Inv (X.suite a ((a, oe) :: pn)) [] σ H s) {Q : Value → Shared → Prop} {E : Value → Shared → Prop} (q : Q c s) :
    wpAny (model X.prog X.w) (X.A.mark (some (.ref a))) (eval (.Name x np) X.env) Q E s := by
  obtain ⟨g, nd, m⟩ := hc
  rcases m with m | ⟨m, v, nn⟩
  · exact ld_glob (X := X.suite a ((a, oe) :: pn)) S g m q nd
  · exact ld_blt (X := X.suite a ((a, oe) :: pn)) S g m v q nn nd
theorem ps_tryCs (hst : X.stack = X.env :: X.outer) (hfr : X.env.frame = some X.env.locals) (tk : Takes X Wout)
    (hb : ∀ (W : WX) (pn : List (Addr × Obj)) (xe : Value → Shared → Prop), Takes (X.tr pn xe) W → PassesOwn (model X.prog X.w) X.A X.env xe → PSs (X.tr pn xe) body (tb W))
    (ck : Cks X (h₀ :: hs) l) : PS X (.Try body (h₀ :: hs) [] [] pos) (fun D σ H => tb (wCs X.K Wout D l) D σ H) := by
  constructor
  intro pins s σ H D I hq
  have kk := I.ok
  have frm : X.A.frames = some (X.env :: X.outer) := kk.frames.trans (congrArg some hst)
  let xe1 : Value → Shared → Prop := fun e s1 => wpAny (model X.prog X.w) X.A (noteFrame e X.env) (fun _ s2 => wpAny (model X.prog X.w) X.A (setFlight e none) (fun _ s3 => wpAny (model X.prog X.w) X.A (handleBy e X.env (h₀ :: hs)) (SP X pins D) X.xe s3) X.xe s2) X.xe s1
  have catch_ : Takes (X.tr (X.pn ++ pins) xe1) (wCs X.K Wout D l) := by
    intro u s1 xx
    obtain ⟨a, B, sI, pins1, σ1, H1, cls, d, rfl, Jt, nb, up, sky, na, os, ag, w⟩ := xx
    have J1 : Inv X pins σ1 H1 sI := Jt.ofTry kk
    refine Sky.land Zc.steady frm hfr (hst ▸ sky) fun h3 fl3 up3 => ?_
    have J3 : Inv X pins σ1 H1 { s1 with heap := h3 } := J1.landed nb fl3.1 (up.trans up3) os ag
    obtain ⟨oe3, vs3, he3, hz3, hd3⟩ := fl3.there
    have out : a ∉ frs (X.env :: X.outer) := fun m => by
      obtain ⟨_, o2, g2, nf⟩ := fl3.2.2.1.mem m
      rw [he3] at g2
      cases g2
      exact nf vs3 hd3
    have nL : a ≠ X.env.locals := fun z => out (List.mem_filterMap.mpr ⟨X.env, List.mem_cons_self, hfr.trans (congrArg some z.symm)⟩)
    have nF : a ∉ X.fs := fun m => by
      obtain ⟨e, m1, m2⟩ := List.mem_filterMap.mp m
      exact out (List.mem_filterMap.mpr ⟨e, .tail _ m1, m2⟩)
    have S3 := J3.suite he3 hd3 na nL nF
    have lk : PySem.W.Looks (model X.prog X.w) h3 (typeOf (.ref a)) cls := fun _ _ _ _ k q => wpAny_typeOf_ref (k _ _ he3) (by rw [hz3.1]; exact q)
    -- the clauses one by one
    have each : ∀ {hs2 : List ExceptHandler} {l2 : List ClauseT}, Cks X hs2 l2 → wCs X.K Wout D l2 cls d σ1 H1 → wpAny (model X.prog X.w) X.A (handleBy (.ref a) X.env hs2) (SP X pins D) X.xe { s1 with heap := h3 } := by
      intro hs2 l2 ck2
      induction ck2 with
      | nil =>
        intro w
        apply wpAny_handleBy_nil
        obtain ⟨_, _, _, oe, vs, T, oT, ts1, he, hz, hd, t1, _⟩ := id fl3
        unfold PySem.passOn
        apply wpAny_bind
        refine wpAny_field he hd t1 ?_
        have nn : ¬ ((Value.ref T == Value.none) = true) := by simp
        rw [if_neg nn]
        have away : wpAny (model X.prog X.w) X.A (setFlight (.ref a) X.env.frame) (fun _ s4 => wpAny (model X.prog X.w) X.A (throw (.ref a) : Sem Flow) (SP X pins D) X.xe s4) X.xe { s1 with heap := h3 } := by
          rw [hfr]
          refine HandSPX.setFlight_upZ fl3 fun h4 g4 up4 => wpAny_throw (tk _ _ ⟨a, B, sI, pins, σ1, H1, cls, d, rfl, J1, nb, (up.trans up3).trans up4, .inr (.inr (hst.symm ▸ g4)), na, os, ag, w⟩)
        first
          | exact wpAny_bind (wpAny_pure (wpAny_bind away))
          | exact wpAny_bind away
      | bare hc rd r ih =>
        intro w
        obtain ⟨b, b1, yes, no⟩ := w
        refine wpAny_handleBy_cons (codeAny_handlers_test (nameOf hc S3 ((PySem.W.exm_one (M := model X.prog X.w) (J3.kIn) lk b1).here ?_))) nofun
        cases b with
        | false => exact ih (no rfl)
        | true =>
          refine codeAny_handlers_suite (HandSPX.lands_againZ fl3 fun h4 fl4 up4 => ?_)
          have J4 : Inv X pins σ1 H1 { s1 with heap := h4 } := J1.landed nb fl4.1 ((up.trans up3).trans up4) os ag
          obtain ⟨oe4, vs4, he4, hz4, hd4⟩ := fl4.there
          refine wpAny_mono ((rd a oe4 cls d (X.pn ++ pins) hz4 ⟨_, hd4⟩).run [] _ _ H1 _ (J4.suite he4 hd4 na nL nF) (yes rfl a na)) (fun f s6 p => ?_) fun _ _ z => z.elim
          cases f with
          | ret u => exact let ⟨v6, σ6, H6, S6, r6, q6⟩ := p; ⟨v6, σ6, H6, S6.unsuite kk, r6, q6⟩
          | next => exact let ⟨σ6, H6, S6, q6⟩ := p; ⟨σ6, H6, S6.unsuite kk, q6⟩
          | brk => exact let ⟨σ6, H6, S6, q6⟩ := p; ⟨σ6, H6, S6.unsuite kk, q6⟩
          | cont => exact let ⟨σ6, H6, S6, q6⟩ := p; ⟨σ6, H6, S6.unsuite kk, q6⟩
      | @named x n i c ts b₀ su np hp hs l hN hi hln hc rd r ih =>
        intro w
        obtain ⟨b, b1, yes, no⟩ := w
        refine wpAny_handleBy_cons (codeAny_handlers_test (nameOf hc S3 ((PySem.W.exm_one (M := model X.prog X.w) (J3.kIn) lk b1).here ?_))) nofun
        cases b with
        | false => exact ih (no rfl)
        | true =>
          refine codeAny_handlers_suite_as (HandSPX.lands_againZ fl3 fun h4 fl4 up4 => ?_)
          have J4 : Inv X pins σ1 H1 { s1 with heap := h4 } := J1.landed nb fl4.1 ((up.trans up3).trans up4) os ag
          obtain ⟨oe4, vs4, he4, hz4, hd4⟩ := fl4.there
          refine store_ok (X := X.suite a ((a, oe4) :: (X.pn ++ pins))) (v := .ref a) (J4.suite he4 hd4 na nL nF) hN hi (.inl hln) rfl (fun s5 S5 => ?_) (.inr hln)
          refine wpAny_mono ((rd a oe4 cls d (X.pn ++ pins) hz4 ⟨_, hd4⟩).run [] s5 _ H1 _ S5 (yes rfl a na)) (fun f s6 p => ?_) fun _ _ z => z.elim
          have fin : ∀ {σ6 : L2.St} {H6 : Hp} {Q : Shared → Prop}, Inv (X.suite a ((a, oe4) :: (X.pn ++ pins))) [] σ6 H6 s6 → (∀ s7, Inv X pins (σ6.set i none) H6 s7 → Q s7) →
              wpAny (model X.prog X.w) X.A (do bindName X.env n .none; unbindBehindTheSuite X.env n hp) (fun _ s7 => Q s7) X.xe s6 := fun S6 q => gone_ok (S6.unsuite kk) hN hi hln q
          cases f with
          | ret u => exact let ⟨v6, σ6, H6, S6, r6, q6⟩ := p; fin S6 fun s7 J7 => ⟨v6, _, H6, J7, r6, q6⟩
          | next => exact let ⟨σ6, H6, S6, q6⟩ := p; fin S6 fun s7 J7 => ⟨_, H6, J7, q6⟩
          | brk => exact let ⟨σ6, H6, S6, q6⟩ := p; fin S6 fun s7 J7 => ⟨_, H6, J7, q6⟩
          | cont => exact let ⟨σ6, H6, S6, q6⟩ := p; fin S6 fun s7 J7 => ⟨_, H6, J7, q6⟩
    exact each ck w
  refine wpAny_Try_except (wpAny_mono ((hb _ _ xe1 catch_ PassesOwn.looking).run [] s σ H D (I.toTry _) hq) (fun f s1 p => ?_) fun _ _ z => z)
  cases f with
  | ret u => exact let ⟨v, σ1, H1, J1, r, q⟩ := p; ⟨v, σ1, H1, J1.ofTry kk, r, q⟩
  | next => exact let ⟨σ1, H1, J1, q⟩ := p; wpAny_execs_nil ⟨σ1, H1, J1.ofTry kk, q⟩
  | brk => exact let ⟨σ1, H1, J1, q⟩ := p; ⟨σ1, H1, J1.ofTry kk, q⟩
  | cont => exact let ⟨σ1, H1, J1, q⟩ := p; ⟨σ1, H1, J1.ofTry kk, q⟩
end
end SL
namespace SL
open PySem L2 PySem.Spec PyProof.Rows
/-- a clause: the slot of its name, its class, classes that it lets by, its suite -/
structure Clz where
  i : Option Nat
  C : Str
  no : List Str
  h : Addr → Addr → So
def noExc : Option (Fl × Sl) → Option (Fl × Sl)
  | some (.exc _, _) => none
  | q => q
noncomputable def runC : List Clz → Xc → Sl → Option (Fl × Sl)
  | [], x, ρ => some (.exc x, ρ)
  | q :: r, x, ρ => if x.cls = q.C then (match q.i with
      | some i => if x.ns ≠ [] ∧ i < ρ.length then hRun i q.h x ρ else none
      | none => noExc (q.h 0 0 ρ)) else if q.no.contains x.cls = true then runC r x ρ else none
noncomputable def sTryC (cs : List Clz) (s : So) : So := fun ρ => match s ρ with
  | some (.exc x, ρ') => runC cs x ρ'
  | r => r
def SndC (K : PySem.W.Frag) (Wout : WX) (l : List ClauseT) (cs : List Clz) : Prop :=
  ∀ (G : Gm) (F H : Hp) (ρ : Sl) (σ : L2.St) (us : Sl) (ws : L2.St) (D : Ends) (fl : Fl) (ρ' : Sl) (x : Xc) (c : Value) (d : Option Addr), J K G F H (ρ ++ us) (σ ++ ws) → ρ.length = σ.length → us.length = ws.length → ExcR K F x c d →
    runC cs x ρ = some (fl, ρ') → FlOk K Wout G F us ws D σ.length ρ' fl → wCs K Wout D l c d σ H
theorem sndC_nil {K : PySem.W.Frag} {Wout : WX} : SndC K Wout [] [] := by
  intro G F H ρ σ us ws D fl ρ' x c d j hl ht rx hm k
  unfold runC at hm
  cases hm
  exact k c d σ F H Ex.rfl hl rfl j rx
theorem sndC_bare {K : PySem.W.Frag} {Wout : WX} {l : List ClauseT} {cs : List Clz} {C : Str} {no : List Str} {h : So} {c : Value} {ts : Addr → Value → Option Addr → TS} (hh : ∀ a d, SndS K W0 (ts a (.ref (He.ga K C)) d) h)
    (hyes : PySem.W.exmOne K (.ref (He.ga K C)) c = some true) (hno : ∀ C' ∈ no, PySem.W.exmOne K (.ref (He.ga K C')) c = some false) (r : SndC K Wout l cs) : SndC K Wout ((c, none, ts) :: l) (⟨none, C, no, fun _ _ => h⟩ :: cs) := by
  intro G F H ρ σ us ws D fl ρ' x cl d j hl ht rx hm k
  unfold runC at hm
  by_cases hC : x.cls = C
  · rw [if_pos hC] at hm
    dsimp only at hm
    refine ⟨true, by rw [rx.1, hC]; exact hyes, fun _ a ha => ?_, nofun⟩
    cases e2 : h ρ with
    | none => rw [e2] at hm; cases hm
    | some p2 =>
      obtain ⟨f2, ρ2⟩ := p2
      rw [e2] at hm
      have e3 : cl = .ref (He.ga K C) := by rw [rx.1, hC]
      subst e3
      show ts a (.ref (He.ga K C)) d D σ H
      refine hh a d G F H ρ σ us ws D f2 ρ2 j hl ht e2 ?_
      cases f2 with
      | exc _ => cases hm
      | next => cases hm; exact k
      | brk => cases hm; exact k
      | cont => cases hm; exact k
      | ret t => cases hm; exact k
  · rw [if_neg hC] at hm
    by_cases hcn : no.contains x.cls = true
    · rw [if_pos hcn] at hm
      refine ⟨false, by rw [rx.1]; exact hno x.cls (by simpa using hcn), nofun, fun _ => r G F H ρ σ us ws D fl ρ' x cl d j hl ht rx hm k⟩
    · rw [if_neg hcn] at hm; cases hm
theorem sndC_named {K : PySem.W.Frag} {Wout : WX} {l : List ClauseT} {cs : List Clz} {i : Nat} {C : Str} {no : List Str} {h : Addr → Addr → So} {c : Value} {ts : Addr → Value → Option Addr → TS} (hh : ∀ a dd, SndS K W0 (ts a (.ref (He.ga K C)) (some dd)) (h a dd))
    (hyes : PySem.W.exmOne K (.ref (He.ga K C)) c = some true) (hno : ∀ C' ∈ no, PySem.W.exmOne K (.ref (He.ga K C')) c = some false) (r : SndC K Wout l cs) : SndC K Wout ((c, some i, ts) :: l) (⟨some i, C, no, h⟩ :: cs) := by
  intro G F H ρ1 σ' us ws D fl ρ' x cl d j1 l1 ht rx hm k
  unfold runC at hm
  obtain ⟨r1, r2, r3⟩ := rx
  by_cases hC : x.cls = C
  · rw [if_pos hC] at hm
    dsimp only at hm
    by_cases hn : x.ns ≠ [] ∧ i < ρ1.length
    · rw [if_pos hn] at hm
      obtain ⟨dd, vs, rfl, hF, rd⟩ := r3 hn.1
      subst r1
      rw [hC]
      refine ⟨true, hyes, fun _ a ha => ?_, nofun⟩
      have hc := hRun_at hm a dd
      have hi2 : i < σ'.length := by rw [← l1]; exact hn.2
      have j2 := (j1.dat (d := .exn a dd x.ns x.ds) (v := .ref a) (by unfold Rep; exact ⟨vs, rfl, hF, r2, rd⟩)).take (i := i) j1.len
      rw [List.set_append_left _ _ hn.2, List.set_append_left _ _ hi2] at j2
      cases e2 : h a dd (ρ1.set i (some (.dat (.exn a dd x.ns x.ds)))) with
      | none => rw [e2] at hc; cases hc
      | some p2 =>
        obtain ⟨fl2, ρ2⟩ := p2
        rw [e2] at hc
        refine hh a dd G F H _ _ us ws _ fl2 ρ2 j2 (by simp [l1]) ht e2 ?_
        have off : ∀ {F2 H2 : Hp} {σ2 : L2.St} {X : Sl} {Y : L2.St}, ρ2.length = (σ'.set i (some (V.ref a))).length → σ2.length = (σ'.set i (some (V.ref a))).length → J K G F2 H2 (ρ2 ++ X) (σ2 ++ Y) →
            (ρ2.set i none).length = σ'.length ∧ (σ2.set i none).length = σ'.length ∧ J K G F2 H2 (ρ2.set i none ++ X) (σ2.set i none ++ Y) := fun {F2 H2 σ2 X Y} a1 a2 j3 => by
          rw [List.length_set] at a1 a2
          refine ⟨by rw [List.length_set, a1], by rw [List.length_set, a2], ?_⟩
          have j4 := j3.off (i := i) (w := none)
          rw [List.set_append_left _ _ (by rw [a1]; exact hi2), List.set_append_left _ _ (by rw [a2]; exact hi2)] at j4
          exact j4
        cases fl2 with
        | exc _ => cases hc
        | next =>
          cases hc
          intro σ2 F2 H2 e3 l3 l4 j3
          obtain ⟨b1, b2, b3⟩ := off l3 l4 j3
          exact k _ F2 H2 e3 b1 b2 b3
        | brk =>
          cases hc
          intro σ2 F2 H2 e3 l3 l4 j3
          obtain ⟨b1, b2, b3⟩ := off l3 l4 j3
          exact k _ F2 H2 e3 b1 b2 b3
        | cont =>
          cases hc
          intro σ2 F2 H2 e3 l3 l4 j3
          obtain ⟨b1, b2, b3⟩ := off l3 l4 j3
          exact k _ F2 H2 e3 b1 b2 b3
        | ret t =>
          cases hc
          intro v σ2 F2 H2 e3 l3 l4 j3
          obtain ⟨b1, b2, b3⟩ := off l3 l4 j3
          exact k v _ F2 H2 e3 b1 b2 b3
    · rw [if_neg hn] at hm; cases hm
  · rw [if_neg hC] at hm
    by_cases hcn : no.contains x.cls = true
    · rw [if_pos hcn] at hm
      refine ⟨false, by rw [r1]; exact hno x.cls (by simpa using hcn), nofun, fun _ => r G F H ρ1 σ' us ws D fl ρ' x cl d j1 l1 ht ⟨r1, r2, r3⟩ hm k⟩
    · rw [if_neg hcn] at hm; cases hm
/-- clauses read and served -/
def CkS (X : Cx) (Wout : WX) (hs : List ExceptHandler) (cs : List Clz) : Prop := ∃ l, Cks X hs l ∧ SndC X.K Wout l cs
section
variable {X : Cx} {Wout : WX} {i : Nat} {C x n : Str} {no : List Str} {s : So} {body suite : List Stmt} {b₀ : Stmt} {np pos pos' : Pos} {hs : List ExceptHandler} {h₀ : ExceptHandler} {cs : List Clz}
theorem ck_nil : CkS X Wout [] [] := ⟨[], .nil, sndC_nil⟩
theorem ck_bare {h : So} (hc : Names X x (.ref (He.ga X.K C))) (hyes : PySem.W.exmOne X.K (.ref (He.ga X.K C)) (.ref (He.ga X.K C)) = some true) (hno : ∀ C' ∈ no, PySem.W.exmOne X.K (.ref (He.ga X.K C')) (.ref (He.ga X.K C)) = some false)
    (hsu : ∀ (a : Addr) (oe : Obj) (pn : List (Addr × Obj)), SSs (X.suite a ((a, oe) :: pn)) W0 (b₀ :: suite) h) (r : CkS X Wout hs cs) : CkS X Wout (.ExceptHandler (some (.Name x np)) none (b₀ :: suite) pos' :: hs) (⟨none, C, no, fun _ _ => h⟩ :: cs) := by
  obtain ⟨l, c1, c2⟩ := r
  let ts : Addr → Value → Option Addr → TS := fun a cls d D σ H => ∀ (oe : Obj) (pn : List (Addr × Obj)), (hsu a oe pn).choose D σ H
  refine ⟨_, .bare (ts := ts) hc (fun a oe cls d pn z f => ⟨fun pins s σ H D I q => ?_⟩) c1, sndC_bare (fun a d => ?_) hyes hno c2⟩
  · exact (hsu a oe pn).choose_spec.1.run pins s σ H D I (q oe pn)
  · intro G F H ρ σ us ws D fl ρ' j hl ht hm k oe pn
    exact (hsu a oe pn).choose_spec.2 G F H ρ σ us ws D fl ρ' j hl ht hm k
theorem ck_named {h : Addr → Addr → So} (hN : X.N.Nodup) (hi : X.N[i]? = some n) (hln : X.env.kindOf n = some .local) (hc : Names X x (.ref (He.ga X.K C))) (hyes : PySem.W.exmOne X.K (.ref (He.ga X.K C)) (.ref (He.ga X.K C)) = some true)
    (hno : ∀ C' ∈ no, PySem.W.exmOne X.K (.ref (He.ga X.K C')) (.ref (He.ga X.K C)) = some false)
    (hsu : ∀ (a : Addr) (oe : Obj) (dd : Addr) (pn : List (Addr × Obj)), Zc (.ref (He.ga X.K C)) (some dd) oe → (∃ vs, oe.data = .fields vs) → SSs (X.suite a ((a, oe) :: pn)) W0 (b₀ :: suite) (h a dd)) (r : CkS X Wout hs cs) :
    CkS X Wout (.ExceptHandler (some (.Name x np)) (some n) (b₀ :: suite) pos' :: hs) (⟨some i, C, no, h⟩ :: cs) := by
  obtain ⟨l, c1, c2⟩ := r
  let ts : Addr → Value → Option Addr → TS := fun a cls d D σ H => ∃ dd, cls = .ref (He.ga X.K C) ∧ d = some dd ∧ ∀ (oe : Obj) (pn : List (Addr × Obj)) (z : Zc (.ref (He.ga X.K C)) (some dd) oe) (f : ∃ vs, oe.data = .fields vs), (hsu a oe dd pn z f).choose D σ H
  refine ⟨_, .named (ts := ts) hN hi hln hc (fun a oe cls d pn z f => ⟨fun pins s σ H D I q => ?_⟩) c1, sndC_named (fun a dd => ?_) hyes hno c2⟩
  · obtain ⟨dd, rfl, rfl, q⟩ := q
    exact (hsu a oe dd pn z f).choose_spec.1.run pins s σ H D I (q oe pn z f)
  · intro G F H ρ σ us ws D fl ρ' j hl ht hm k
    exact ⟨dd, rfl, rfl, fun oe pn z f => (hsu a oe dd pn z f).choose_spec.2 G F H ρ σ us ws D fl ρ' j hl ht hm k⟩
theorem ss_tryC (hst : X.stack = X.env :: X.outer) (hf : X.env.frame = some X.env.locals) (tk : Takes X Wout)
    (hb : ∀ (W : WX) (pn : List (Addr × Obj)) (xe : Value → Shared → Prop), Takes (X.tr pn xe) W → PassesOwn (model X.prog X.w) X.A X.env xe → SSs (X.tr pn xe) W body s) (ck : CkS X Wout (h₀ :: hs) cs) :
    SS X Wout (.Try body (h₀ :: hs) [] [] pos) (sTryC cs s) := by
  obtain ⟨l, c1, c2⟩ := ck
  let tb : WX → TS := fun W D σ H => ∀ (pn : List (Addr × Obj)) (xe : Value → Shared → Prop) (t1 : Takes (X.tr pn xe) W) (p1 : PassesOwn (model X.prog X.w) X.A X.env xe), (hb W pn xe t1 p1).choose D σ H
  refine ⟨_, ps_tryCs (tb := tb) hst hf tk (fun W pn xe t1 p1 => ⟨fun pins s σ H D I q => ?_⟩) c1, ?_⟩
  · exact (hb W pn xe t1 p1).choose_spec.1.run pins s σ H D I (q pn xe t1 p1)
  · intro G F H ρ σ us ws D fl ρ' j hl ht hm k
    unfold sTryC at hm
    cases e : s ρ with
    | none => rw [e] at hm; cases hm
    | some p =>
      obtain ⟨fl1, ρ1⟩ := p
      rw [e] at hm
      have go : ∀ W : WX, W = wCs X.K Wout D l → tb W D σ H := by
        intro W hW pn xe t1 p1
        refine (hb W pn xe t1 p1).choose_spec.2 G F H ρ σ us ws D fl1 ρ1 j hl ht e ?_
        subst hW
        cases fl1 with
        | next => cases hm; exact k
        | brk => cases hm; exact k
        | cont => cases hm; exact k
        | ret t => cases hm; exact k
        | exc x =>
          intro c d σ' F' H' e1 l1 l2 j1 rx
          exact c2 G F' H' ρ1 σ' us ws D fl ρ' x c d j1 (l1.trans l2.symm) ht rx hm (by rw [l2]; exact k.mono e1)
      exact go _ rfl
end
end SL

set_option Elab.async false
set_option linter.all false
set_option maxRecDepth 100000
set_option maxHeartbeats 4000000
/-! S-layer 45: enumerate of a tuple, of a text; a name walked -/
namespace SL
open PySem L2 PySem.Spec PyProof.Rows
set_option maxHeartbeats 1000000 in
theorem enum1_new {v : Value} {o : Obj} {H : Heap → Prop} (B : Begins v o H) :
    Meets (Builtin.«enumerate.__new__» ⟨[.type "enumerate", v], []⟩) (fun _ R s => H s.heap ∧
      R (.ok (.ret (.ref (s.heap.push o).objs.size))) { s with heap := (s.heap.push o).push { cls := .type "enumerate", data := .fields #[.none, .bool false, .ref s.heap.objs.size, rawInt 0, .none, .none] } }) :=
  .of_wp fun prog w A R s h => by
    obtain ⟨hp, gg, dd, tk, os⟩ := s
    obtain ⟨h1, h⟩ := h
    have hsub := sub_enumerate
    have it1 : ∀ {A' : Around} {E Q : Value → Shared → Prop}, Q (.ref hp.objs.size) ⟨hp.push o, gg, dd, tk, os⟩ → wpAny (model prog w) A' (pyIter v) Q E ⟨hp, gg, dd, tk, os⟩ := fun q => B.iter prog w _ _ ⟨hp, gg, dd, tk, os⟩ _ h1 q
    wp_walk using it1
    refine wpAny_stack_any fun st => wpAny_pure ?_
    split
    · rename_i cc _ _ _ _ _
      cases (cc == Value.type "enumerate") <;> (wp_walk using it1; exact ⟨_, rfl, h⟩)
    · wp_walk using it1
      exact ⟨_, rfl, h⟩
section
variable {prog : Program} {w : World} {A : Around} {E : Value → Shared → Prop} {s : Shared}
theorem enum1_call {v : Value} {o : Obj} {H : Heap → Prop} {Q : Value → Shared → Prop} (B : Begins v o H) (h1 : H s.heap)
    (h : ∀ h', IsEnum h' (s.heap.objs.size + 1) s.heap.objs.size 0 .none → h'.get? s.heap.objs.size = some o → h'.objs.size = s.heap.objs.size + 2 → (∀ b u, s.heap.get? b = some u → h'.get? b = some u) → Q (.ref (s.heap.objs.size + 1)) { s with heap := h' }) :
    wpAny (model prog w) A (call (.type "enumerate") [v]) Q E s := by
  refine callType_new F.called_enumerate (by decide) (F.typeCall_enumerate_1 _) (F.newCall_enumerate_1 _) (fun ob => F.args_object_init_2 ob _) F.entry_enumerate_new (enum1_new B) ⟨h1, ?_⟩
  have sz : (s.heap.push o).objs.size = s.heap.objs.size + 1 := Heap.size_push ..
  show _ ∧ _
  rw [sz]
  have he : IsEnum ((s.heap.push o).push { cls := .type "enumerate", data := .fields #[.none, .bool false, .ref s.heap.objs.size, rawInt 0, .none, .none] }) (s.heap.objs.size + 1) s.heap.objs.size 0 .none := by
    have e1 := Heap.get?_push_size (s.heap.push o) (o := { cls := .type "enumerate", data := .fields #[.none, .bool false, .ref s.heap.objs.size, rawInt 0, .none, .none] }) rfl
    rw [sz] at e1
    exact e1
  exact ⟨⟨_, he, rfl⟩, h _ he (Heap.get?_push_of_some _ (Heap.get?_push_size _ B.free)) (by rw [Heap.size_push, sz]) fun b u e => Heap.get?_push_of_some _ (Heap.get?_push_of_some _ e)⟩
end
/-- the tuple at a, each item in a new pair -/
def IteT (K : PySem.W.Frag) (a : Addr) : It :=
  ⟨fun i H => ∃ (xs : List V) (x : V), SqT K H a xs ∧ xs[i]? = some x, fun i H v H' => ∃ T x, v = .ref T ∧ H T = none ∧ H' = upd H T (.tup [.int (i : Nat), x]) ∧ ∀ xs, SqT K H a xs → xs[i]? = some x, fun i H => ∃ xs : List V, SqT K H a xs ∧ xs.length ≤ i⟩
theorem turn_enumT {P : Program} {w : World} {K : PySem.W.Frag} {elts : List Expr} {kk : Nat} {tpos : Pos} (a e it : Addr) :
    Turn P w K (.Tuple elts kk tpos) (IteT K a) [e, it] e (fun i h => ((∃ old, IsEnum h e it ((i : Nat) : Int) old) ∧ h.IsTupleIter it a i) ∧ e ≠ it ∧ a ≠ it ∧ a ≠ e) where
  mem := .head _
  obj := fun i h st b hb => by
    obtain ⟨⟨⟨old, he⟩, o, ho, hc, hd⟩, _⟩ := st
    rcases List.mem_cons.mp hb with z | z
    · subst z; exact ⟨_, he, nofun⟩
    · have z' : b = it := by simpa using z
      subst z'; exact ⟨o, ho, fun v q => by rw [hd] at q; cases q⟩
  keep := fun i h h' st k => ⟨⟨st.1.1.imp fun old he => k e (.head _) _ he, st.1.2.at fun o q => k it (.tail _ (.head _)) o q⟩, st.2⟩
  item := by
    intro X hP hw hK hc i pins s σ H E I hf st hg
    subst hP hw hK
    obtain ⟨⟨⟨old, he⟩, hit⟩, n1, n2, n3⟩ := st
    obtain ⟨xs, x, hq, hx⟩ := hg
    obtain ⟨its, rv, p, hz⟩ := I.tuple hq
    obtain ⟨u, hu, ru⟩ := rv.get hx
    have p' : s.heap.IsTuple a its.toArray := p
    have le : e < s.heap.objs.size := Heap.lt_size he
    have lit : it < s.heap.objs.size := by obtain ⟨_, q, _⟩ := hit; exact Heap.lt_size q
    have lt : i < its.toArray.size := by
      have := (List.getElem?_eq_some_iff.mp hu).1
      simpa using this
    refine wpAny_pyNext_enum_itemD (A := X.A) (Draws.tuple (A := X.A.in1) (show X.A.in1.handled = none from I.ok.hd hc) it a n2 its.toArray) he ⟨hit, p'⟩ lt n1 (by simp [n1, Ne.symm n3]) fun x1 h' tk hx1 ho hst hT hsz hk => ?_
    have e1 : x1 = u := by
      have : its.toArray[i]? = some u := by simpa using hu
      rw [this] at hx1; cases hx1; rfl
    subst e1
    refine ⟨_, rfl, wpAny_letOwnedTupleGo_enum (s := { s with heap := h', toks := tk + 1 }) ho fun h'' he' sb => ?_⟩
    have hT2 : h''.get? s.heap.objs.size = some { cls := .type "tuple", data := .seq #[.int i tk, x1] } := (sb.2 _ (Nat.ne_of_gt le)).trans hT
    have new : ObjOk X.prog X.w (upd H s.heap.objs.size (.tup [.int (i : Nat), x])) h'' s.heap.objs.size (.tup [.int (i : Nat), x]) := ⟨show 2 ≤ sizeLine by decide, [.int i tk, x1], .cons ⟨_, rfl⟩ (.cons ru .nil), ⟨_, hT2, rfl, _, rfl⟩⟩
    have I1 : Inv X pins σ (upd H s.heap.objs.size (.tup [.int (i : Nat), x])) { s with heap := h'', toks := tk + 1 } :=
      I.turnedNew (ch := [e, it]) (fun b ob hb q => by
        have b1 : b ≠ e := fun z => hb (z ▸ .head _)
        have b2 : b ≠ it := fun z => hb (z ▸ .tail _ (.head _))
        exact (sb.2 b b1).trans (hk b ob b1 b2 q)) hf (Nat.le_refl _) new
    refine ⟨.ref s.heap.objs.size, _, I1, rfl, ⟨_, x, rfl, I.hok.fresh (Nat.le_refl _), rfl, fun ys hy => by rw [I.tuple_inj hy hq]; exact hx⟩, ⟨⟨⟨x1, ?_⟩, hst.1.at fun o q => (sb.2 it (Ne.symm n1)).trans q⟩, n1, n2, n3⟩, fun b hb => ?_⟩
    · have e2 : ((i + 1 : Nat) : Int) = (i : Int) + 1 := by omega
      rw [e2]; exact he'
    · have lb : b < s.heap.objs.size := by
        rcases List.mem_cons.mp hb with z | z
        · subst z; exact le
        · have z' : b = it := by simpa using z
          subst z'; exact lit
      rw [upd_ne (Nat.ne_of_lt lb)]
      exact (hf b hb).1
  done := by
    intro X hP hw hK hc i pins s σ H E I hf st hg
    subst hP hw hK
    obtain ⟨⟨⟨old, he⟩, hit⟩, n1, n2, n3⟩ := st
    obtain ⟨xs, hq, hx⟩ := hg
    obtain ⟨its, rv, p, hz⟩ := I.tuple hq
    obtain ⟨f0, f1, f2, f3, f4, f5⟩ := hf it (by simp)
    have p' : s.heap.IsTuple a its.toArray := p
    have hl := rv.length
    have hT : s.TypeIs (.ref e) "enumerate" := ⟨_, he, rfl⟩
    unfold pyNext
    refine wpAny_bind (wpAny_attempt (wpAny_callSpecial?_slot (name := Str.ofString "__next__") hT F.slot_enumerate_next (wpAny_call_entry F.slot_enumerate_next hT F.entry_enumerate_next ?_ (F.args_enumerate_next_1 _))))
    show wpAny _ _ (field (.ref e) 2 >>= _) _ _ _
    refine wpAny_bind (wpAny_field he rfl (x := .ref it) rfl (wpAny_bind (wpAny_nextOf_tuple_end (I.ok.hd hc) hit p' (by simp; omega) fun h' x he' hx' => ?_)))
    obtain ⟨o, ho, hcl⟩ := hx'
    exact wpAny_bind (wpAny_isInstance (T := "StopIteration") (b := true) ⟨o, ho, hcl⟩ isSubtype_stop (wpAny_pure ⟨rfl, I.turned (t' := s.toks) (fun b o hb e => he' b o hb e) f0 f1 f3 f4 f5⟩))
  self := fun A i s Q E st h => let ⟨⟨⟨_, he⟩, _⟩, _⟩ := st; wpAny_pyIter_enum he h
/-- a text, each sign in a new pair -/
def IteS (z : Str) : It :=
  ⟨fun i _ => i < z.cps.size, fun i H v H' => ∃ T c, v = .ref T ∧ H T = none ∧ H' = upd H T (.tup [.int (i : Nat), .str ⟨#[c]⟩]) ∧ z.cps[i]? = some c, fun i _ => z.cps.size ≤ i⟩
theorem turn_enumS {P : Program} {w : World} {K : PySem.W.Frag} {elts : List Expr} {kk : Nat} {tpos : Pos} (z : Str) (t : Tok) (e it : Addr) :
    Turn P w K (.Tuple elts kk tpos) (IteS z) [e, it] e (fun i h => ((∃ old, IsEnum h e it ((i : Nat) : Int) old) ∧ h.IsStrIter it (strIterType z) z t i) ∧ e ≠ it) where
  mem := .head _
  obj := fun i h st b hb => by
    obtain ⟨⟨⟨old, he⟩, o, ho, hc, hd⟩, _⟩ := st
    rcases List.mem_cons.mp hb with z | z
    · subst z; exact ⟨_, he, nofun⟩
    · have z' : b = it := by simpa using z
      subst z'; exact ⟨o, ho, fun v q => by rw [hd] at q; cases q⟩
  keep := fun i h h' st k => ⟨⟨st.1.1.imp fun old he => k e (.head _) _ he, let ⟨o, ho, r⟩ := st.1.2; ⟨o, k it (.tail _ (.head _)) o ho, r⟩⟩, st.2⟩
  item := by
    intro X hP hw hK hc i pins s σ H E I hf st hg
    subst hP hw hK
    obtain ⟨⟨⟨old, he⟩, hit⟩, n1⟩ := st
    have le : e < s.heap.objs.size := Heap.lt_size he
    have lit : it < s.heap.objs.size := by obtain ⟨_, q, _⟩ := hit; exact Heap.lt_size q
    refine wpAny_pyNext_enum_itemD (A := X.A) (Draws.text (A := X.A.in1) (show X.A.in1.handled = none from I.ok.hd hc) it z t) he hit hg n1 (by simpa using n1) fun x1 h' tk hx1 ho hst hT hsz hk => ?_
    obtain ⟨c, u, hc1, rfl⟩ := hx1
    refine ⟨_, rfl, wpAny_letOwnedTupleGo_enum (s := { s with heap := h', toks := tk + 1 }) ho fun h'' he' sb => ?_⟩
    have hT2 : h''.get? s.heap.objs.size = some { cls := .type "tuple", data := .seq #[.int i tk, .str ⟨#[c]⟩ u] } := (sb.2 _ (Nat.ne_of_gt le)).trans hT
    have new : ObjOk X.prog X.w (upd H s.heap.objs.size (.tup [.int (i : Nat), .str ⟨#[c]⟩])) h'' s.heap.objs.size (.tup [.int (i : Nat), .str ⟨#[c]⟩]) := ⟨show 2 ≤ sizeLine by decide, [.int i tk, .str ⟨#[c]⟩ u], .cons ⟨_, rfl⟩ (.cons ⟨_, rfl⟩ .nil), ⟨_, hT2, rfl, _, rfl⟩⟩
    have I1 : Inv X pins σ (upd H s.heap.objs.size (.tup [.int (i : Nat), .str ⟨#[c]⟩])) { s with heap := h'', toks := tk + 1 } :=
      I.turnedNew (ch := [e, it]) (fun b ob hb q => by
        have b1 : b ≠ e := fun z => hb (z ▸ .head _)
        have b2 : b ≠ it := fun z => hb (z ▸ .tail _ (.head _))
        exact (sb.2 b b1).trans (hk b ob b1 b2 q)) hf (Nat.le_refl _) new
    refine ⟨.ref s.heap.objs.size, _, I1, rfl, ⟨_, c, rfl, I.hok.fresh (Nat.le_refl _), rfl, hc1⟩, ⟨⟨⟨.str ⟨#[c]⟩ u, ?_⟩, let ⟨o, ho, r⟩ := hst; ⟨o, (sb.2 it (Ne.symm n1)).trans ho, r⟩⟩, n1⟩, fun b hb => ?_⟩
    · have e2 : ((i + 1 : Nat) : Int) = (i : Int) + 1 := by omega
      rw [e2]; exact he'
    · have lb : b < s.heap.objs.size := by
        rcases List.mem_cons.mp hb with z | z
        · subst z; exact le
        · have z' : b = it := by simpa using z
          subst z'; exact lit
      rw [upd_ne (Nat.ne_of_lt lb)]
      exact (hf b hb).1
  done := by
    intro X hP hw hK hc i pins s σ H E I hf st hg
    subst hP hw hK
    obtain ⟨⟨⟨old, he⟩, hit⟩, n1⟩ := st
    obtain ⟨f0, f1, f2, f3, f4, f5⟩ := hf it (by simp)
    have hT : s.TypeIs (.ref e) "enumerate" := ⟨_, he, rfl⟩
    unfold pyNext
    refine wpAny_bind (wpAny_attempt (wpAny_callSpecial?_slot (name := Str.ofString "__next__") hT F.slot_enumerate_next (wpAny_call_entry F.slot_enumerate_next hT F.entry_enumerate_next ?_ (F.args_enumerate_next_1 _))))
    show wpAny _ _ (field (.ref e) 2 >>= _) _ _ _
    have hx : z.cps[i]? = none := Array.getElem?_eq_none hg
    have ends : ∀ (h' : Heap), Heap.ExtBut it s.heap h' → Inv X pins σ H { s with heap := h' } := fun h' he' => I.turned (t' := s.toks) (fun b o hb e => he' b o hb e) f0 f1 f3 f4 f5
    cases ha : z.cps.all (· < 128)
    · have hit' : s.heap.IsStrIter it "str_iterator" z t i := by simpa [strIterType, ha] using hit
      refine wpAny_bind (wpAny_field he rfl (x := .ref it) rfl (wpAny_bind (wpAny_nextOf_wide_end (I.ok.hd hc) hit' hx fun h' x he' hx' => ?_)))
      obtain ⟨o, ho, hcl⟩ := hx'
      exact wpAny_bind (wpAny_isInstance (T := "StopIteration") (b := true) ⟨o, ho, hcl⟩ isSubtype_stop (wpAny_pure ⟨rfl, ends h' he'⟩))
    · have hit' : s.heap.IsStrIter it "str_ascii_iterator" z t i := by simpa [strIterType, ha] using hit
      refine wpAny_bind (wpAny_field he rfl (x := .ref it) rfl (wpAny_bind (wpAny_nextOf_ascii_end (I.ok.hd hc) hit' hx fun h' x he' hx' => ?_)))
      obtain ⟨o, ho, hcl⟩ := hx'
      exact wpAny_bind (wpAny_isInstance (T := "StopIteration") (b := true) ⟨o, ho, hcl⟩ isSubtype_stop (wpAny_pure ⟨rfl, ends h' he'⟩))
  self := fun A i s Q E st h => let ⟨⟨⟨_, he⟩, _⟩, _⟩ := st; wpAny_pyIter_enum he h

def iEnumT (K : PySem.W.Frag) (ta : TA) : TI := fun σ H R => ta σ H fun vs H1 => ∃ a xs, vs = [.ref a] ∧ SqT K H1 a xs ∧ R (IteT K a) H1
def iEnumS (ta : TA) : TI := fun σ H R => ta σ H fun vs H1 => ∃ z, vs = [.str z] ∧ R (IteS z) H1
section
variable {X : Cx} {W : WX} {e : Expr} {ma : Mo T} {p pos tpos : Pos} {elts : List Expr} {kk : Nat}
theorem pi_enumT {ta : TA} (hg : Gl X "enumerate") (hm : X.mg "enumerate" = none) (ha : PA X [e] ta) (hs : starEach [e] X.env = [(false, eval e X.env)] := by rfl) :
    PI X (.Tuple elts kk tpos) (.Call (.Name "enumerate" p) [e] [] pos) (iEnumT X.K ta) := by
  constructor
  intro pins s σ H R I h
  refine Call_ (ld_blt I hg hm boot_enumerate (PyProof.Rows.callWith_type1 (thn (ha.run pos pins s σ H _ I h) fun us s1 ⟨vs, H1, I1, r1, q1⟩ => ?_) hs rfl))
  obtain ⟨a, xs, rfl, hq, q⟩ := q1
  cases r1 with
  | cons r rr =>
    cases rr
    cases r
    obtain ⟨its, rv, p', hz⟩ := I1.tuple hq
    have p2 : s1.heap.IsTuple a its.toArray := p'
    have la : a < s1.heap.objs.size := by obtain ⟨_, q, _⟩ := p2; exact Heap.lt_size q
    refine enum1_call (begins_tuple a its.toArray) p2 fun h' he hit hsz hk => wpAny_pyIter_enum he ?_
    have I2 : Inv X pins σ H1 { s1 with heap := h' } := I1.kept (t' := s1.toks) hk
    refine ⟨s1.heap.objs.size + 1, [s1.heap.objs.size + 1, s1.heap.objs.size], _, _, H1, rfl, I2, turn_enumT a (s1.heap.objs.size + 1) s1.heap.objs.size, ⟨⟨⟨.none, he⟩, ⟨_, hit, rfl, rfl⟩⟩, Nat.succ_ne_self _, Nat.ne_of_lt la, Nat.ne_of_lt (Nat.lt_succ_of_lt la)⟩, fun b hb => ?_, q⟩
    have lb : s1.heap.objs.size ≤ b := by
      rcases List.mem_cons.mp hb with z | z
      · subst z; exact Nat.le_succ _
      · have z' : b = s1.heap.objs.size := by simpa using z
        subst z'; exact Nat.le_refl _
    exact I1.fpOk lb (I1.hok.fresh lb)
theorem pi_enumS {ta : TA} (hg : Gl X "enumerate") (hm : X.mg "enumerate" = none) (ha : PA X [e] ta) (hs : starEach [e] X.env = [(false, eval e X.env)] := by rfl) :
    PI X (.Tuple elts kk tpos) (.Call (.Name "enumerate" p) [e] [] pos) (iEnumS ta) := by
  constructor
  intro pins s σ H R I h
  refine Call_ (ld_blt I hg hm boot_enumerate (PyProof.Rows.callWith_type1 (thn (ha.run pos pins s σ H _ I h) fun us s1 ⟨vs, H1, I1, r1, q1⟩ => ?_) hs rfl))
  obtain ⟨z, rfl, q⟩ := q1
  cases r1 with
  | cons r rr =>
    cases rr
    obtain ⟨t, rfl⟩ := r
    refine enum1_call (begins_text z t) trivial fun h' he hit hsz hk => wpAny_pyIter_enum he ?_
    have I2 : Inv X pins σ H1 { s1 with heap := h' } := I1.kept (t' := s1.toks) hk
    refine ⟨s1.heap.objs.size + 1, [s1.heap.objs.size + 1, s1.heap.objs.size], _, _, H1, rfl, I2, turn_enumS z t (s1.heap.objs.size + 1) s1.heap.objs.size, ⟨⟨⟨.none, he⟩, ⟨_, hit, rfl, rfl⟩⟩, Nat.succ_ne_self _⟩, fun b hb => ?_, q⟩
    have lb : s1.heap.objs.size ≤ b := by
      rcases List.mem_cons.mp hb with z | z
      · subst z; exact Nat.le_succ _
      · have z' : b = s1.heap.objs.size := by simpa using z
        subst z'; exact Nat.le_refl _
    exact I1.fpOk lb (I1.hok.fresh lb)
end
/-! the walked items -/
def enumD (i : Nat) : List D → List D
  | [] => []
  | d :: r => .tup [.int (i : Nat), d] :: enumD (i + 1) r
theorem enumD_len : ∀ (xs : List D) (i : Nat), (enumD i xs).length = xs.length
  | [], i => rfl
  | d :: r, i => by simp [enumD, enumD_len r (i + 1)]
theorem enumD_get : ∀ (xs : List D) (i k : Nat), (enumD i xs)[k]? = (xs[k]?).map fun d => .tup [.int ((i + k : Nat) : Int), d]
  | [], i, k => by simp [enumD]
  | d :: r, i, 0 => by simp [enumD]
  | d :: r, i, k + 1 => by
    simp only [enumD, List.getElem?_cons_succ]
    rw [enumD_get r (i + 1) k]
    have : i + 1 + k = i + (k + 1) := by omega
    rw [this]
theorem wk_newPair {K : PySem.W.Frag} {F F1 H : Hp} {i : Nat} {d : D} {v : V} {T : Addr} (e2 : Ex F1 H) (hT : H T = none) (r : Rep K F1 d v) :
    ∃ F2, Ex F1 F2 ∧ Ex H (upd H T (.tup [.int (i : Nat), v])) ∧ Ex F2 (upd H T (.tup [.int (i : Nat), v])) ∧ (∀ a o, F2 a = some o → F1 a = some o ∨ H a = none) ∧ Rep K F2 (.tup [.int (i : Nat), d]) (.ref T) := by
  have eF : Ex F1 (upd F1 T (.tup [.int (i : Nat), v])) := Ex.new (e2.back hT)
  refine ⟨upd F1 T (.tup [.int (i : Nat), v]), eF, Ex.new hT, fun a u e => ?_, fun a u e => ?_, rep_tup (Or.inl (Or.inl upd_same)) (reps_cons rep_int (reps_cons (Rep.mono eF _ _ r) reps_nil))⟩
  · by_cases z : a = T
    · subst z; rw [upd_same] at e ⊢; exact e
    · rw [upd_ne z] at e ⊢; exact e2 a u e
  · by_cases z : a = T
    · subst z; exact Or.inr hT
    · rw [upd_ne z] at e; exact Or.inl e
theorem wk_enumL {K : PySem.W.Frag} {F : Hp} {a : Addr} {vs : List V} {xs : List D} (h : SqL K F a vs) (r : Reps K F xs vs) : Wk K (Ite K a) F (enumD 0 xs) := by
  intro F1 H e1 e2 i
  have h2 : SqL K H a vs := e2.l (e1.l h)
  refine ⟨fun hi => ⟨vs, h2, by rw [r.len]; rw [enumD_len] at hi; exact hi⟩, fun d hd => ?_⟩
  rw [enumD_get] at hd
  cases ex : xs[i]? with
  | none => rw [ex] at hd; cases hd
  | some d0 =>
    rw [ex] at hd
    obtain ⟨v, hv, rv⟩ := r.get ex
    have hd2 : D.tup [.int ((0 + i : Nat) : Int), d0] = d := Option.some.inj hd
    subst hd2
    refine ⟨⟨vs, v, h2, hv⟩, fun x H' ⟨T, y, ex1, hT, eH, hy⟩ => ?_⟩
    subst ex1 eH
    have hy2 := hy vs h2
    rw [hv] at hy2; cases hy2
    rw [Nat.zero_add]
    exact wk_newPair (F := F) e2 hT (Rep.mono e1 _ _ rv)
theorem wk_enumT {K : PySem.W.Frag} {F : Hp} {a : Addr} {vs : List V} {xs : List D} (h : SqT K F a vs) (r : Reps K F xs vs) : Wk K (IteT K a) F (enumD 0 xs) := by
  intro F1 H e1 e2 i
  have h2 : SqT K H a vs := e2.t (e1.t h)
  refine ⟨fun hi => ⟨vs, h2, by rw [r.len]; rw [enumD_len] at hi; exact hi⟩, fun d hd => ?_⟩
  rw [enumD_get] at hd
  cases ex : xs[i]? with
  | none => rw [ex] at hd; cases hd
  | some d0 =>
    rw [ex] at hd
    obtain ⟨v, hv, rv⟩ := r.get ex
    have hd2 : D.tup [.int ((0 + i : Nat) : Int), d0] = d := Option.some.inj hd
    subst hd2
    refine ⟨⟨vs, v, h2, hv⟩, fun x H' ⟨T, y, ex1, hT, eH, hy⟩ => ?_⟩
    subst ex1 eH
    have hy2 := hy vs h2
    rw [hv] at hy2; cases hy2
    rw [Nat.zero_add]
    exact wk_newPair (F := F) e2 hT (Rep.mono e1 _ _ rv)
theorem wk_enumS {K : PySem.W.Frag} {F : Hp} {z : Str} : Wk K (IteS z) F (enumD 0 (chrD z)) := by
  intro F1 H e1 e2 i
  have len : (chrD z).length = z.cps.size := by simp [chrD]
  refine ⟨fun hi => show z.cps.size ≤ i by rw [enumD_len, len] at hi; exact hi, fun d hd => ?_⟩
  rw [enumD_get] at hd
  unfold chrD at hd
  rw [List.getElem?_map] at hd
  cases ex : z.cps.toList[i]? with
  | none => rw [ex] at hd; cases hd
  | some c0 =>
    rw [ex] at hd
    have hc0 : z.cps[i]? = some c0 := by rw [← ex]; simp
    have hd2 : D.tup [.int ((0 + i : Nat) : Int), .str ⟨#[c0]⟩] = d := Option.some.inj hd
    subst hd2
    have hi : i < z.cps.size := (Array.getElem?_eq_some_iff.mp hc0).1
    refine ⟨hi, fun x H' ⟨T, c, ex1, hT, eH, hc⟩ => ?_⟩
    subst ex1 eH
    rw [hc0] at hc; cases hc
    rw [Nat.zero_add]
    exact wk_newPair (F := F) e2 hT rep_str
/-- what enumerate walks -/
def enumOf : D → Option (List D)
  | .str z => some (enumD 0 (chrD z))
  | d => (itemsD d).map (enumD 0)
def iEnu (m : Mo T) : Mo (List D) := bnd m fun t ρ => if t.brw = true then none else match enumOf t.fz with
  | none => none
  | some xs => some (.ok xs, ρ)
section
variable {X : Cx} {W : WX} {e : Expr} {ma : Mo T} {p pos tpos : Pos} {elts : List Expr} {kk : Nat}
theorem si_enu (h : SE X W e ma) (hm : X.mg "enumerate" = none) (hg : Gl X "enumerate" := by rfl) (hs : starEach [e] X.env = [(false, eval e X.env)] := by rfl) : SI X W (.Tuple elts kk tpos) (.Call (.Name "enumerate" p) [e] [] pos) (iEnu ma) := by
  obtain ⟨te, q, z⟩ := h
  refine ⟨_, PI.or (pi_enum hg hm (pa_cons q pa_nil hs) hs) (PI.or (pi_enumT hg hm (pa_cons q pa_nil hs) hs) (pi_enumS hg hm (pa_cons q pa_nil hs) hs)), ?_⟩
  intro G F H ρ σ ts vs R r ρ' j hl ht hm k
  unfold iEnu bnd at hm
  cases e0 : ma ρ with
  | none => rw [e0] at hm; cases hm
  | some q =>
    obtain ⟨r1, ρ1⟩ := q
    rw [e0] at hm
    cases r1 with
    | exc x =>
      cases hm
      exact Or.inl (z G F H ρ σ ts vs _ (.exc x) ρ' (by simpa using j) hl ht e0 k)
    | ok t =>
      simp only at hm
      by_cases hb : t.brw = true
      · rw [if_pos hb] at hm; cases hm
      · rw [if_neg hb] at hm
        cases hi : enumOf t.fz with
        | none => rw [hi] at hm; cases hm
        | some xs =>
          rw [hi] at hm
          cases hm
          have go : ∀ (Q : V → Hp → Prop), (∀ v F' H', Ex F F' → ρ'.length = σ.length → J X.K G F' H' (ρ' ++ ts) (σ ++ vs) → Rep X.K F' t.fz v → Q v H') → te σ H Q := fun Q hq =>
            z G F H ρ σ ts vs Q (.ok t) ρ' (by simpa using j) hl ht e0 fun v F' H' e1 l1 _ j1 => by
              obtain ⟨F2, x2, j2, rd⟩ := j1.fzLast l1 ht (by simpa using hb)
              exact hq v F2 H' (e1.trans x2) l1 (app_pre j2 l1 ht) rd
          cases hf : t.fz with
          | lst ys =>
            rw [hf] at hi; cases hi
            refine Or.inl (go _ fun v F' H' e1 l1 j1 rd => ?_)
            rw [hf] at rd
            unfold Rep at rd
            obtain ⟨a, us, rfl, h1, h2⟩ := rd
            have h3 : SqL X.K F' a us := Or.inl (Or.inl h1)
            exact ⟨a, us, rfl, j1.ex.l h3, k _ F' H' e1 l1 (wk_enumL h3 h2) j1⟩
          | scr ns =>
            rw [hf] at hi; cases hi
            refine Or.inl (go _ fun v F' H' e1 l1 j1 rd => ?_)
            rw [hf] at rd
            unfold Rep at rd
            obtain ⟨a, rfl, h1⟩ := rd
            exact ⟨a, _, rfl, j1.ex.l h1, k _ F' H' e1 l1 (wk_enumL h1 (reps_ints ns)) j1⟩
          | tup ys =>
            rw [hf] at hi; cases hi
            refine Or.inr (Or.inl (go _ fun v F' H' e1 l1 j1 rd => ?_))
            rw [hf] at rd
            unfold Rep at rd
            obtain ⟨a, us, rfl, h1, h2⟩ := rd
            exact ⟨a, us, rfl, j1.ex.t h1, k _ F' H' e1 l1 (wk_enumT h1 h2) j1⟩
          | str s =>
            rw [hf] at hi; cases hi
            refine Or.inr (Or.inr (go _ fun v F' H' e1 l1 j1 rd => ?_))
            rw [hf] at rd
            unfold Rep at rd
            subst rd
            exact ⟨s, rfl, k _ F' H' e1 l1 wk_enumS j1⟩
          | non => rw [hf] at hi; cases hi
          | bl b => rw [hf] at hi; cases hi
          | int b => rw [hf] at hi; cases hi
          | obj C ns fs => rw [hf] at hi; cases hi
          | exn _ _ _ _ => rw [hf] at hi; cases hi
          | exi _ _ _ => rw [hf] at hi; cases hi
          | dic _ _ => rw [hf] at hi; cases hi
end
end SL

set_option Elab.async false
set_option linter.all false
set_option maxRecDepth 100000
set_option maxHeartbeats 4000000
/-! S-layer 46: x in an instance with __contains__; an own operator that lets exceptions pass -/
namespace SL
open PySem PySem.Spec L2 PyProof.Rows
section
variable {X : Cx} {k : Nat} {C : Str} {f : FnD}
def rInO (K : PySem.W.Frag) (C : Str) (f : FnD) : R2 := fun x y H Q => ∃ a dx fs, y = .ref a ∧ H a = some (.ins (He.ga K C) dx fs) ∧ spD K 2 f ([y, x] ++ []) H (gEq Q) E0
theorem op_ownIn (h : MetOk X.prog X.w X.K X.mg X.base k C "__contains__" 2 [] f) (hr : Room (k + 1) X.A) : OpR X (compareOp .In) (rInO X.K C f) := by
  intro pins s σ H x y v u Q I rx ry hq
  obtain ⟨a, dx, fs, rfl, ha, hsp⟩ := hq
  cases ry
  obtain ⟨fa, fd, ps, dvs, ds, F, hc, hm, hb, hd, hd2⟩ := h.ex
  obtain ⟨mA, J, _⟩ := ins_get I.hok ha
  obtain ⟨od, J, _⟩ := J.look
  obtain ⟨mm, hF⟩ := I.fr
  obtain rfl := dvs_nil hd2
  refine PySem.W.in_K hF I.ok.mod.kin J hm.at_ hm.fn ?_
  refine wpAny_mono (run_fn (us := [Value.ref a, v]) (vs := [V.ref a, x]) F (hr.mono (Nat.le_succ _)) hb hd passE0 I (.cons (show RelV (V.ref a) (Value.ref a) from rfl) (.cons rx .nil)) hsp) (fun v s' hv => ?_) fun _ _ e => e
  obtain ⟨z, H', I', rz, b, ez, q⟩ := hv
  subst ez
  cases rz
  exact wpAny_truthy_bool ⟨.bl b, H', I', rfl, q⟩
def inO (C : Str) (f : FnD) (d u : D) : Option Out := match u with
  | .obj C' _ _ => if C' = C then (match f [u, d] with
    | some (.ok (.dat (.bl b))) => some (.dt (.bl b))
    | _ => none) else none
  | _ => inF d u
theorem o2_inO {K : PySem.W.Frag} {C : Str} {f : FnD} : Op2 K (fun x y H Q => rInO K C f x y H Q ∨ L2.rIn K false x y H Q) (inO C f) := by
  intro F H Q x y d u o e r1 r2 hf q
  unfold inO at hf
  cases u with
  | obj C' ns fs =>
    simp only at hf
    by_cases c : C' = C
    · rw [if_pos c] at hf
      subst c
      have r2' := r2
      unfold Rep at r2'
      obtain ⟨a, dx, vs, rfl, h3, h4⟩ := r2'
      refine .inl ⟨a, dx, _, rfl, e _ _ h3, ?_⟩
      cases hq : f [.obj C' ns fs, d] with
      | none => rw [hq] at hf; cases hf
      | some z =>
        rw [hq] at hf
        cases z with
        | exc x => cases hf
        | ok t =>
          cases t with
          | dat w =>
            cases w with
            | bl b =>
              cases hf
              refine ⟨F, _, _, e, reps_cons r2 (reps_cons r1 reps_nil), rfl, hq, rfl, fun v F' H' e1 e2 e3 e4 hold _ => ?_⟩
              have hv : v = .bl b := rb (show Rep K F' (.bl b) v from hold)
              subst hv
              exact ⟨b, rfl, q (.bl b) F' H' e1 e2 e3 e4 rep_bl⟩
            | _ => cases hf
          | lst _ _ => cases hf
          | ins _ _ _ _ => cases hf
    · rw [if_neg c] at hf; cases hf
  | non => exact .inr (o2_in F H Q x y d _ o e r1 r2 hf q)
  | bl _ => exact .inr (o2_in F H Q x y d _ o e r1 r2 hf q)
  | int _ => exact .inr (o2_in F H Q x y d _ o e r1 r2 hf q)
  | str _ => exact .inr (o2_in F H Q x y d _ o e r1 r2 hf q)
  | tup _ => exact .inr (o2_in F H Q x y d _ o e r1 r2 hf q)
  | lst _ => exact .inr (o2_in F H Q x y d _ o e r1 r2 hf q)
  | scr _ => exact .inr (o2_in F H Q x y d _ o e r1 r2 hf q)
  | exn _ _ _ _ => exact .inr (o2_in F H Q x y d _ o e r1 r2 hf q)
  | exi _ _ _ => exact .inr (o2_in F H Q x y d _ o e r1 r2 hf q)
  | dic _ _ => exact .inr (o2_in F H Q x y d _ o e r1 r2 hf q)
theorem op_inO (h : MetOk X.prog X.w X.K X.mg X.base k C "__contains__" 2 [] f) (hr : Room (k + 1) X.A) : OpR X (compareOp .In) (fun x y H Q => rInO X.K C f x y H Q ∨ L2.rIn X.K false x y H Q) := OpR.or (op_ownIn h hr) op_in_seq
end
/-! an operator that may raise -/
section
variable {X : Cx} {W : WX} {k : Nat} {C : Str} {f : FnD} {a b : Expr} {ma mb : Mo T} {pos : Pos} {K : PySem.W.Frag}
def tBinE (K : PySem.W.Frag) (C : Str) (sp : Sp) (E : L2.St → XK) (ta tb : TE) : TE := fun σ H Q => ta σ H fun x H1 => tb σ H1 fun y H2 => ∃ a dx fs b dy gs, x = .ref a ∧ y = .ref b ∧ H2 a = some (.ins (He.ga K C) dx fs) ∧ H2 b = some (.ins (He.ga K C) dy gs) ∧ sp ([x, y] ++ []) H2 (gRef Q) (E σ)
theorem pe_binE {op : Operator} {ta tb : TE} {E : L2.St → XK} (h : MetOk X.prog X.w X.K X.mg X.base k C (PySem.dunder op.info.2) 2 [] f) (hr : Room (k + 1) X.A) (hc : PySem.W.selfFirst X.K (He.ga X.K C) = true) (hx : ∀ σ, PassesAt (L2.CX X.prog X.w) X σ (E σ)) (ha : PE X a ta) (hb : PE X b tb) :
    PE X (.BinOp a op b pos) (tBinE X.K C (spD X.K 2 f) E ta tb) := by
  refine ⟨fun pins s σ H Q I hq => ?_⟩
  refine wpAny_BinOp (binT ha hb I hq fun v u s2 x y H2 I2 rx ry q => ?_)
  obtain ⟨a, dx, fs, b, dy, gs, rfl, rfl, ha, hb', hsp⟩ := q
  cases rx
  cases ry
  obtain ⟨fa, fd, ps, dvs, ds, F, _, hm, hb, hd, hd2⟩ := h.ex
  obtain ⟨mA, J, _⟩ := ins_get I2.hok ha
  obtain ⟨od, J, _⟩ := J.look
  obtain ⟨mB, J', _⟩ := ins_get I2.hok hb'
  obtain ⟨od', J', _⟩ := J'.look
  obtain ⟨mm, hF⟩ := I2.fr
  obtain rfl := dvs_nil hd2
  refine PySem.W.binop_K hF I2.ok.mod.kin J J'.type hc hm.at_ hm.fn ?_
  refine wpAny_mono (run_fnSD (us := [Value.ref a, Value.ref b]) (vs := [V.ref a, V.ref b]) F (hr.mono (Nat.le_succ _)) hb hd (hx σ) I2 (.cons (show RelV (V.ref a) (Value.ref a) from rfl) (.cons (show RelV (V.ref b) (Value.ref b) from rfl) .nil)) hsp) (fun v s' hv => ?_) fun _ _ e => e
  obtain ⟨z, H', I', rz, ⟨c, ez⟩, q⟩ := hv
  subst ez
  cases rz
  exact ⟨.ref c, H', I', rfl, q⟩
def obT (t : T) : Mo T := match t with
  | .dat (.obj C ns fs) => ret (.dat (.obj C ns fs))
  | .ins b C ns fs => ret (.ins b C ns fs)
  | _ => nop
theorem snd_obT {t : T} {x : V} : SndX K W [some t] [some x] plT pmT (fun _ v => v = x) (fun σ H Q => (∃ a, x = .ref a) ∧ Q x H) (obT t) := by
  intro G F H ρ σ us ws Q r ρ' j hl ht hm kk
  have hold := j.last hl ht
  unfold obT at hm
  split at hm
  · cases hm
    have rd : Rep K F (.obj _ _ _) x := hold
    unfold Rep at rd
    obtain ⟨a, dx, vs, rfl, _⟩ := rd
    exact ⟨⟨a, rfl⟩, kk _ F H Ex.rfl hl rfl j⟩
  · cases hm
    obtain ⟨a, dx, vs, rfl, _⟩ := hold
    exact ⟨⟨a, rfl⟩, kk _ F H Ex.rfl hl rfl j⟩
  · cases hm
def binMX (C : Str) (f : FnD) (t u : T) : Mo T := match frzs [t, u] with
  | some [.obj C1 _ _, .obj C2 _ _] => if C1 = C ∧ C2 = C then bnd (callM 2 f [] [t, u]) obT else nop
  | _ => nop
def eBinX (C : Str) (f : FnD) (ma mb : Mo T) : Mo T := bnd ma fun t => bnd mb fun u => binMX C f t u
theorem snd_binMX {t u : T} {x y : V} : SndX K W [some t, some u] [some x, some y] plT pmT (fun _ _ => True)
    (fun σ H Q => ∃ a dx fs b dy gs, x = .ref a ∧ y = .ref b ∧ H a = some (.ins (He.ga K C) dx fs) ∧ H b = some (.ins (He.ga K C) dy gs) ∧ spD K 2 f ([x, y] ++ []) H (gRef Q) (WE W σ)) (binMX C f t u) := by
  intro G F H ρ σ us ws Q r ρ' j hl ht hm kk
  unfold binMX at hm
  cases hf : frzs [t, u] with
  | none => rw [hf] at hm; cases hm
  | some ds =>
    rw [hf] at hm
    have hf' := hf
    unfold frzs at hf
    by_cases hb : [t, u].any T.brw = true
    · rw [if_pos hb] at hf; cases hf
    · rw [if_neg hb] at hf
      cases hf
      have j0 := j
      rw [← List.append_assoc, ← List.append_assoc] at j0
      obtain ⟨F1, x1, j1, r1⟩ := J.freezes (ts := [t, u]) (vs := [x, y]) j0 (by simp [hl, ht]) (by simpa using hb)
      simp only [List.map_cons, List.map_nil] at hm r1
      cases e1 : t.fz with
      | obj C1 n1 f1 =>
        cases e2 : u.fz with
        | obj C2 n2 f2 =>
          rw [e1, e2] at hm r1
          simp only at hm
          by_cases hc : C1 = C ∧ C2 = C
          · rw [if_pos hc] at hm
            obtain ⟨rfl, rfl⟩ := hc
            unfold Reps at r1
            obtain ⟨v, rr, ee, r2, r3⟩ := r1
            injection ee with ee1 ee2
            subst ee1 ee2
            unfold Reps at r3
            obtain ⟨v', rr', ee', r4, r5⟩ := r3
            injection ee' with ee1 ee2
            subst ee1
            unfold Rep at r2 r4
            obtain ⟨a, dx, vs, rfl, h1, h2, h3⟩ := r2
            obtain ⟨b, dy, ws', rfl, g1, g2, g3⟩ := r4
            refine ⟨a, dx, _, b, dy, _, rfl, rfl, j1.ex _ _ h1, j1.ex _ _ g1, ?_⟩
            have key : SndX K W ([t, u].map some) ([V.ref a, V.ref b].map some) plT pmT (fun _ _ => True) (fun σ H Q => spD K 2 f ([V.ref a, V.ref b] ++ []) H (fun v H1 => (∃ a, v = .ref a) ∧ Q v H1) (WE W σ)) (bnd (callM 2 f [] [t, u]) obT) :=
              SndX.pre (t1 := fun σ H Q => spD K 2 f ([V.ref a, V.ref b] ++ []) H Q (WE W σ)) (t2 := fun v σ H Q => (∃ a, v = .ref a) ∧ Q v H) rfl (snd_callM (dvs := []) (fun _ => reps_nil) [t, u] [V.ref a, V.ref b]) fun t v _ => by
                intro G F H ρ σ us ws Q r ρ' j hl ht hm kk
                exact snd_obT G F H ρ σ us ws Q r ρ' j hl ht hm (by
                  cases r with
                  | ok c => exact fun b F' H' e1 e2 _ j => kk b F' H' e1 e2 trivial j
                  | exc x => exact kk)
            exact key G F H ρ σ us ws Q r ρ' j hl ht hm kk
          · rw [if_neg hc] at hm; cases hm
        | _ => rw [e1, e2] at hm; cases hm
      | _ => rw [e1] at hm; simp at hm; cases hm
theorem se_binX {op : Operator} (h : MetOk X.prog X.w X.K X.mg X.base k C (PySem.dunder op.info.2) 2 [] f) (hr : Room (k + 1) X.A) (hc : PySem.W.selfFirst X.K (He.ga X.K C) = true) (tk : Takes X W) (ha : SE X W a ma) (hb : SE X W b mb) :
    SE X W (.BinOp a op b pos) (eBinX C f ma mb) := by
  obtain ⟨ta, p, z⟩ := ha
  obtain ⟨tb, q, z2⟩ := hb
  refine ⟨_, pe_binE h hr hc (fun σ => passAt tk σ) p q, ?_⟩
  refine SndX.bnd (t2 := fun x σ H Q => tb σ H fun y H2 => ∃ a dx fs b dy gs, x = .ref a ∧ y = .ref b ∧ H2 a = some (.ins (He.ga X.K C) dx fs) ∧ H2 b = some (.ins (He.ga X.K C) dy gs) ∧ spD X.K 2 f ([x, y] ++ []) H2 (gRef Q) (WE W σ)) rfl z fun t x _ => ?_
  exact SndX.bnd (L0 := [some t]) (M0 := [some x]) (t2 := fun y σ H2 Q => ∃ a dx fs b dy gs, x = .ref a ∧ y = .ref b ∧ H2 a = some (.ins (He.ga X.K C) dx fs) ∧ H2 b = some (.ins (He.ga X.K C) dy gs) ∧ spD X.K 2 f ([x, y] ++ []) H2 (gRef Q) (WE W σ)) rfl z2 fun u y _ => snd_binMX
end
end SL

set_option Elab.async false
set_option linter.all false
set_option maxRecDepth 100000
set_option maxHeartbeats 4000000
/-! S-layer 47: C() without arguments -/
namespace SL
open PySem PySem.Spec L2 PyProof.Rows
section
variable {X : Cx} {W : WX} {pos : Pos} {K : PySem.W.Frag}
theorem snd_ret0 : SndA K W tNil (ret []) := fun G F H ρ σ us ws Q r ρ' j hl ht hm k => by
  cases hm
  exact k [] F H Ex.rfl hl rfl j
theorem pe_makeE0 {CX : CXT} {k : Nat} {C f : Addr} {x : Str} {fd : FuncData} {ps : List Str} {sp : Sp} {dvs : List V} {ds : List Value} {E : L2.St → XK} {p : Pos} (M : Mk X.K C f) (F : FnOk X.prog X.w X.K X.mg X.base CX k f fd ps sp) (hr : Room (k + 1) X.A) (hg : Gl X x) (hm : X.mg x = some (.ref C)) (hb : Binds X.K fd ps ds) (hd : Vals dvs ds)
    (hx : ∀ σ, PassesAt CX X σ (E σ)) (hdb : (x == ("__debug__" : Str)) = false := by decide) : PE X (.Call (.Name x p) [] [] pos) (tMakeE C sp dvs E tNil) := by
  refine ⟨fun pins s σ H Q I h => wpAny_Call_Name_kw (ld_glob I hg hm ?_ hdb)⟩
  exact PySem.W.callWith_K0 I.kIn M.kp (run_makeE (us := []) M F hr hb hd (hx σ) I .nil h)
theorem se_makX0 {k : Nat} {C : Str} {p : Pos} {ar : Nat} {dds : List D} {f : FnB} (h : MakOk X.prog X.w X.K X.mg X.base k C ar dds f) (hr : Room (k + 1) X.A) (tk : Takes X W) (hg : Gl X C := by rfl) (hdb : (C == ("__debug__" : Str)) = false := by decide) :
    SE X W (.Call (.Name C p) [] [] pos) (eMakX C ar f dds (ret [])) := by
  obtain ⟨fa, fd, ps, dvs, ds, F, M, hm, hb, hd, hr2⟩ := h.ex
  exact ⟨_, pe_makeE0 M F hr hg hm hb hd (fun σ => passAt tk σ) hdb, SndX.bnd (t2 := fun (vs : List V) σ H (Q : VK) => ∀ x dx, H x = none → H dx = none → dx ≠ x → spB X.K ar f (.ref x :: (vs ++ dvs)) (upd (upd H dx (.own x)) x (.ins (He.ga X.K C) dx [])) (fun v H2 => v = .non ∧ Q (.ref x) H2) (WE W σ)) rfl snd_ret0 fun us xs _ => snd_makMX hr2 us xs⟩
theorem se_mak0 {k : Nat} {C : Str} {p : Pos} {ar : Nat} {dds : List D} {f : FnB} (h : MakOk X.prog X.w X.K X.mg X.base k C ar dds f) (hr : Room (k + 1) X.A) (hg : Gl X C := by rfl) (hdb : (C == ("__debug__" : Str)) = false := by decide) :
    SE X W (.Call (.Name C p) [] [] pos) (eMak C ar f dds (ret [])) := by
  obtain ⟨fa, fd, ps, dvs, ds, F, M, hm, hb, hd, hr2⟩ := h.ex
  exact ⟨_, pe_make0 M F hr hg hm hb hd passL hdb, SndX.bnd (t2 := fun (vs : List V) σ H (Q : VK) => ∀ x dx, H x = none → H dx = none → dx ≠ x → spB X.K ar f (.ref x :: (vs ++ dvs)) (upd (upd H dx (.own x)) x (.ins (He.ga X.K C) dx [])) (fun v H2 => v = .non ∧ Q (.ref x) H2) E0) rfl snd_ret0 fun us xs _ => snd_makM hr2 us xs⟩
theorem se_call00 {k : Nat} {x : Str} {p : Pos} {ar : Nat} {dds : List D} {f : FnD} (h : DefOk X.prog X.w X.K X.mg X.base k x ar dds f) (hr : Room k X.A) (hg : Gl X x := by rfl) (hdb : (x == ("__debug__" : Str)) = false := by decide) :
    SE X W (.Call (.Name x p) [] [] pos) (eCall0 ar f dds (ret [])) := by
  obtain ⟨fa, fd, ps, dvs, ds, F, hm, kp, hb, hd, hr2⟩ := h.ex
  exact ⟨_, pe_call0 F hr hg hm kp hb hd passL hdb, SndX.bnd (t2 := fun (vs : List V) σ H (Q : VK) => spD X.K ar f (vs ++ dvs) H Q E0) rfl snd_ret0 fun us xs _ => snd_callM0 hr2 us xs⟩
end
end SL

set_option Elab.async false
set_option linter.all false
set_option maxRecDepth 100000
set_option maxHeartbeats 4000000
/-! S-layer 48: xs[::-1] of a list -/
namespace SL
open PySem PySem.Spec L2 PyProof.Rows
theorem backs (n : Nat) : sliceRange ((n : Int) - 1) (-1) (-1) = (List.range n).reverse := by
  have key : (if (n : Int) - 1 > -1 then ((n : Int) - 1 - -1 - -1 - 1) / (- -1) else 0 : Int) = (n : Int) := by
    split
    · rw [show (- -1 : Int) = 1 from rfl, Int.ediv_one]; omega
    · omega
  show (List.range (if (-1 : Int) > 0 then _ else (if (n : Int) - 1 > -1 then ((n : Int) - 1 - -1 - -1 - 1) / (- -1) else 0) : Int).toNat).map _ = _
  rw [if_neg (show ¬ ((-1 : Int) > 0) by decide), key]
  apply List.ext_getElem
  · simp
  · intro i h1 h2
    have hi : i < n := by simpa using h2
    simp only [List.getElem_map, List.getElem_range, List.getElem_reverse, List.length_range]
    omega
theorem pick_all {α : Type} : ∀ its : List α, (List.range its.length).filterMap (its.toArray[·]?) = its := by
  intro its
  have e : (fun i : Nat => its.toArray[i]?) = fun i => its[i]? := by funext i; simp
  rw [e]
  induction its with
  | nil => rfl
  | cons x xs ih =>
    rw [List.length_cons, List.range_succ_eq_map]
    simp only [List.filterMap_cons, List.getElem?_cons_zero, List.filterMap_map]
    exact congrArg (x :: ·) (ih (by funext i; simp))
theorem pick_back (its : List Value) : slicePick its.toArray none none (some (-1)) = its.reverse.toArray := by
  unfold slicePick
  have e : sliceBounds none none (some (-1)) its.toArray.size = ((its.length : Int) - 1, -1, -1) := rfl
  rw [e]
  dsimp only
  rw [backs, List.filterMap_reverse, pick_all]
theorem Reps.rev {K : PySem.W.Frag} {F : Hp} : ∀ {xs : List D} {vs : List V}, Reps K F xs vs → Reps K F xs.reverse vs.reverse
  | [], vs, h => by unfold Reps at h; subst h; exact reps_nil
  | x :: xs, vs, h => by
    unfold Reps at h
    obtain ⟨v, r, rfl, h1, h2⟩ := h
    rw [List.reverse_cons, List.reverse_cons]
    exact h2.rev.app (reps_cons h1 reps_nil)
section
variable {X : Cx} {W : WX} {pos : Pos} {K : PySem.W.Frag} {ma mb : Mo T} {e st : Expr}
def tRev (K : PySem.W.Frag) (te : TE) (tp : TO) : TE := fun σ H Q => te σ H fun x H1 => tp σ H1 fun l H2 => l = some (-1) ∧ ∃ a xs, x = .ref a ∧ SqL K H2 a xs ∧ ∀ p, H2 p = none → Q (.ref p) (upd H2 p (.lst xs.reverse))
theorem pe_rev {te : TE} {tp : TO} {p2 : Pos} (he : PE X e te) (hs : PO X (some st) tp) : PE X (.Subscript e (.Slice none none (some st) p2) pos) (tRev X.K te tp) := by
  refine ⟨fun pins s σ H Q I h => ?_⟩
  refine Subscript_ (thn (he.run pins s σ H _ I h) fun v s1 ⟨x, H1, I1, r1, q1⟩ => wpAny_Slice ?_)
  rw [evalPart_none]
  refine wpAny_pure (wpAny_pure (thn (hs.run pins s1 σ H1 _ I1 q1) fun vs s3 ⟨l, H3, I3, ps, el, a, xs, ex, hx, q⟩ => ?_))
  subst el ex
  cases r1
  have I4 : Inv X pins σ H3 { s3 with heap := s3.heap.push { cls := .type "slice", data := .fields #[.none, .none, vs] } } := I3.kept (t' := s3.toks) fun b ob q => Heap.get?_push_of_some _ q
  obtain ⟨its, r, ht, hz⟩ := I4.list hx
  have hlen := r.length
  refine tail_any (ops := [.ref a, .ref s3.heap.objs.size]) ht.isList.typeIs slot_list_getitem.lookup (wpAny_getItem_list_slice ht.isList (Heap.IsSliceOf.new ..) .none .none ps (by decide) ?_ (by rw [List.size_toArray] <;> omega)) (by with_unfolding_all rfl)
  rw [pick_back]
  exact ⟨.ref _, _, I4.laid (t' := s3.toks) (o := .lst xs.reverse) (fun b ob q => Heap.get?_push_of_some _ q) (Nat.le_refl _) ⟨by rw [List.length_reverse]; exact hz, _, 0, r.reverse, Heap.get?_push_size _ rfl⟩, rfl, q _ (I4.hok.fresh (Nat.le_refl _))⟩
def revF (o : Option Int) (d : D) : Option Out := match d, o with
  | .lst xs, some i => if i = -1 then some (.nl xs.reverse) else none
  | _, _ => none
def eRev (m : Mo T) (ms : Mo (Option Int)) : Mo T := bnd m fun t => bnd ms fun o => opM (one (revF o)) [t]
theorem se_rev {p2 : Pos} {ms : Mo (Option Int)} (he : SE X W e ma) (hs : SO X W (some st) ms) : SE X W (.Subscript e (.Slice none none (some st) p2) pos) (eRev ma ms) := by
  obtain ⟨te, pe, se⟩ := he
  obtain ⟨tl, pl, sl⟩ := hs
  refine ⟨_, pe_rev pe pl, SndX.bnd (t2 := fun (x : V) σ H1 (Q : VK) => tl σ H1 fun l H2 => l = some (-1) ∧ ∃ a xs, x = .ref a ∧ SqL X.K H2 a xs ∧ ∀ p, H2 p = none → Q (.ref p) (upd H2 p (.lst (xs.reverse)))) rfl se fun t x _ => ?_⟩
  refine SndX.bnd (L0 := [some t]) (M0 := [some x]) (t2 := fun (l : Option Int) σ H2 (Q : VK) => l = some (-1) ∧ ∃ a xs, x = .ref a ∧ SqL X.K H2 a xs ∧ ∀ p, H2 p = none → Q (.ref p) (upd H2 p (.lst (xs.reverse)))) rfl sl fun l l' el => ?_
  subst el
  refine snd_one (r := fun (x : V) H2 (Q : VK) => l' = some (-1) ∧ ∃ a xs, x = .ref a ∧ SqL X.K H2 a xs ∧ ∀ p, H2 p = none → Q (.ref p) (upd H2 p (.lst xs.reverse))) (fun F H Q x d o ex rd hf q => ?_)
  unfold revF at hf
  split at hf
  · next xs i =>
    split at hf
    · next h =>
      cases hf
      subst h
      obtain ⟨a, vs, rfl, h1, h2⟩ := SV.of ex rd
      exact ⟨rfl, a, vs, rfl, .inl (.inl h1), fun p hp => q p _ hp h2.rev⟩
    · cases hf
  · cases hf
end
end SL

set_option Elab.async false
set_option linter.all false
set_option maxRecDepth 100000
set_option maxHeartbeats 4000000
/-! S-layer 49: x.pop(), x.extend(e), the list of slot i -/
namespace SL
open PySem L2 PyProof.Rows
def ePop (i : Nat) : Mo T := fun ρ => match atS i ρ with
  | some (.lst b xs) => (match xs[xs.length - 1]? with
    | some d => some (.ok (.dat d), ρ.set i (some (.lst b xs.dropLast)))
    | none => none)
  | _ => none
theorem reps_init {K : PySem.W.Frag} {F : Hp} {xs : List D} {vs : List V} (h : Reps K F xs vs) : Reps K F xs.dropLast vs.dropLast := by
  rw [List.dropLast_eq_take, List.dropLast_eq_take, h.len]
  exact h.take _
section
variable {X : Cx} {W : WX} {e : Expr} {ma : Mo T}
theorem se_pop {i : Nat} {x : Str} {px apos cpos : Pos} (hN : X.N[i]? = some x := by rfl) (hv : Vis X.env.scope x := by first | exact Or.inl rfl | exact Or.inr (Or.inl rfl) | exact Or.inr (Or.inr rfl)) (hd : (x == ("__debug__" : Str)) = false := by decide) (hcd : (x == ("__classdict__" : Str)) = false := by decide)
    (hbase : attributeBase (.Name x px) "pop" X.env (eval (.Name x px) X.env) = eval (.Name x px) X.env := by rfl) (hline : (apos.endLine == cpos.line) = true := by rfl) :
    SE X W (.Call (.Attribute (.Name x px) "pop" apos) [] [] cpos) (ePop i) := by
  refine ⟨_, pe_bm0 PySem.F.plainAttrs_list PySem.F.slot_list_pop PySem.F.type_list_pop mt_pop (pe_var hN hv hd hcd) hbase hline, ?_⟩
  intro G F H ρ σ us ws Q r ρ' j hl ht hm k
  simp only [List.append_nil] at j
  unfold ePop at hm
  cases e0 : atS i ρ with
  | none => rw [e0] at hm; cases hm
  | some t0 =>
    rw [e0] at hm
    cases t0 with
    | dat d => cases hm
    | ins _ _ _ _ => cases hm
    | lst b xs =>
      simp only at hm
      obtain ⟨v, h1, h2, m3, m4, m5⟩ := j.slot hl e0
      obtain ⟨a, vs, rfl, g1, g2, g3⟩ := h2
      refine ⟨.ref a, h1, ?_⟩
      refine ⟨Or.inl ⟨rfl, vs, Or.inl (Or.inl g2)⟩, ?_⟩
      cases ed : xs[xs.length - 1]? with
      | none => rw [ed] at hm; cases hm
      | some d =>
        rw [ed] at hm
        cases hm
        obtain ⟨yv, hyv, ryv⟩ := g3.get ed
        refine ⟨a, vs, yv, rfl, rfl, g2, by rw [g3.len]; exact hyv, ?_⟩
        have j4 := j.mut (t' := .lst b xs.dropLast) (o := .lst vs.dropLast) m4 rfl rfl rfl m5 ⟨a, _, rfl, g1, upd_same, reps_init g3⟩
        rw [List.set_append_left _ _ m3] at j4
        refine k yv F _ Ex.rfl (by simpa using hl) trivial ?_
        simpa using j4.dat ryv
def eExt (i : Nat) (ma : Mo T) : Mo T := fun ρ => match atS i ρ with
  | some (.lst _ _) => bnd ma (fun u ρ1 => match u.brw, u.fz, atS i ρ1 with
    | false, .lst ys, some (.lst b xs) => if xs.length + ys.length ≤ 100000 then some (.ok (.dat .non), ρ1.set i (some (.lst b (xs ++ ys)))) else none
    | _, _, _ => none) ρ
  | _ => none
theorem se_ext {i : Nat} {x : Str} {px apos cpos : Pos} (h : SE X W e ma) (hN : X.N[i]? = some x := by rfl) (hv : Vis X.env.scope x := by first | exact Or.inl rfl | exact Or.inr (Or.inl rfl) | exact Or.inr (Or.inr rfl)) (hd : (x == ("__debug__" : Str)) = false := by decide) (hcd : (x == ("__classdict__" : Str)) = false := by decide)
    (hbase : attributeBase (.Name x px) "extend" X.env (eval (.Name x px) X.env) = eval (.Name x px) X.env := by rfl)
    (hfew : ((backTo cpos (starEach (e :: []) X.env)).all (fun x => !x.1) && (backToKw cpos (keywordEach [] X.env)).all (fun x => x.1.isSome)
      && decide ((e :: []).length + ([] : List Keyword).length + (if ([] : List Keyword).isEmpty then 0 else 1) < 30)) = true := by rfl)
    (hline : (apos.endLine == cpos.line) = true := by rfl) (hst : starEach (e :: []) X.env = (false, eval e X.env) :: starEach [] X.env := by rfl) (hplain : (backTo cpos (starEach [] X.env)).any (·.1) = false := by rfl) :
    SE X W (.Call (.Attribute (.Name x px) "extend" apos) [e] [] cpos) (eExt i ma) := by
  obtain ⟨te, p, z⟩ := h
  refine ⟨_, pe_bm PySem.F.plainAttrs_list PySem.F.slot_list_extend PySem.F.type_list_extend mt_extend (pe_var hN hv hd hcd) (pa_cons p pa_nil hst) hbase hfew hline hst hplain, ?_⟩
  intro G F H ρ σ us ws Q r ρ' j hl ht hm k
  simp only [List.append_nil] at j
  unfold eExt at hm
  cases e0 : atS i ρ with
  | none => rw [e0] at hm; cases hm
  | some t0 =>
    rw [e0] at hm
    cases t0 with
    | dat d => cases hm
    | ins _ _ _ _ => cases hm
    | lst b0 xs0 =>
      simp only at hm
      obtain ⟨v, h1, h2, hi, _, _⟩ := j.slot hl e0
      obtain ⟨a, vs0, rfl, g1, g2, g3⟩ := h2
      refine ⟨.ref a, h1, ?_⟩
      refine ⟨Or.inl ⟨rfl, vs0, Or.inl (Or.inl g2)⟩, ?_⟩
      unfold bnd at hm
      cases em : ma ρ with
      | none => rw [em] at hm; cases hm
      | some q =>
        obtain ⟨r1, ρ1⟩ := q
        rw [em] at hm
        refine z G F H ρ σ us ws _ r1 ρ1 (by simpa using j) hl ht em ?_
        cases r1 with
        | exc x => cases hm; exact k
        | ok u =>
          intro y F' H' e1 l1 _ j1
          simp only at hm
          cases eb : u.brw with
          | true => rw [eb] at hm; simp only at hm; cases hm
          | false =>
            rw [eb] at hm
            obtain ⟨F2, x2, j2, rd⟩ := j1.fzLast l1 ht eb
            have j3 := app_pre j2 l1 ht
            cases ef : u.fz with
            | lst ys =>
              rw [ef] at hm rd
              cases e2 : atS i ρ1 with
              | none => rw [e2] at hm; cases hm
              | some t1 =>
                rw [e2] at hm
                cases t1 with
                | dat d => cases hm
                | ins _ _ _ _ => cases hm
                | lst b xs =>
                  simp only at hm
                  by_cases hz : xs.length + ys.length ≤ 100000
                  · rw [if_pos hz] at hm
                    cases hm
                    obtain ⟨v', m1, m2, m3, m4, m5⟩ := j3.slot l1 e2
                    rw [h1] at m1; cases m1
                    obtain ⟨a', vs, q1, q2, q3, q4⟩ := m2
                    cases q1
                    unfold Rep at rd
                    obtain ⟨bb, zs, rfl, n1, n2⟩ := rd
                    refine ⟨a, bb, vs, zs, rfl, rfl, q3, j3.ex _ _ n1, by rw [q4.len, n2.len]; exact big_line hz, ?_⟩
                    have j4 := j3.mut (t' := .lst b (xs ++ ys)) (o := .lst (vs ++ zs)) m4 rfl rfl rfl m5 ⟨a, _, rfl, q2, upd_same, q4.app n2⟩
                    rw [List.set_append_left _ _ m3] at j4
                    refine k .non F2 _ (e1.trans x2) (by simpa using l1) trivial ?_
                    rw [← List.append_assoc, ← List.append_assoc]
                    exact j4.dat rep_non
                  · rw [if_neg hz] at hm; cases hm
            | _ => rw [ef] at hm; simp only at hm; cases hm
end
end SL

set_option Elab.async false
set_option linter.all false
set_option maxRecDepth 100000
set_option maxHeartbeats 4000000
/-! S-layer 50: a module's tuple of texts -/
namespace SL
open PySem L2 PyProof.Rows
def isStrV : Value → Str → Bool
  | .str y _, z => decide (y = z)
  | _, _ => false
theorem isStrV_ok {v : Value} {z : Str} (h : isStrV v z = true) : ∃ t, v = .str z t := by
  unfold isStrV at h
  split at h
  · next y t =>
    have e := of_decide_eq_true h
    subst e
    exact ⟨t, rfl⟩
  · cases h
def strsV : List Value → List Str → Bool
  | [], [] => true
  | v :: vs, z :: zs => isStrV v z && strsV vs zs
  | _, _ => false
theorem strsV_ok : ∀ {vs : List Value} {zs : List Str}, strsV vs zs = true → Vals (zs.map V.str) vs
  | [], [], _ => .nil
  | v :: vs, z :: zs, h => by
    unfold strsV at h
    rw [Bool.and_eq_true] at h
    obtain ⟨t, rfl⟩ := isStrV_ok h.1
    exact .cons ⟨t, rfl⟩ (strsV_ok h.2)
  | [], _ :: _, h => by unfold strsV at h; cases h
  | _ :: _, [], h => by unfold strsV at h; cases h
def pTups (x : Str) (zs : List Str) : Ft := fun K => match PySem.W.nsIn K mainGlobals x with
  | some (some (.ref a)) => (match K.lookup a with
    | some o => decide (o.cls = .type "tuple") && (match o.data with
      | .seq its _ => decide (its.size ≤ sizeLine) && strsV its.toList zs
      | _ => false)
    | none => false)
  | _ => false
theorem glk_tups {K : PySem.W.Frag} {h : Heap} {mg : Str → Option Value} (X : K.In h) (G : h.Ns mainGlobals mg) {x : Str} {zs : List Str} (c : pTups x zs K = true) : GlK K mg x (.tup (zs.map .str)) := by
  unfold pTups at c
  split at c
  · next a e =>
    split at c
    · next o eo =>
      rw [Bool.and_eq_true] at c
      obtain ⟨c1, c2⟩ := c
      split at c2
      · next its n ed =>
        rw [Bool.and_eq_true] at c2
        exact ⟨.ref a, .ref a, PySem.W.mg_of X G e, rfl, fun F => rep_tup (Or.inr ⟨o, its, n, eo, of_decide_eq_true c1, ed, of_decide_eq_true c2.1, strsV_ok c2.2⟩) (reps_strs zs)⟩
      · cases c2
    · cases c
  · cases c
end SL

set_option Elab.async false
set_option linter.all false
set_option maxRecDepth 100000
set_option maxHeartbeats 4000000
/-! S-layer 51: x.insert(e, u), the list of slot i -/
namespace SL
open PySem L2 PyProof.Rows
def eIns (i : Nat) (ma mb : Mo T) : Mo T := fun ρ => match atS i ρ with
  | some (.lst _ _) => bnd ma (fun u ρ1 => match u with
    | .dat (.int q) => bnd mb (fun w ρ2 => match w.brw, atS i ρ2 with
      | false, some (.lst b xs) => if 0 ≤ q ∧ q ≤ 100000 ∧ xs.length < 100000 then some (.ok (.dat .non), ρ2.set i (some (.lst b (xs.take q.toNat ++ [w.fz] ++ xs.drop q.toNat)))) else none
      | _, _ => none) ρ1
    | _ => none) ρ
  | _ => none
section
variable {X : Cx} {W : WX} {e e2 : Expr} {ma mb : Mo T}
theorem se_ins {i : Nat} {x : Str} {px apos cpos : Pos} (h : SE X W e ma) (h2 : SE X W e2 mb) (hN : X.N[i]? = some x := by rfl) (hv : Vis X.env.scope x := by first | exact Or.inl rfl | exact Or.inr (Or.inl rfl) | exact Or.inr (Or.inr rfl)) (hd : (x == ("__debug__" : Str)) = false := by decide) (hcd : (x == ("__classdict__" : Str)) = false := by decide)
    (hbase : attributeBase (.Name x px) "insert" X.env (eval (.Name x px) X.env) = eval (.Name x px) X.env := by rfl)
    (hfew : ((backTo cpos (starEach (e :: [e2]) X.env)).all (fun x => !x.1) && (backToKw cpos (keywordEach [] X.env)).all (fun x => x.1.isSome)
      && decide ((e :: [e2]).length + ([] : List Keyword).length + (if ([] : List Keyword).isEmpty then 0 else 1) < 30)) = true := by rfl)
    (hline : (apos.endLine == cpos.line) = true := by rfl) (hst : starEach (e :: [e2]) X.env = (false, eval e X.env) :: starEach [e2] X.env := by rfl) (hst2 : starEach (e2 :: []) X.env = (false, eval e2 X.env) :: starEach [] X.env := by rfl) (hplain : (backTo cpos (starEach [e2] X.env)).any (·.1) = false := by rfl) :
    SE X W (.Call (.Attribute (.Name x px) "insert" apos) [e, e2] [] cpos) (eIns i ma mb) := by
  obtain ⟨te, p, z⟩ := h
  obtain ⟨te2, p2, z2⟩ := h2
  refine ⟨_, pe_bm PySem.F.plainAttrs_list PySem.F.slot_list_insert PySem.F.type_list_insert mt_insert (pe_var hN hv hd hcd) (pa_cons p (pa_cons p2 pa_nil hst2) hst) hbase hfew hline hst hplain, ?_⟩
  intro G F H ρ σ us ws Q r ρ' j hl ht hm k
  simp only [List.append_nil] at j
  unfold eIns at hm
  cases e0 : atS i ρ with
  | none => rw [e0] at hm; cases hm
  | some t0 =>
    rw [e0] at hm
    cases t0 with
    | dat d => cases hm
    | ins _ _ _ _ => cases hm
    | lst b0 xs0 =>
      simp only at hm
      obtain ⟨v, h1, h2, hi, _, _⟩ := j.slot hl e0
      obtain ⟨a, vs0, rfl, g1, g2, g3⟩ := h2
      refine ⟨.ref a, h1, ?_⟩
      refine ⟨Or.inl ⟨rfl, vs0, Or.inl (Or.inl g2)⟩, ?_⟩
      unfold bnd at hm
      cases em : ma ρ with
      | none => rw [em] at hm; cases hm
      | some q =>
        obtain ⟨r1, ρ1⟩ := q
        rw [em] at hm
        refine z G F H ρ σ us ws _ r1 ρ1 (by simpa using j) hl ht em ?_
        cases r1 with
        | exc x => cases hm; exact k
        | ok u =>
          intro y F' H' e1 l1 _ j1
          simp only at hm
          cases u with
          | lst _ _ => cases hm
          | ins _ _ _ _ => cases hm
          | dat du =>
            cases du with
            | int q =>
              simp only at hm
              cases em2 : mb ρ1 with
              | none => rw [em2] at hm; cases hm
              | some q2 =>
                obtain ⟨r2, ρ2⟩ := q2
                rw [em2] at hm
                refine z2 G F' H' ρ1 σ (us ++ [some (.dat (.int q))]) (ws ++ [some y]) _ r2 ρ2 (by simpa using j1) l1 (by simp [ht]) em2 ?_
                cases r2 with
                | exc x =>
                  cases hm
                  exact fun c d F4 H4 ee ll jj rr => k c d F4 H4 (e1.trans ee) ll (app_pre jj ll ht) rr
                | ok w =>
                  intro y2 F2 H2 e3 l2 _ j2
                  simp only at hm
                  cases eb : w.brw with
                  | true => rw [eb] at hm; simp only at hm; cases hm
                  | false =>
                    rw [eb] at hm
                    have ht2 : (us ++ [some (T.dat (.int q))]).length = (ws ++ [some y]).length := by simp [ht]
                    obtain ⟨F3, x3, j3, rd2⟩ := j2.fzLast l2 ht2 eb
                    have j4 := app_pre j3 l2 ht2
                    obtain ⟨F4, x4, j5, rd⟩ := j4.fzLast l2 ht (by rfl)
                    have hy := ri rd
                    subst hy
                    have j6 := app_pre j5 l2 ht
                    cases e4 : atS i ρ2 with
                    | none => rw [e4] at hm; cases hm
                    | some t1 =>
                      rw [e4] at hm
                      cases t1 with
                      | dat d => cases hm
                      | ins _ _ _ _ => cases hm
                      | lst b xs =>
                        simp only at hm
                        by_cases hz : 0 ≤ q ∧ q ≤ 100000 ∧ xs.length < 100000
                        · rw [if_pos hz] at hm
                          cases hm
                          obtain ⟨v', m1, m2, m3, m4, m5⟩ := j6.slot l2 e4
                          rw [h1] at m1; cases m1
                          obtain ⟨a', vs, q1, q2, q3, q4⟩ := m2
                          cases q1
                          have rd3 := Rep.mono x4 _ _ rd2
                          refine ⟨a, vs, q, y2, rfl, rfl, q3, by rw [q4.len]; exact Nat.lt_of_lt_of_le hz.2.2 (big_line (Nat.le_refl _)), hz.1, by omega, ?_⟩
                          have j7 := j6.mut (t' := .lst b (xs.take q.toNat ++ [w.fz] ++ xs.drop q.toNat)) (o := .lst (vs.take q.toNat ++ [y2] ++ vs.drop q.toNat)) m4 rfl rfl rfl m5 ⟨a, _, rfl, q2, upd_same, ((q4.take _).app (reps_cons rd3 reps_nil)).app (q4.drop _)⟩
                          rw [List.set_append_left _ _ m3] at j7
                          refine k .non F4 _ (((e1.trans e3).trans x3).trans x4) (by simpa using l2) trivial ?_
                          rw [← List.append_assoc, ← List.append_assoc]
                          exact j7.dat rep_non
                        · rw [if_neg hz] at hm; cases hm
            | _ => cases hm
end
end SL

set_option Elab.async false
set_option linter.all false
set_option maxRecDepth 100000
set_option maxHeartbeats 4000000
/-! S-layer 52: a def that calls itself and has its first argument lent -/
namespace SL
open PySem L2 PyProof.Rows
section
variable {P : Program} {w : World} {K : PySem.W.Frag} {mg : Str → Option Value} {base : Heap} {k n : Nat} {fa : Addr} {fd : FuncData} {ps : List Str}
theorem fnOk_noB : FnOk P w K mg base (L2.CX P w) k fa fd ps (spB K n (fun _ _ => none)) :=
  ⟨fun vs H Q E h => (by obtain ⟨_, _, _, _, _, _, _, _, _, _, _, _, _, _, h, _⟩ := h; cases h), fun A outer s H args us vs Q E hr he hb hv h => (by obtain ⟨_, _, _, _, _, _, _, _, _, _, _, _, _, _, h, _⟩ := h; cases h)⟩
end
end SL

set_option Elab.async false
set_option linter.all false
set_option maxRecDepth 100000
set_option maxHeartbeats 4000000
/-! S-layer 53: isinstance(x, (A, B)), A and B built-in types -/
namespace SL
open PySem PySem.Spec L2 PyProof.Rows
section
variable {X : Cx} {W : WX} {a : Expr} {ma : Mo T} {pos : Pos}
def is2F (cs : List Str) (A B : String) (d : D) : Option Out := match d with
  | .obj C _ _ => if cs.contains C = true then some (.dt (.bl false)) else none
  | d => (tyN d).map fun n => .dt (.bl (isB n A || isB n B))
theorem se_is2 {cs : List Str} {A B : String} {sA sB : Str} {p p2 p3 p4 : Pos} {kt} (hcs : ∀ C ∈ cs, IsC X.K C) (ha : SE X W a ma) (hm : X.mg "isinstance" = none) (hb : X.mg sA = none) (hb2 : X.mg sB = none) (oA : bootBuiltins sA = some (.type A)) (oB : bootBuiltins sB = some (.type B))
    (mA : A ∈ tyNs := by decide) (mB : B ∈ tyNs := by decide) (nA : sA ≠ "__name__" := by decide) (nB : sB ≠ "__name__" := by decide) (dA : (sA == ("__debug__" : Str)) = false := by decide) (dB : (sB == ("__debug__" : Str)) = false := by decide)
    (hg : Gl X "isinstance" := by rfl) (hg2 : Gl X sA := by rfl) (hg3 : Gl X sB := by rfl)
    (he : starEach [a, .Tuple [.Name sA p2, .Name sB p3] kt p4] X.env = (false, eval a X.env) :: starEach [.Tuple [.Name sA p2, .Name sB p3] kt p4] X.env := by rfl)
    (he2 : starEach [.Tuple [.Name sA p2, .Name sB p3] kt p4] X.env = (false, eval (.Tuple [.Name sA p2, .Name sB p3] kt p4) X.env) :: starEach [] X.env := by rfl)
    (he3 : starEach [.Name sA p2, .Name sB p3] X.env = (false, eval (.Name sA p2) X.env) :: starEach [.Name sB p3] X.env := by rfl) (he4 : starEach [.Name sB p3] X.env = (false, eval (.Name sB p3) X.env) :: starEach [] X.env := by rfl)
    (hpl : (backTo pos (starEach [.Tuple [.Name sA p2, .Name sB p3] kt p4] X.env)).any (·.1) = false := by rfl) : SE X W (.Call (.Name "isinstance" p) [a, .Tuple [.Name sA p2, .Name sB p3] kt p4] [] pos) (una (is2F cs A B) ma) := by
  obtain ⟨te, q1, z1⟩ := ha
  refine ⟨_, pe_callB call_isiT hg hm PyProof.Rows.boot_isinstance (pa_cons q1 (pa_cons (pe_tup (pa_cons (pe_bltn (v := .ty A) hg2 hb oA rfl nA dA) (pa_cons (pe_bltn (v := .ty B) hg3 hb2 oB rfl nB dB) pa_nil he4) he3)) pa_nil he2) he) (by decide) (by decide) he hpl, ?_⟩
  refine SndX.bnd (t2 := fun (x : V) σ H (Q : VK) => 2 ≤ sizeLine ∧ ∀ p, H p = none → rIsiT X.K [x, .ref p] (upd H p (.tup [.ty A, .ty B])) Q) rfl z1 fun t x _ => ?_
  refine snd_out (f := one (is2F cs A B)) [t] [x] fun F H σ Q ds o ex rd hf q => ⟨by decide, fun p hp => ?_⟩
  obtain ⟨d, rfl, r1⟩ := reps1 rd
  have ex2 : Ex F (upd H p (.tup [.ty A, .ty B])) := ex.trans (Ex.new hp)
  have told : ∀ b, o = .dt (.bl b) → Q (.bl b) (upd H p (.tup [.ty A, .ty B])) := fun b hb => by
    subst hb
    exact q (.bl b) F _ Ex.rfl (Ex.new hp) ex2 (fun _ _ z => .inl z) rep_bl
  have both : Paired ClsV [V.ty A, V.ty B] [Value.type A, Value.type B] := .cons (.ty _) (.cons (.ty _) .nil)
  have hf' : is2F cs A B d = some o := hf
  unfold is2F at hf'
  have plain : ∀ n, tyN d = some n → (tyN d).map (fun n => Out.dt (.bl (isB n A || isB n B))) = some o → rIsiT X.K [x, .ref p] (upd H p (.tup [.ty A, .ty B])) Q := fun n hn hf => by
    rw [hn] at hf
    cases hf
    refine ⟨x, p, _, .type n, _, _, rfl, upd_same, both, tyX_of ex2 hn r1, ?_, told _ rfl⟩
    refine kitAny_cons (kit_ty (kit_all n (tyN_mem hn) A mA)) (fun h => kitAny_cons (kit_ty (kit_all n (tyN_mem hn) B mB)) (fun g => ?_) (fun g => ?_)) (fun h => ?_)
    · rw [h, g]; rfl
    · rw [h, g]; rfl
    · rw [h]; rfl
  cases d with
  | obj C ns fs =>
    simp only at hf'
    split at hf'
    · next h =>
      cases hf'
      have c := hcs C (by simpa using h)
      refine ⟨x, p, _, _, _, false, rfl, upd_same, both, obj_ty c ex2 r1, ?_, told _ rfl⟩
      exact kitAny_cons (c.on A mA) (fun _ => kitAny_cons (c.on B mB) (fun _ => kitAny_nil) (fun z => by cases z)) (fun z => by cases z)
    · cases hf'
  | non => exact plain _ rfl hf'
  | bl _ => exact plain _ rfl hf'
  | int _ => exact plain _ rfl hf'
  | str _ => exact plain _ rfl hf'
  | tup _ => exact plain _ rfl hf'
  | lst _ => exact plain _ rfl hf'
  | scr _ => exact plain _ rfl hf'
  | exn _ _ _ _ => cases (show (none : Option Out) = some o from hf')
  | exi _ _ _ => cases (show (none : Option Out) = some o from hf')
  | dic _ _ => exact plain _ rfl hf'
end
end SL

set_option Elab.async false
set_option linter.all false
set_option maxRecDepth 100000
set_option maxHeartbeats 4000000
/-! S-layer 54: a display of a dict whose keys and values are constants -/
namespace SL
open PySem PySem.Spec L2 PyProof.Rows
section
variable {X : Cx} {W : WX} {pos : Pos}
def eDicC (ks : List L2.Key) (ds : List D) : Mo T := fun ρ => some (.ok (.dat (.dic ks ds)), ρ)
theorem se_dicC {keys : List (Option Expr)} {values : List Expr} {trs : List (TE × TE)} {ks : List L2.Key} {ds : List D} {vs : List V} (hp : PPs X pos keys values trs)
    (ht : ∀ (σ : L2.St) (H : Hp) (Q : List (V × V) → Hp → Prop), Q ((ks.zip vs).map fun kv => (kV kv.1, kv.2)) H → tPairs trs σ H Q) (hr : ∀ F, Reps X.K F ds vs)
    (hall : keys.all (·.isSome) = true := by rfl) (hl : keys.length = values.length := by rfl) (h0 : keys ≠ [] := by exact List.cons_ne_nil _ _) (h15 : keys.length ≤ 15 := by (simp only [List.length_cons, List.length_nil]; decide))
    (hm : mergeK [] (ks.zip vs) = ks.zip vs := by rfl) (hz : (ks.zip vs).length ≤ 15 := by decide) (hd : ks.length = ds.length := by rfl) : SE X W (.Dict keys values pos) (eDicC ks ds) := by
  refine ⟨_, pe_disp hp hall hl h0 h15, fun G F H ρ σ us ws Q r ρ' j hlen hts hmm k => ?_⟩
  cases hmm
  intro p hpn
  refine ht σ _ _ ?_
  refine ⟨upd_same, ks.zip vs, rfl, hz, ?_⟩
  simp only [List.append_nil] at j
  have e1 : upd (upd H p (.dK [])) p (.dK (mergeK [] (ks.zip vs))) = upd H p (.dK (ks.zip vs)) := by
    rw [hm]
    funext a
    by_cases h : a = p
    · subst h; rw [upd_same, upd_same]
    · rw [upd_ne h, upd_ne h, upd_ne h]
  rw [e1]
  refine k (.ref p) (upd F p (.dK (ks.zip vs))) (upd H p (.dK (ks.zip vs))) (Ex.new (j.ex.back hpn)) hlen trivial ?_
  have j2 := (j.frz (o := .dK (ks.zip vs)) hpn).dat (d := .dic ks ds) (v := .ref p) (by unfold Rep; exact ⟨p, vs, rfl, upd_same, hd, hr _⟩)
  rw [List.append_assoc, List.append_assoc] at j2
  exact j2
end
end SL

set_option Elab.async false
set_option linter.all false
set_option maxRecDepth 100000
set_option maxHeartbeats 4000000
/-! S-layer 55: exceptions that are made and not raised, as data: C(e), C(), e.f, isinstance(e, T) -/
namespace SL
open PySem PySem.Spec L2 PyProof.Rows
section
variable {X : Cx} {W : WX} {e : Expr} {es : List Expr} {pos p : Pos}
/-- C(e, ..) as a value -/
def tMkE (C : Addr) (sp : Sp) (dvs : List V) (ta : TA) : TE := fun σ H Q => ta σ H fun vs H1 => vs.length ≤ 1000 ∧ ∀ a, H1 a = none → sp (.ref a :: (vs ++ dvs)) (upd H1 a (exo a C none)) (fun v H2 => v = .non ∧ Q (.ref a) H2) (fun _ _ _ => False)
theorem pe_mkE {CX : CXT} {x : Str} {C fI : Addr} {k : Nat} {fd : FuncData} {ps : List Str} {sp : Sp} {ta : TA} {ds : List Value} {dvs : List V} (T : OexC X.K C) (iC : PySem.W.findIn X.K (.ref C) "__init__" = some (some (.ref fI))) (tI : PySem.W.typeIn X.K (.ref fI) = some (.type "function"))
    (F1 : FnOk X.prog X.w X.K X.mg X.base CX k fI fd ps sp) (hr : Room (k + 1) X.A) (hb : Binds X.K fd ps ds) (hd : Vals dvs ds) (hx : Passes CX X (fun _ _ _ => False)) (hg : Gl X x) (hm : X.mg x = some (.ref C)) (ha : PA X (e :: es) ta)
    (hdb : (x == ("__debug__" : Str)) = false := by decide) (he : starEach (e :: es) X.env = (false, eval e X.env) :: starEach es X.env := by rfl) (hpl : (backTo pos (starEach es X.env)).any (·.1) = false := by rfl) :
    PE X (.Call (.Name x p) (e :: es) [] pos) (tMkE C sp dvs ta) := by
  refine ⟨fun pins s σ H Q I h => ?_⟩
  obtain ⟨nm, q, N, bs, bm, sn, sub, ab, col, dd, k0, k1, k2, k3, k5, hC, hbm⟩ := T.cls
  refine wpAny_Call_Name_kw (ld_glob I hg hm ?_ hdb)
  refine PySem.W.callWith_K (h₀ := X.base) I.ok.mod.kin T.kC (thn (ha.run pos pins s σ H _ I h) fun us s1 ⟨vs, H1, I1, r1, hz, q1⟩ => ⟨I1.kIn, ?_⟩) he hpl
  show wpAny _ _ (call (.ref C) us) _ _ _
  obtain ⟨hp, g, dr, tk, os⟩ := s1
  have hsz : hp.objs.size ≤ hp.objs.size + 1 := Nat.le_succ _
  have hn : H1 (hp.objs.size + 1) = none := I1.hok.fresh hsz
  have hq := q1 (hp.objs.size + 1) hn
  have kk : ∀ b o, hp.get? b = some o → ((hp.push (PySem.W.kdv_tup us)).push (PySem.HandSPX.excO C hp.objs.size)).get? b = some o := fun b o e => Heap.get?_push_of_some _ (Heap.get?_push_of_some _ e)
  have hget : ((hp.push (PySem.W.kdv_tup us)).push (PySem.HandSPX.excO C hp.objs.size)).get? (hp.objs.size + 1) = some (PySem.HandSPX.excO C hp.objs.size) := by heap_get
  have I2 : Inv X pins σ (upd H1 (hp.objs.size + 1) (exo (hp.objs.size + 1) C none)) ⟨(hp.push (PySem.W.kdv_tup us)).push (PySem.HandSPX.excO C hp.objs.size), g, dr, tk, os⟩ :=
    I1.laid (t' := tk) (a := hp.objs.size + 1) (o := exo (hp.objs.size + 1) C none) (h' := (hp.push (PySem.W.kdv_tup us)).push (PySem.HandSPX.excO C hp.objs.size)) kk hsz (exo_ok hget)
  have r2 : Vals (V.ref (hp.objs.size + 1) :: (vs ++ dvs)) (Value.ref (hp.objs.size + 1) :: (us ++ ds)) := .cons rfl (r1.append hd)
  have hl : (Value.ref (hp.objs.size + 1) :: us ++ ds).length = ps.length := by
    have e := r2.length
    rw [F1.len _ _ _ _ hq] at e
    exact e.symm
  have hus : us.length ≤ sizeLine := by
    rw [← Paired.length r1, sizeLine_eq]
    omega
  refine wpAny_call (PySem.HandSPX.call_own F.excBase_ValueError (fun Y => PySem.HandSPX.refsVE_contains Y bm hbm) (I1.kIn _ _ hC) (PySem.W.looks_findIn I1.kIn iC) (fun self => PySem.W.bind_fn I1.kIn self tI) hus
    (codeAny_mono (F1.run _ X.stack _ _ ⟨Value.ref (hp.objs.size + 1) :: us, []⟩ (Value.ref (hp.objs.size + 1) :: (us ++ ds)) _ _ (fun _ _ _ => False) (hr.make C us []) (I2.env0.make C us []) (hb _ (Value.ref (hp.objs.size + 1) :: us) I2.kIn hl) r2 hq) fun r s' hq' => ?_))
  cases r with
  | error er => exact hx pins σ _ _ er s' I2 hq'
  | ok fl =>
    cases fl with
    | ret u =>
      obtain ⟨v, H2, os2, bare2, un2, hok2, rv, ev, q2⟩ := hq'
      subst ev
      exact ⟨rv, .ref (hp.objs.size + 1), H2, I2.call' (ch := []) os2 un2 hok2 bare2 (fun b z => absurd z (by simp)), rfl, q2⟩
    | next => exact False.elim hq'
    | brk => exact False.elim hq'
    | cont => exact False.elim hq'
/-- C(), a class without an __init__ of its own -/
def tMkE0 (C : Addr) : TE := fun σ H Q => ∀ a, H a = none → Q (.ref a) (upd H a (exo a C none))
theorem pe_mkE0 {C : Addr} {bmB : List Value} {B newId initId : String} {x : Str} (F : ExcBaseFacts B newId initId bmB) (q : PySem.W.excIn X.K C bmB newId = true) (gC : X.mg x = some (.ref C)) (kC : PySem.W.keepIn X.K (.ref C) = true) (hg : Gl X x)
    (hdb : (x == ("__debug__" : Str)) = false := by decide) : PE X (.Call (.Name x p) [] [] pos) (tMkE0 C) := by
  refine ⟨fun pins s σ H Q I h => ?_⟩
  refine wpAny_Call_Name_kw (ld_glob I hg gC ?_ hdb)
  refine PySem.W.callWith_K0 I.kIn kC ?_
  show wpAny _ _ (call (.ref C) []) _ _ _
  obtain ⟨bm, N, nm, qn, bs, hdct, sn, sub, ab, col, dd, k0, k1, k2, k3, k5, mN, hC, hN, hni, T⟩ := exc_obj I.kIn q
  refine wpAny_call_exc_subT F T hC hN hni (fun h' a hm => ?_) (Nat.zero_le _)
  obtain ⟨t, he, _, _⟩ := hm.there
  have hn := I.hok.gone hm.new
  exact ⟨.ref a, _, I.laidN (t' := s.toks) hm.keeps hm.new hn (exo_ok he), rfl, h a hn⟩
/-- e.f -/
def tXfI (K : PySem.W.Frag) (n : Str) (te : TE) : TE := fun σ H Q => te σ H fun x H1 => ∃ (a C d : Addr) (fs : List (Str × V)) (v : V), x = .ref a ∧ XfC K C ∧ PySem.W.findIn K (.ref C) n = some none ∧ H1 a = some (exo a C (some d)) ∧ H1 d = some (exd d fs) ∧ fs.lookup n = some v ∧ Q v H1
theorem pe_xfI {te : TE} {n : Str} (he : PE X e te) (hb : attributeBase e n X.env (eval e X.env) = eval e X.env := by rfl) : PE X (.Attribute e n pos) (tXfI X.K n te) := by
  refine ⟨fun pins s σ H Q I h => ?_⟩
  refine attr_of hb (thn (he.run pins s σ H _ I h) fun u s1 hh => ?_)
  obtain ⟨x, H1, I1, rx, a, C, dd, fs, v, ex, T, hno, e1, e2, l, q⟩ := hh
  subst ex
  obtain rfl : u = Value.ref a := rx
  obtain ⟨t1, ha⟩ := exo_at I1.hok e1
  obtain ⟨mA, hns, hr⟩ := exd_at I1.hok e2
  obtain ⟨od, ho, hl⟩ := lookIn_ns hns
  obtain ⟨u, hu, ru⟩ := RelO.some_of (v := v) (o := mA n) (by rw [← l]; exact hr n)
  have J : PySem.W.InstAt s1.heap a { cls := .ref C, dict := some dd, data := .fields #[.ref t1, .none, .none, .none, .bool false, .none] } C (some od) := ⟨ha, rfl, rfl, ho⟩
  exact HandSPX.exc_get I1.kIn J T.ga T.gg T.exC (PySem.W.findObj_own T.hdC hno rfl (by rw [hl, hu])) (handed_of ru) ⟨v, H1, I1.tok _, ru, q⟩
/-- isinstance(e, T) -/
def rIsI (K : PySem.W.Frag) : List V → Hp → VK → Prop := fun xs H Q => ∃ (a C : Addr) (dx : Option Addr) (c : V) (cv : Value) (b : Bool), xs = [.ref a, c] ∧ (∀ u, RelV c u → u = cv) ∧ ExcC K C ∧ (PySem.W.clsIn K C).isSome = true ∧ PySem.W.kitOne K (.ref C) cv = some b ∧
  H a = some (exo a C dx) ∧ (dx = none ∨ ∃ d fs, dx = some d ∧ H d = some (exd d fs)) ∧ Q (.bl b) H
theorem call_isI : CallR X (.builtin "isinstance") (rIsI X.K) := by
  intro pins s σ H xs us Q I r h
  obtain ⟨a, D, dx, c, cv, b, rfl, hcv, C, hc, e, ea, ed, q⟩ := h
  cases r with
  | cons rx rr =>
    cases rr with
    | cons rt rr =>
      cases rr
      cases rx
      have ec := hcv _ rt
      subst ec
      obtain ⟨t1, ha⟩ := exo_at I.hok ea
      have fin : ∀ od, PySem.W.InstAt s.heap a { cls := .ref D, dict := dx, data := .fields #[.ref t1, .none, .none, .none, .bool false, .none] } D od → wpAny (model X.prog X.w) X.A (call (.builtin "isinstance") [.ref a, _]) (EP X pins σ Q) X.xe s := fun od J =>
        PySem.W.kia_one (PySem.W.kitx_exc hc C.hg C.hk C.hs C.ha C.hn C.ht C.hm) I.kIn J e (fun z => nomatch z) fun tk => ⟨.bl b, H, I.kept (t' := tk) fun _ _ z => z, rfl, q⟩
      rcases ed with rfl | ⟨d, fs, rfl, ed⟩
      · exact fin none ⟨ha, rfl, rfl, trivial⟩
      · obtain ⟨mA, hns, hr⟩ := exd_at I.hok ed
        obtain ⟨od, ho, hl⟩ := lookIn_ns hns
        exact fin (some od) ⟨ha, rfl, rfl, ho⟩
end
/-! as data -/
def mkEF (C f : Str) (ok : D → Bool) : List D → Option Out
  | [d] => if ok d = true then some (.dt (.exi C [f] [d])) else none
  | _ => none
def eMkE (C f : Str) (ok : D → Bool) (n : Mo (List T)) : Mo T := bnd n fun ts => opM (mkEF C f ok) ts
def eMkE0 (C : Str) : Mo T := opM (fun _ => some (.dt (.exi C [] []))) []
def xfIF (all : List Str) (f : Str) (d : D) : Option Out := match d with
  | .exi C ns fs => if all.contains C = true then (idxOf f ns fs).map .dt else none
  | _ => none
def isIF (yes all : List Str) (d : D) : Option Out := match d with
  | .exi C _ _ => if all.contains C = true then some (.dt (.bl (yes.contains C))) else none
  | _ => none
/-- what is asked of the classes -/
def XfAll (K : PySem.W.Frag) (all : List Str) (f : Str) : Prop := ∀ C ∈ all, XfC K (He.ga K C) ∧ PySem.W.findIn K (.ref (He.ga K C)) f = some none
def ExcCs (K : PySem.W.Frag) (all : List Str) : Prop := ∀ C ∈ all, (PySem.W.clsIn K (He.ga K C)).isSome = true ∧ ExcC K (He.ga K C)
def IsIs (K : PySem.W.Frag) (cv : Value) (yes all : List Str) : Prop := ∀ C ∈ all, PySem.W.kitOne K (.ref (He.ga K C)) cv = some (yes.contains C)
def pXfs (all : List Str) (f : Str) : Ft := fun K => all.all fun C => pXf C f K
def pExcCs (all : List Str) : Ft := fun K => all.all fun C => pExcC C K
def pIsI (C2 : Str) (yes all : List Str) : Ft := fun K => all.all fun C => eqB (PySem.W.kitOne K (.ref (He.ga K C)) (.ref (He.ga K C2))) (some (yes.contains C))
def pIsIT (t : String) (yes all : List Str) : Ft := fun K => all.all fun C => eqB (PySem.W.kitOne K (.ref (He.ga K C)) (.type t)) (some (yes.contains C))
def pMkE0 (C : Str) : Ft := fun K => PySem.W.excIn K (He.ga K C) [.type "ValueError", .type "Exception", .type "BaseException", .type "object"] "ValueError.__new__" && PySem.W.keepIn K (.ref (He.ga K C))
theorem xfs_of {K : PySem.W.Frag} {all : List Str} {f : Str} (h : pXfs all f K = true) : XfAll K all f := fun C hC => xf_of (List.all_eq_true.mp h C hC)
theorem excCs_of {K : PySem.W.Frag} {all : List Str} (h : pExcCs all K = true) : ExcCs K all := fun C hC => excC_of (List.all_eq_true.mp h C hC)
theorem isI_of {K : PySem.W.Frag} {C2 : Str} {yes all : List Str} (h : pIsI C2 yes all K = true) : IsIs K (.ref (He.ga K C2)) yes all := fun C hC => eqB_ok (List.all_eq_true.mp h C hC)
theorem isIT_of {K : PySem.W.Frag} {t : String} {yes all : List Str} (h : pIsIT t yes all K = true) : IsIs K (.type t) yes all := fun C hC => eqB_ok (List.all_eq_true.mp h C hC)
structure MkE0 (K : PySem.W.Frag) (mg : Str → Option Value) (C : Str) : Prop where
  q : PySem.W.excIn K (He.ga K C) [.type "ValueError", .type "Exception", .type "BaseException", .type "object"] "ValueError.__new__" = true
  kp : PySem.W.keepIn K (.ref (He.ga K C)) = true
  gl : mg C = some (.ref (He.ga K C))
theorem mkE0_of {K : PySem.W.Frag} {mg : Str → Option Value} {C : Str} (h : pMkE0 C K = true) (g : mg C = some (.ref (He.ga K C))) : MkE0 K mg C := ⟨(He.ba h).1, (He.ba h).2, g⟩
theorem mk_heap2 {H : Hp} {a dx : Addr} {o1 o2 o3 : HO} (ne : dx ≠ a) : upd (upd (upd H a o1) dx o2) a o3 = upd (upd H dx o2) a o3 := by
  funext b
  by_cases h : b = a
  · subst h; rw [upd_same, upd_same]
  · rw [upd_ne h, upd_ne h]
    by_cases h2 : b = dx
    · subst h2; rw [upd_same, upd_same]
    · rw [upd_ne h2, upd_ne h2, upd_ne h]
theorem Ex.both {F H : Hp} {p : Addr} {o : HO} (e : Ex F H) : Ex (upd F p o) (upd H p o) := fun a u h => by
  by_cases z : a = p
  · subst z; rw [upd_same] at h ⊢; exact h
  · rw [upd_ne z] at h ⊢; exact e a u h
section
variable {X : Cx} {W : WX} {e : Expr} {es : List Expr} {pos p p2 : Pos} {n : Mo (List T)} {m : Mo T} {C f : Str} {ok : D → Bool} {k : Nat}
theorem se_mkE (h : ExcOk X.prog X.w X.K X.mg X.base k C f ok) (hr : Room (k + 1) X.A) (g : SA X W (e :: es) n) (hg : Gl X C := by rfl)
    (hdb : (C == ("__debug__" : Str)) = false := by decide) (he : starEach (e :: es) X.env = (false, eval e X.env) :: starEach es X.env := by rfl) (hpl : (backTo pos (starEach es X.env)).any (·.1) = false := by rfl) :
    SE X W (.Call (.Name C p) (e :: es) [] pos) (eMkE C f ok n) := by
  obtain ⟨D0, fI, fd, ps, okv, F1, hb, TS, hno, iC, tI, hm, hok⟩ := h.ex
  obtain ⟨ta, q, z⟩ := g
  refine ⟨_, pe_mkE TS.ox iC tI F1 hr hb .nil passL hg hm q hdb he hpl, SndX.bnd (t2 := fun (vs : List V) σ H (Q : VK) => vs.length ≤ 1000 ∧ ∀ a, H a = none → spX X.prog X.K D0 f okv (.ref a :: (vs ++ [])) (upd H a (exo a (He.ga X.K C) none)) (fun v H2 => v = .non ∧ Q (.ref a) H2) (fun _ _ _ => False)) rfl z fun us xs _ => ?_⟩
  refine snd_out (f := mkEF C f ok) us xs fun F H σ Q ds o ex rd hf q => ?_
  unfold mkEF at hf
  split at hf
  · next d =>
    obtain ⟨v, rv⟩ : ∃ v, xs = [v] ∧ Rep X.K F d v := by
      unfold Reps at rd
      obtain ⟨v, r, rfl, h1, h2⟩ := rd
      unfold Reps at h2
      subst h2
      exact ⟨v, rfl, h1⟩
    obtain ⟨rfl, rv⟩ := rv
    by_cases ho : ok d = true
    · rw [if_pos ho] at hf
      cases hf
      refine ⟨by simp, fun a ha => ⟨a, He.ga X.K C, v, rfl, hok F _ d v rv (ex.trans (Ex.new ha)) ho, upd_same, TS, hno, fun dx hdx hne => ⟨rfl, ?_⟩⟩⟩
      rw [upd_ne hne] at hdx
      rw [mk_heap2 hne]
      have fdx := ex.back hdx
      have fa := ex.back ha
      have ha2 : upd H dx (exd dx [(f, v)]) a = none := by rw [upd_ne (Ne.symm hne)]; exact ha
      have fa2 : upd F dx (exd dx [(f, v)]) a = none := by rw [upd_ne (Ne.symm hne)]; exact fa
      have eF : Ex F (upd (upd F dx (exd dx [(f, v)])) a (exo a (He.ga X.K C) (some dx))) := (Ex.new fdx).trans (Ex.new fa2)
      refine q (.ref a) _ _ eF ((Ex.new hdx).trans (Ex.new ha2)) ex.both.both (fun b u hb => ?_) ?_
      · by_cases h1 : b = a
        · subst h1; exact .inr ha
        · rw [upd_ne h1] at hb
          by_cases h2 : b = dx
          · subst h2; exact .inr hdx
          · rw [upd_ne h2] at hb; exact .inl hb
      · unfold Rep
        exact ⟨a, some dx, [v], rfl, upd_same, .inr ⟨dx, rfl, by rw [upd_ne hne, upd_same]; rfl⟩, rfl, Reps.mono eF _ _ (reps_cons rv reps_nil)⟩
    · rw [if_neg ho] at hf; cases hf
  · cases hf
theorem se_mkE0 (h : MkE0 X.K X.mg C) (hg : Gl X C := by rfl) (hdb : (C == ("__debug__" : Str)) = false := by decide) : SE X W (.Call (.Name C p) [] [] pos) (eMkE0 C) := by
  refine ⟨_, pe_mkE0 F.excBase_ValueError h.q h.gl h.kp hg hdb, ?_⟩
  refine snd_out (f := fun _ => some (.dt (.exi C [] []))) [] [] fun F H σ Q ds o ex rd hf q => ?_
  cases hf
  intro a ha
  refine q (.ref a) (upd F a (exo a (He.ga X.K C) none)) _ (Ex.new (ex.back ha)) (Ex.new ha) ex.both (fun b u hb => ?_) ?_
  · by_cases h1 : b = a
    · subst h1; exact .inr ha
    · rw [upd_ne h1] at hb; exact .inl hb
  · unfold Rep
    exact ⟨a, none, [], rfl, upd_same, .inl ⟨rfl, rfl⟩, rfl, reps_nil⟩
theorem se_xfI {all : List Str} (T : XfAll X.K all f) (he : SE X W e m) (hb : attributeBase e f X.env (eval e X.env) = eval e X.env := by rfl) : SE X W (.Attribute e f pos) (una (xfIF all f) m) := by
  obtain ⟨te, p1, z⟩ := he
  refine ⟨_, pe_xfI p1 hb, SndX.bnd (t2 := fun x σ H (Q : VK) => ∃ (a C d : Addr) (fs : List (Str × V)) (v : V), x = .ref a ∧ XfC X.K C ∧ PySem.W.findIn X.K (.ref C) f = some none ∧ H a = some (exo a C (some d)) ∧ H d = some (exd d fs) ∧ fs.lookup f = some v ∧ Q v H) rfl z fun t x _ => ?_⟩
  refine snd_out (f := one (xfIF all f)) [t] [x] fun F H σ Q ds o ex rd hf q => ?_
  obtain ⟨d, rfl, r1⟩ := reps1 rd
  have hf' : xfIF all f d = some o := hf
  unfold xfIF at hf'
  split at hf'
  · next C ns fs =>
    by_cases hc : all.contains C = true
    · rw [if_pos hc] at hf'
      cases hi : idxOf f ns fs with
      | none => rw [hi] at hf'; cases hf'
      | some y =>
        rw [hi] at hf'
        cases hf'
        unfold Rep at r1
        obtain ⟨a, dx, vs, rfl, h1, h2, h3, h4⟩ := r1
        obtain ⟨v, hv, rv⟩ := idx_rep hi h4
        obtain ⟨t1, t2⟩ := T C (by simpa using hc)
        rcases h2 with ⟨rfl, rfl⟩ | ⟨d, rfl, h2⟩
        · cases hv
        · exact ⟨a, He.ga X.K C, d, _, v, rfl, t1, t2, ex _ _ h1, ex _ _ h2, hv, q.val ex rv⟩
    · rw [if_neg hc] at hf'; cases hf'
  · cases hf'
theorem snd_isI {yes all : List Str} {cv : Value} {c : V} (t : T) (x : V) (A : ExcCs X.K all) (Y : IsIs X.K cv yes all) (hcv : ∀ u, RelV c u → u = cv) : SndX X.K W [some t] [some x] plT pmT (fun _ _ => True) (fun σ H (Q : VK) => rIsI X.K [x, c] H Q) (opM (one (isIF yes all)) [t]) := by
  refine snd_out (f := one (isIF yes all)) [t] [x] fun F H σ Q ds o ex rd hf q => ?_
  obtain ⟨d, rfl, r1⟩ := reps1 rd
  have hf' : isIF yes all d = some o := hf
  unfold isIF at hf'
  split at hf'
  · next C ns fs =>
    by_cases hc : all.contains C = true
    · rw [if_pos hc] at hf'
      cases hf'
      have hC : C ∈ all := by simpa using hc
      unfold Rep at r1
      obtain ⟨a, dx, vs, rfl, h1, h2, h3, h4⟩ := r1
      refine ⟨a, He.ga X.K C, dx, c, cv, yes.contains C, rfl, hcv, (A C hC).2, (A C hC).1, Y C hC, ex _ _ h1, ?_, q.bl ex⟩
      rcases h2 with ⟨rfl, rfl⟩ | ⟨d, rfl, h2⟩
      · exact .inl rfl
      · exact .inr ⟨d, _, rfl, ex _ _ h2⟩
    · rw [if_neg hc] at hf'; cases hf'
  · cases hf'
theorem se_isI {yes all : List Str} {C2 : Str} (A : ExcCs X.K all) (Y : IsIs X.K (.ref (He.ga X.K C2)) yes all) (ha : SE X W e m) (hm : X.mg "isinstance" = none) (hC : X.mg C2 = some (.ref (He.ga X.K C2))) (hg : Gl X "isinstance" := by rfl) (hg2 : Gl X C2 := by rfl)
    (hd : (C2 == ("__debug__" : Str)) = false := by decide) (he : starEach [e, .Name C2 p2] X.env = (false, eval e X.env) :: starEach [.Name C2 p2] X.env := by rfl) (he2 : starEach [.Name C2 p2] X.env = (false, eval (.Name C2 p2) X.env) :: starEach [] X.env := by rfl)
    (hpl : (backTo pos (starEach [.Name C2 p2] X.env)).any (·.1) = false := by rfl) : SE X W (.Call (.Name "isinstance" p) [e, .Name C2 p2] [] pos) (una (isIF yes all) m) := by
  obtain ⟨te, q1, z1⟩ := ha
  refine ⟨_, pe_callB call_isI hg hm PyProof.Rows.boot_isinstance (pa_cons q1 (pa_cons (pe_glob (v := .ref (He.ga X.K C2)) hg2 hC rfl hd) pa_nil he2) he) (by decide) (by decide) he hpl, ?_⟩
  exact SndX.bnd (t2 := fun x σ H Q => rIsI X.K [x, .ref (He.ga X.K C2)] H Q) rfl z1 fun t x _ => snd_isI t x A Y fun u r => r
theorem se_isIT {yes all : List Str} {b : Str} {bn : String} (A : ExcCs X.K all) (Y : IsIs X.K (.type bn) yes all) (ha : SE X W e m) (hm : X.mg "isinstance" = none) (hb : X.mg b = none) (hv : bootBuiltins b = some (.type bn)) (hg : Gl X "isinstance" := by rfl) (hg2 : Gl X b := by rfl)
    (hn : b ≠ "__name__" := by decide) (hd : (b == ("__debug__" : Str)) = false := by decide) (he : starEach [e, .Name b p2] X.env = (false, eval e X.env) :: starEach [.Name b p2] X.env := by rfl) (he2 : starEach [.Name b p2] X.env = (false, eval (.Name b p2) X.env) :: starEach [] X.env := by rfl)
    (hpl : (backTo pos (starEach [.Name b p2] X.env)).any (·.1) = false := by rfl) : SE X W (.Call (.Name "isinstance" p) [e, .Name b p2] [] pos) (una (isIF yes all) m) := by
  obtain ⟨te, q1, z1⟩ := ha
  refine ⟨_, pe_callB call_isI hg hm PyProof.Rows.boot_isinstance (pa_cons q1 (pa_cons (pe_bltn (v := .ty bn) hg2 hb hv rfl hn hd) pa_nil he2) he) (by decide) (by decide) he hpl, ?_⟩
  exact SndX.bnd (t2 := fun x σ H Q => rIsI X.K [x, .ty bn] H Q) rfl z1 fun t x _ => snd_isI t x A Y fun u r => r
end
end SL

set_option Elab.async false
set_option linter.all false
set_option maxRecDepth 100000
set_option maxHeartbeats 0
namespace NF
open PySem PySem.Spec L2 SL
noncomputable section
def cs0 : List Str := []
def xall : List Str := "AtOdds" :: "BadBound" :: "BadClaim" :: "BadCount" :: "BadCounts" :: "BadCourse" :: "BadCourses" :: "BadDeed" :: "BadFact" :: "BadInlet" :: "BadLine" :: "BadMaker" :: "BadMakers" :: "BadName" :: "BadPace" :: "BadPaces" :: "BadPlan" :: "BadRow" :: "BadSaying" :: "BadSight" :: "BadTable" :: "BadTables" :: "BadTerm" :: "BadText" :: "Impossible" :: "Lacking" :: "Missing" :: "NoClaim" :: "NoHole" :: "NoPace" :: "NoWay" :: "NoWeb" :: "NotShift" :: "NotWhole" :: "NothingDone" :: "Open" :: "Ringed" :: "TooMany" :: "Twice" :: "Unreadable" :: "Unseen" :: []
def xy_AtOdds : List Str := "AtOdds" :: []
def xy_BadBound : List Str := "BadBound" :: []
def xy_BadClaim : List Str := "BadClaim" :: []
def xy_BadCount : List Str := "BadCount" :: []
def xy_BadCounts : List Str := "BadCounts" :: []
def xy_BadCourse : List Str := "BadCourse" :: []
def xy_BadCourses : List Str := "BadCourses" :: []
def xy_BadDeed : List Str := "BadDeed" :: []
def xy_BadFact : List Str := "BadFact" :: []
def xy_BadInlet : List Str := "BadInlet" :: []
def xy_BadLine : List Str := "BadLine" :: []
def xy_BadMaker : List Str := "BadMaker" :: []
def xy_BadMakers : List Str := "BadMakers" :: []
def xy_BadName : List Str := "BadName" :: []
def xy_BadPace : List Str := "BadPace" :: []
def xy_BadPaces : List Str := "BadPaces" :: []
def xy_BadPlan : List Str := "BadPlan" :: []
def xy_BadRow : List Str := "BadRow" :: []
def xy_BadSaying : List Str := "BadSaying" :: []
def xy_BadSight : List Str := "BadSight" :: []
def xy_BadTable : List Str := "BadTable" :: []
def xy_BadTables : List Str := "BadTables" :: []
def xy_BadTerm : List Str := "BadTerm" :: []
def xy_BadText : List Str := "BadText" :: []
def xy_Impossible : List Str := "AtOdds" :: "Impossible" :: "NoHole" :: "NoPace" :: "NoWay" :: "NotShift" :: "NotWhole" :: "NothingDone" :: "Ringed" :: "Unseen" :: []
def xy_Lacking : List Str := "Lacking" :: []
def xy_Missing : List Str := "Missing" :: []
def xy_NeedforthError : List Str := "AtOdds" :: "BadBound" :: "BadClaim" :: "BadCount" :: "BadCounts" :: "BadCourse" :: "BadCourses" :: "BadDeed" :: "BadFact" :: "BadInlet" :: "BadLine" :: "BadMaker" :: "BadMakers" :: "BadName" :: "BadPace" :: "BadPaces" :: "BadPlan" :: "BadRow" :: "BadSaying" :: "BadSight" :: "BadTable" :: "BadTables" :: "BadTerm" :: "BadText" :: "Impossible" :: "Lacking" :: "Missing" :: "NoClaim" :: "NoHole" :: "NoPace" :: "NoWay" :: "NoWeb" :: "NotShift" :: "NotWhole" :: "NothingDone" :: "Open" :: "Ringed" :: "TooMany" :: "Twice" :: "Unreadable" :: "Unseen" :: []
def xy_NoClaim : List Str := "NoClaim" :: []
def xy_NoHole : List Str := "NoHole" :: []
def xy_NoPace : List Str := "NoPace" :: []
def xy_NoWay : List Str := "NoWay" :: []
def xy_NoWeb : List Str := "NoWeb" :: []
def xy_NotShift : List Str := "NotShift" :: []
def xy_NotWhole : List Str := "NotWhole" :: []
def xy_NothingDone : List Str := "NothingDone" :: []
def xy_Open : List Str := "Open" :: []
def xy_Ringed : List Str := "Ringed" :: []
def xy_TooMany : List Str := "TooMany" :: []
def xy_Twice : List Str := "Twice" :: []
def xy_Unreadable : List Str := "BadLine" :: "BadText" :: "Unreadable" :: []
def xy_Unseen : List Str := "Unseen" :: []
def xy_ValueError : List Str := "AtOdds" :: "BadBound" :: "BadClaim" :: "BadCount" :: "BadCounts" :: "BadCourse" :: "BadCourses" :: "BadDeed" :: "BadFact" :: "BadInlet" :: "BadLine" :: "BadMaker" :: "BadMakers" :: "BadName" :: "BadPace" :: "BadPaces" :: "BadPlan" :: "BadRow" :: "BadSaying" :: "BadSight" :: "BadTable" :: "BadTables" :: "BadTerm" :: "BadText" :: "Impossible" :: "Lacking" :: "Missing" :: "NoClaim" :: "NoHole" :: "NoPace" :: "NoWay" :: "NoWeb" :: "NotShift" :: "NotWhole" :: "NothingDone" :: "Open" :: "Ringed" :: "TooMany" :: "Twice" :: "Unreadable" :: "Unseen" :: []
def xf_line : List Str := "BadLine" :: []
def xf_name : List Str := "Missing" :: "Open" :: "Twice" :: []
def xf_number : List Str := "BadCounts" :: "BadCourses" :: "BadDeed" :: "BadFact" :: "BadMakers" :: "BadName" :: "BadPaces" :: "BadPlan" :: "BadRow" :: "BadSight" :: "BadTables" :: "NoClaim" :: "Unseen" :: []
def xf_place : List Str := "BadText" :: []
def xf_row : List Str := "NotShift" :: "NotWhole" :: "Ringed" :: []
def xf_stage : List Str := "NoPace" :: []
def xf_thing : List Str := "AtOdds" :: "BadClaim" :: "BadCount" :: "BadCourse" :: "BadInlet" :: "BadSaying" :: "BadTerm" :: "Lacking" :: "NoWay" :: []
def xf_word : List Str := "BadBound" :: "BadMaker" :: "BadTable" :: "TooMany" :: []
def b__law_borne : So :=
  sSeq (sIf (tst (bin inF (eVar 0) (eTup (aCons (eC (.int 0)) (ret []))))) (sRet (una (xfIF xf_place "place") (eVar 1))) (sNext))
  (sSeq (sIf (tst (bin inF (eVar 0) (eTup (aCons (eC (.int 1)) (ret []))))) (sRet (una (xfIF xf_line "line") (eVar 1))) (sNext))
  (sSeq (sIf (tst (bin inF (eVar 0) (eTup (aCons (eC (.int 2)) (aCons (eC (.int 5)) (aCons (eC (.int 12)) (aCons (eC (.int 13)) (aCons (eC (.int 14)) (aCons (eC (.int 15)) (aCons (eC (.int 16)) (aCons (eC (.int 17)) (aCons (eC (.int 18)) (ret []))))))))))))) (sRet (una (xfIF xf_thing "thing") (eVar 1))) (sNext))
  (sSeq (sIf (tst (bin inF (eVar 0) (eTup (aCons (eC (.int 3)) (ret []))))) (sRet (una (xfIF xf_stage "stage") (eVar 1))) (sNext))
  (sSeq (sIf (tst (bin inF (eVar 0) (eTup (aCons (eC (.int 6)) (aCons (eC (.int 7)) (aCons (eC (.int 8)) (ret []))))))) (sRet (una (xfIF xf_row "row") (eVar 1))) (sNext))
  (sSeq (sIf (tst (bin inF (eVar 0) (eTup (aCons (eC (.int 9)) (aCons (eC (.int 22)) (aCons (eC (.int 23)) (aCons (eC (.int 24)) (aCons (eC (.int 25)) (aCons (eC (.int 26)) (aCons (eC (.int 27)) (aCons (eC (.int 28)) (aCons (eC (.int 29)) (aCons (eC (.int 30)) (aCons (eC (.int 31)) (aCons (eC (.int 32)) (aCons (eC (.int 33)) (ret []))))))))))))))))) (sRet (una (xfIF xf_number "number") (eVar 1))) (sNext))
  (sSeq (sIf (tst (bin inF (eVar 0) (eTup (aCons (eC (.int 11)) (aCons (eC (.int 19)) (aCons (eC (.int 20)) (aCons (eC (.int 21)) (ret [])))))))) (sRet (una (xfIF xf_word "word") (eVar 1))) (sNext))
  (sSeq (sIf (tst (bin inF (eVar 0) (eTup (aCons (eC (.int 34)) (aCons (eC (.int 35)) (aCons (eC (.int 36)) (ret []))))))) (sRet (una (xfIF xf_name "name") (eVar 1))) (sNext))
  (sRet (eC .non)))))))))
def f__law_borne : FnD := bodyD 0 b__law_borne
def b__law_kinds : So :=
  sSeq (sAsg 1 (eLst (aCons (una (isIF xy_BadText xall) (eVar 0)) (aCons (una (isIF xy_BadLine xall) (eVar 0)) (aCons (una (isIF xy_AtOdds xall) (eVar 0)) (ret []))))))
  (sSeq (sAsg 1 (bin addF (eVar 1) (eLst (aCons (una (isIF xy_NoPace xall) (eVar 0)) (aCons (una (isIF xy_NoHole xall) (eVar 0)) (aCons (una (isIF xy_NoWay xall) (eVar 0)) (ret [])))))))
  (sSeq (sAsg 1 (bin addF (eVar 1) (eLst (aCons (una (isIF xy_NotShift xall) (eVar 0)) (aCons (una (isIF xy_NotWhole xall) (eVar 0)) (aCons (una (isIF xy_Ringed xall) (eVar 0)) (ret [])))))))
  (sSeq (sAsg 1 (bin addF (eVar 1) (eLst (aCons (una (isIF xy_Unseen xall) (eVar 0)) (aCons (una (isIF xy_NothingDone xall) (eVar 0)) (aCons (una (isIF xy_TooMany xall) (eVar 0)) (ret [])))))))
  (sSeq (sAsg 1 (bin addF (eVar 1) (eLst (aCons (una (isIF xy_BadCount xall) (eVar 0)) (aCons (una (isIF xy_BadTerm xall) (eVar 0)) (aCons (una (isIF xy_BadSaying xall) (eVar 0)) (ret [])))))))
  (sSeq (sAsg 1 (bin addF (eVar 1) (eLst (aCons (una (isIF xy_BadInlet xall) (eVar 0)) (aCons (una (isIF xy_BadCourse xall) (eVar 0)) (aCons (una (isIF xy_Lacking xall) (eVar 0)) (ret [])))))))
  (sSeq (sAsg 1 (bin addF (eVar 1) (eLst (aCons (una (isIF xy_BadClaim xall) (eVar 0)) (aCons (una (isIF xy_BadTable xall) (eVar 0)) (aCons (una (isIF xy_BadMaker xall) (eVar 0)) (ret [])))))))
  (sSeq (sAsg 1 (bin addF (eVar 1) (eLst (aCons (una (isIF xy_BadBound xall) (eVar 0)) (aCons (una (isIF xy_BadTables xall) (eVar 0)) (aCons (una (isIF xy_BadFact xall) (eVar 0)) (ret [])))))))
  (sSeq (sAsg 1 (bin addF (eVar 1) (eLst (aCons (una (isIF xy_BadName xall) (eVar 0)) (aCons (una (isIF xy_BadRow xall) (eVar 0)) (aCons (una (isIF xy_BadMakers xall) (eVar 0)) (ret [])))))))
  (sSeq (sAsg 1 (bin addF (eVar 1) (eLst (aCons (una (isIF xy_BadCounts xall) (eVar 0)) (aCons (una (isIF xy_BadCourses xall) (eVar 0)) (aCons (una (isIF xy_BadPaces xall) (eVar 0)) (ret [])))))))
  (sSeq (sAsg 1 (bin addF (eVar 1) (eLst (aCons (una (isIF xy_BadPlan xall) (eVar 0)) (aCons (una (isIF xy_BadSight xall) (eVar 0)) (aCons (una (isIF xy_BadDeed xall) (eVar 0)) (ret [])))))))
  (sSeq (sAsg 1 (bin addF (eVar 1) (eLst (aCons (una (isIF xy_NoClaim xall) (eVar 0)) (aCons (una (isIF xy_Missing xall) (eVar 0)) (aCons (una (isIF xy_Twice xall) (eVar 0)) (ret [])))))))
  (sSeq (sAsg 1 (bin addF (eVar 1) (eLst (aCons (una (isIF xy_Open xall) (eVar 0)) (aCons (una (isIF xy_BadPace xall) (eVar 0)) (aCons (una (isIF xy_NoWeb xall) (eVar 0)) (ret [])))))))
  (sRet (eVar 1))))))))))))))
def f__law_kinds : FnD := bodyD 1 b__law_kinds
def b__law_other : So :=
  sSeq (sIf (tst (bin eqF (eVar 0) (eC (.int 20)))) (sRet (eMkE "BadMaker" "word" okS (aCons (eVar 1) (ret [])))) (sNext))
  (sSeq (sIf (tst (bin eqF (eVar 0) (eC (.int 21)))) (sRet (eMkE "BadBound" "word" okS (aCons (eVar 1) (ret [])))) (sNext))
  (sSeq (sIf (tst (bin eqF (eVar 0) (eC (.int 22)))) (sRet (eMkE "BadTables" "number" okS (aCons (eVar 1) (ret [])))) (sNext))
  (sSeq (sIf (tst (bin eqF (eVar 0) (eC (.int 23)))) (sRet (eMkE "BadFact" "number" okS (aCons (eVar 1) (ret [])))) (sNext))
  (sSeq (sIf (tst (bin eqF (eVar 0) (eC (.int 24)))) (sRet (eMkE "BadName" "number" okS (aCons (eVar 1) (ret [])))) (sNext))
  (sSeq (sIf (tst (bin eqF (eVar 0) (eC (.int 25)))) (sRet (eMkE "BadRow" "number" okS (aCons (eVar 1) (ret [])))) (sNext))
  (sSeq (sIf (tst (bin eqF (eVar 0) (eC (.int 26)))) (sRet (eMkE "BadMakers" "number" okS (aCons (eVar 1) (ret [])))) (sNext))
  (sSeq (sIf (tst (bin eqF (eVar 0) (eC (.int 27)))) (sRet (eMkE "BadCounts" "number" okS (aCons (eVar 1) (ret [])))) (sNext))
  (sSeq (sIf (tst (bin eqF (eVar 0) (eC (.int 28)))) (sRet (eMkE "BadCourses" "number" okS (aCons (eVar 1) (ret [])))) (sNext))
  (sSeq (sIf (tst (bin eqF (eVar 0) (eC (.int 29)))) (sRet (eMkE "BadPaces" "number" okS (aCons (eVar 1) (ret [])))) (sNext))
  (sSeq (sIf (tst (bin eqF (eVar 0) (eC (.int 30)))) (sRet (eMkE "BadPlan" "number" okS (aCons (eVar 1) (ret [])))) (sNext))
  (sSeq (sIf (tst (bin eqF (eVar 0) (eC (.int 31)))) (sRet (eMkE "BadSight" "number" okS (aCons (eVar 1) (ret [])))) (sNext))
  (sSeq (sIf (tst (bin eqF (eVar 0) (eC (.int 32)))) (sRet (eMkE "BadDeed" "number" okS (aCons (eVar 1) (ret [])))) (sNext))
  (sSeq (sIf (tst (bin eqF (eVar 0) (eC (.int 33)))) (sRet (eMkE "NoClaim" "number" okS (aCons (eVar 1) (ret [])))) (sNext))
  (sSeq (sIf (tst (bin eqF (eVar 0) (eC (.int 34)))) (sRet (eMkE "Missing" "name" okT (aCons (eVar 1) (ret [])))) (sNext))
  (sSeq (sIf (tst (bin eqF (eVar 0) (eC (.int 35)))) (sRet (eMkE "Twice" "name" okT (aCons (eVar 1) (ret [])))) (sNext))
  (sSeq (sIf (tst (bin eqF (eVar 0) (eC (.int 36)))) (sRet (eMkE "Open" "name" okT (aCons (eVar 1) (ret [])))) (sNext))
  (sSeq (sIf (tst (bin eqF (eVar 0) (eC (.int 37)))) (sRet (eMkE0 "BadPace")) (sNext))
  (sRet (eMkE0 "NoWeb")))))))))))))))))))
def f__law_other : FnD := bodyD 0 b__law_other
def b__law_one : So :=
  sSeq (sIf (tst (bin eqF (eVar 0) (eC (.int 0)))) (sRet (eMkE "BadText" "place" okS (aCons (eVar 1) (ret [])))) (sNext))
  (sSeq (sIf (tst (bin eqF (eVar 0) (eC (.int 1)))) (sRet (eMkE "BadLine" "line" okS (aCons (eVar 1) (ret [])))) (sNext))
  (sSeq (sIf (tst (bin eqF (eVar 0) (eC (.int 2)))) (sRet (eMkE "AtOdds" "thing" okT (aCons (eVar 1) (ret [])))) (sNext))
  (sSeq (sIf (tst (bin eqF (eVar 0) (eC (.int 3)))) (sRet (eMkE "NoPace" "stage" okS (aCons (eVar 1) (ret [])))) (sNext))
  (sSeq (sIf (tst (bin eqF (eVar 0) (eC (.int 4)))) (sRet (eMkE0 "NoHole")) (sNext))
  (sSeq (sIf (tst (bin eqF (eVar 0) (eC (.int 5)))) (sRet (eMkE "NoWay" "thing" okT (aCons (eVar 1) (ret [])))) (sNext))
  (sSeq (sIf (tst (bin eqF (eVar 0) (eC (.int 6)))) (sRet (eMkE "NotShift" "row" okT (aCons (eVar 1) (ret [])))) (sNext))
  (sSeq (sIf (tst (bin eqF (eVar 0) (eC (.int 7)))) (sRet (eMkE "NotWhole" "row" okT (aCons (eVar 1) (ret [])))) (sNext))
  (sSeq (sIf (tst (bin eqF (eVar 0) (eC (.int 8)))) (sRet (eMkE "Ringed" "row" okT (aCons (eVar 1) (ret [])))) (sNext))
  (sSeq (sIf (tst (bin eqF (eVar 0) (eC (.int 9)))) (sRet (eMkE "Unseen" "number" okS (aCons (eVar 1) (ret [])))) (sNext))
  (sSeq (sIf (tst (bin eqF (eVar 0) (eC (.int 10)))) (sRet (eMkE0 "NothingDone")) (sNext))
  (sSeq (sIf (tst (bin eqF (eVar 0) (eC (.int 11)))) (sRet (eMkE "TooMany" "word" okS (aCons (eVar 1) (ret [])))) (sNext))
  (sSeq (sIf (tst (bin eqF (eVar 0) (eC (.int 12)))) (sRet (eMkE "BadCount" "thing" okT (aCons (eVar 1) (ret [])))) (sNext))
  (sSeq (sIf (tst (bin eqF (eVar 0) (eC (.int 13)))) (sRet (eMkE "BadTerm" "thing" okT (aCons (eVar 1) (ret [])))) (sNext))
  (sSeq (sIf (tst (bin eqF (eVar 0) (eC (.int 14)))) (sRet (eMkE "BadSaying" "thing" okT (aCons (eVar 1) (ret [])))) (sNext))
  (sSeq (sIf (tst (bin eqF (eVar 0) (eC (.int 15)))) (sRet (eMkE "BadInlet" "thing" okT (aCons (eVar 1) (ret [])))) (sNext))
  (sSeq (sIf (tst (bin eqF (eVar 0) (eC (.int 16)))) (sRet (eMkE "BadCourse" "thing" okT (aCons (eVar 1) (ret [])))) (sNext))
  (sSeq (sIf (tst (bin eqF (eVar 0) (eC (.int 17)))) (sRet (eMkE "Lacking" "thing" okT (aCons (eVar 1) (ret [])))) (sNext))
  (sSeq (sIf (tst (bin eqF (eVar 0) (eC (.int 18)))) (sRet (eMkE "BadClaim" "thing" okT (aCons (eVar 1) (ret [])))) (sNext))
  (sSeq (sIf (tst (bin eqF (eVar 0) (eC (.int 19)))) (sRet (eMkE "BadTable" "word" okS (aCons (eVar 1) (ret [])))) (sNext))
  (sRet (eCall0 2 f__law_other [] (aCons (eVar 0) (aCons (eVar 1) (ret []))))))))))))))))))))))))
def f__law_one : FnD := bodyD 0 b__law_one
def b__law_pick : So :=
  sSeq (sIf (tst (bin gtF (s2M ixF 0 (eC (.int 0))) (eC (.int 0)))) (sSeq (sAsg 2 (bin modF (eB intF (aCons (s2M ixF 0 (eC (.int 0))) (ret []))) (eVar 1)))
  (sSeq (sSetI 0 (bin divF (s2M ixF 0 (eC (.int 0))) (eVar 1)) (eC (.int 0)))
  (sRet (eVar 2)))) (sNext))
  (sSeq (sSetI 0 (bin addF (s2M ixF 0 (eC (.int 2))) (eC (.int 1))) (eC (.int 2)))
  (sSeq (sAsg 3 (bin modF (eB intF (aCons (bin mulF (bin addF (s2M ixF 0 (eC (.int 1))) (bin mulF (eC (.int 104729)) (s2M ixF 0 (eC (.int 2))))) (eC (.int 48271))) (ret []))) (eC (.int 2147483647))))
  (sSeq (sAsg 3 (bin modF (eB intF (aCons (bin addF (bin addF (bin mulF (eVar 3) (eVar 3)) (bin mulF (eC (.int 7)) (s2M ixF 0 (eC (.int 2))))) (s2M ixF 0 (eC (.int 1)))) (ret []))) (eC (.int 2147483629))))
  (sSeq (sAsg 3 (bin modF (eB intF (aCons (bin addF (bin mulF (eVar 3) (eC (.int 69621))) (eC (.int 5))) (ret []))) (eC (.int 2147483647))))
  (sSeq (sAsg 3 (bin modF (eB intF (aCons (bin addF (bin mulF (eVar 3) (eVar 3)) (eVar 3)) (ret []))) (eC (.int 2147483587))))
  (sRet (bin modF (eB intF (aCons (bin divF (eVar 3) (eC (.int 5))) (ret []))) (eVar 1))))))))
def f__law_pick : FnB := bodyB 2 b__law_pick
def b__law_source : So :=
  sSeq (sAsg 2 (eIf (tst (bin ltF (eVar 1) (s1M lenF 0))) (s2M ixF 0 (eVar 1)) (bin addF (bin mulF (eC (.int 3)) (eVar 1)) (eC (.int 1)))))
  (sSeq (sAsg 3 (bin modF (eB intF (aCons (bin addF (bin modF (eB intF (aCons (eVar 2) (ret []))) (eC (.int 2147483629))) (bin mulF (eC (.int 40503)) (eVar 1))) (ret []))) (eC (.int 2147483629))))
  (sSeq (sFor (iSeq (sSlM slF 0 (ret none) (oSome (eC (.int 2))))) (.nm 4) (sAsg 3 (bin modF (eB intF (aCons (bin addF (bin mulF (eVar 3) (eC (.int 69069))) (bin modF (eB intF (aCons (eVar 4) (ret []))) (eC (.int 1000003)))) (ret []))) (eC (.int 2147483629)))))
  (sSeq (sAsg 5 (eB absF (aCons (eVar 2) (ret []))))
  (sSeq (sIf (tst (bin ltF (eVar 5) (bin powF (eC (.int 10)) (eC (.int 18))))) (sRet (eLst (aCons (eC (.int 0)) (aCons (eVar 3) (aCons (eC (.int 0)) (ret [])))))) (sNext))
  (sSeq (sIf (tst (bin gtF (bin shrF (eVar 5) (eC (.int 4000))) (eC (.int 0)))) (sAsg 5 (bin subF (eVar 5) (bin shlF (bin shrF (eVar 5) (eC (.int 4000))) (eC (.int 4000))))) (sNext))
  (sRet (eLst (aCons (eVar 5) (aCons (eVar 3) (aCons (eC (.int 0)) (ret [])))))))))))
def f__law_source : FnD := bodyD 4 b__law_source
def b__law_truth : So :=
  sRet (eAnd (una (isTF cs0 "bool") (eVar 0)) (bin eqF (eVar 0) (eVar 1)))
def f__law_truth : FnD := bodyD 0 b__law_truth
def b_law : So :=
  sSeq (sAsg 1 (eCall0 2 f__law_source [] (aCons (eVar 0) (aCons (eC (.int 0)) (ret [])))))
  (sSeq (sAsg 2 (eTup (aCons (eC (.int 4)) (aCons (eC (.int 10)) (aCons (eC (.int 37)) (aCons (eC (.int 38)) (ret [])))))))
  (sSeq (sFor (iOf rng1 (aCons (eC (.int 39)) (ret []))) (.nm 3) (sSeq (sAsg 4 (bin ixF (eLst (aCons (eC (.str "f")) (aCons (eC (.int 7)) (aCons (una negF (eC (.int 1))) (aCons (eC .non) (aCons (eTup (aCons (eC (.str "x")) (aCons (eC (.int 1)) (ret [])))) (aCons (eC (.str "")) (aCons (bin powF (eC (.int 10)) (eC (.int 20))) (ret []))))))))) (eCallB 1 f__law_pick 1 (aCons (eC (.int 7)) (ret [])))))
  (sSeq (sAsg 5 (eCall0 2 f__law_one [] (aCons (eVar 3) (aCons (eVar 4) (ret [])))))
  (sSeq (sIf (cOr (cNot (tst (una (isIF xy_ValueError xall) (eVar 5)))) (cNot (tst (una (isIF xy_NeedforthError xall) (eVar 5))))) (sRet (eC (.bl false))) (sNext))
  (sSeq (sIf (cAnd (tst (bin ninF (eVar 3) (eVar 2))) (tst (bin neF (eCall0 2 f__law_borne [] (aCons (eVar 3) (aCons (eVar 5) (ret [])))) (eVar 4)))) (sRet (eC (.bl false))) (sNext))
  (sSeq (sAsg 6 (eCall0 1 f__law_kinds [] (aCons (eVar 5) (ret []))))
  (sSeq (sIf (cNot (tst (eB allF (aCons (eLc (iOf rng1 (aCons (eC (.int 39)) (ret []))) (.nm 7) (ret true) (eCall0 2 f__law_truth [] (aCons (s2M ixF 6 (eVar 7)) (aCons (bin eqF (eVar 7) (eVar 3)) (ret []))))) (ret []))))) (sRet (eC (.bl false))) (sNext))
  (sSeq (sIf (cNot (tst (eCall0 2 f__law_truth [] (aCons (una (isIF xy_Unreadable xall) (eVar 5)) (aCons (bin ltF (eVar 3) (eC (.int 2))) (ret [])))))) (sRet (eC (.bl false))) (sNext))
  (sIf (cNot (tst (eCall0 2 f__law_truth [] (aCons (una (isIF xy_Impossible xall) (eVar 5)) (aCons (eCh leF ltF (eC (.int 2)) (eVar 3) (eC (.int 11))) (ret [])))))) (sRet (eC (.bl false))) (sNext))))))))))
  (sRet (eAnd (eNot (una (isIF xy_Impossible xall) (eMkE0 "Unreadable"))) (una (isIF xy_NeedforthError xall) (eMkE0 "Impossible"))))))
def f_law : FnD := bodyD 7 b_law
end
end NF

set_option Elab.async false
set_option linter.all false
set_option maxRecDepth 100000
set_option maxHeartbeats 0
namespace NF
open PySem PySem.Spec PyProof.Rows L2 SL
abbrev prog : Program := PySem.Challenge.pw_needforth_k54_whole_errors_apart
def top (i : Nat) : Stmt := PySem.Challenge.pw_needforth_k54_whole_errors_apart.main.body.getD i (.Pass ⟨0, 0, 0, 0⟩)
def inClass (s : Stmt) (i : Nat) : Stmt := match s with
  | .ClassDef (body := b) .. => b.getD i (.Pass ⟨0, 0, 0, 0⟩)
  | _ => .Pass ⟨0, 0, 0, 0⟩
structure Tx (K : PySem.W.Frag) (mg : Str → Option Value) : Prop where
  n_ValueError : mg "ValueError" = none
  n_abs : mg "abs" = none
  n_all : mg "all" = none
  n_bool : mg "bool" = none
  n_int : mg "int" = none
  n_isinstance : mg "isinstance" = none
  n_len : mg "len" = none
  n_range : mg "range" = none
  n_super : mg "super" = none
  i_cs : ∀ C ∈ cs0, IsC K C
  gx_AtOdds : mg "AtOdds" = some (.ref (He.ga K "AtOdds"))
  gx_BadBound : mg "BadBound" = some (.ref (He.ga K "BadBound"))
  gx_BadClaim : mg "BadClaim" = some (.ref (He.ga K "BadClaim"))
  gx_BadCount : mg "BadCount" = some (.ref (He.ga K "BadCount"))
  gx_BadCounts : mg "BadCounts" = some (.ref (He.ga K "BadCounts"))
  gx_BadCourse : mg "BadCourse" = some (.ref (He.ga K "BadCourse"))
  gx_BadCourses : mg "BadCourses" = some (.ref (He.ga K "BadCourses"))
  gx_BadDeed : mg "BadDeed" = some (.ref (He.ga K "BadDeed"))
  gx_BadFact : mg "BadFact" = some (.ref (He.ga K "BadFact"))
  gx_BadInlet : mg "BadInlet" = some (.ref (He.ga K "BadInlet"))
  gx_BadLine : mg "BadLine" = some (.ref (He.ga K "BadLine"))
  gx_BadMaker : mg "BadMaker" = some (.ref (He.ga K "BadMaker"))
  gx_BadMakers : mg "BadMakers" = some (.ref (He.ga K "BadMakers"))
  gx_BadName : mg "BadName" = some (.ref (He.ga K "BadName"))
  gx_BadPace : mg "BadPace" = some (.ref (He.ga K "BadPace"))
  gx_BadPaces : mg "BadPaces" = some (.ref (He.ga K "BadPaces"))
  gx_BadPlan : mg "BadPlan" = some (.ref (He.ga K "BadPlan"))
  gx_BadRow : mg "BadRow" = some (.ref (He.ga K "BadRow"))
  gx_BadSaying : mg "BadSaying" = some (.ref (He.ga K "BadSaying"))
  gx_BadSight : mg "BadSight" = some (.ref (He.ga K "BadSight"))
  gx_BadTable : mg "BadTable" = some (.ref (He.ga K "BadTable"))
  gx_BadTables : mg "BadTables" = some (.ref (He.ga K "BadTables"))
  gx_BadTerm : mg "BadTerm" = some (.ref (He.ga K "BadTerm"))
  gx_BadText : mg "BadText" = some (.ref (He.ga K "BadText"))
  gx_Impossible : mg "Impossible" = some (.ref (He.ga K "Impossible"))
  gx_Lacking : mg "Lacking" = some (.ref (He.ga K "Lacking"))
  gx_Missing : mg "Missing" = some (.ref (He.ga K "Missing"))
  gx_NeedforthError : mg "NeedforthError" = some (.ref (He.ga K "NeedforthError"))
  gx_NoClaim : mg "NoClaim" = some (.ref (He.ga K "NoClaim"))
  gx_NoHole : mg "NoHole" = some (.ref (He.ga K "NoHole"))
  gx_NoPace : mg "NoPace" = some (.ref (He.ga K "NoPace"))
  gx_NoWay : mg "NoWay" = some (.ref (He.ga K "NoWay"))
  gx_NoWeb : mg "NoWeb" = some (.ref (He.ga K "NoWeb"))
  gx_NotShift : mg "NotShift" = some (.ref (He.ga K "NotShift"))
  gx_NotWhole : mg "NotWhole" = some (.ref (He.ga K "NotWhole"))
  gx_NothingDone : mg "NothingDone" = some (.ref (He.ga K "NothingDone"))
  gx_Open : mg "Open" = some (.ref (He.ga K "Open"))
  gx_Ringed : mg "Ringed" = some (.ref (He.ga K "Ringed"))
  gx_TooMany : mg "TooMany" = some (.ref (He.ga K "TooMany"))
  gx_Twice : mg "Twice" = some (.ref (He.ga K "Twice"))
  gx_Unreadable : mg "Unreadable" = some (.ref (He.ga K "Unreadable"))
  gx_Unseen : mg "Unseen" = some (.ref (He.ga K "Unseen"))
  xi_AtOdds : IsIs K (.ref (He.ga K "AtOdds")) xy_AtOdds xall
  xi_BadBound : IsIs K (.ref (He.ga K "BadBound")) xy_BadBound xall
  xi_BadClaim : IsIs K (.ref (He.ga K "BadClaim")) xy_BadClaim xall
  xi_BadCount : IsIs K (.ref (He.ga K "BadCount")) xy_BadCount xall
  xi_BadCounts : IsIs K (.ref (He.ga K "BadCounts")) xy_BadCounts xall
  xi_BadCourse : IsIs K (.ref (He.ga K "BadCourse")) xy_BadCourse xall
  xi_BadCourses : IsIs K (.ref (He.ga K "BadCourses")) xy_BadCourses xall
  xi_BadDeed : IsIs K (.ref (He.ga K "BadDeed")) xy_BadDeed xall
  xi_BadFact : IsIs K (.ref (He.ga K "BadFact")) xy_BadFact xall
  xi_BadInlet : IsIs K (.ref (He.ga K "BadInlet")) xy_BadInlet xall
  xi_BadLine : IsIs K (.ref (He.ga K "BadLine")) xy_BadLine xall
  xi_BadMaker : IsIs K (.ref (He.ga K "BadMaker")) xy_BadMaker xall
  xi_BadMakers : IsIs K (.ref (He.ga K "BadMakers")) xy_BadMakers xall
  xi_BadName : IsIs K (.ref (He.ga K "BadName")) xy_BadName xall
  xi_BadPace : IsIs K (.ref (He.ga K "BadPace")) xy_BadPace xall
  xi_BadPaces : IsIs K (.ref (He.ga K "BadPaces")) xy_BadPaces xall
  xi_BadPlan : IsIs K (.ref (He.ga K "BadPlan")) xy_BadPlan xall
  xi_BadRow : IsIs K (.ref (He.ga K "BadRow")) xy_BadRow xall
  xi_BadSaying : IsIs K (.ref (He.ga K "BadSaying")) xy_BadSaying xall
  xi_BadSight : IsIs K (.ref (He.ga K "BadSight")) xy_BadSight xall
  xi_BadTable : IsIs K (.ref (He.ga K "BadTable")) xy_BadTable xall
  xi_BadTables : IsIs K (.ref (He.ga K "BadTables")) xy_BadTables xall
  xi_BadTerm : IsIs K (.ref (He.ga K "BadTerm")) xy_BadTerm xall
  xi_BadText : IsIs K (.ref (He.ga K "BadText")) xy_BadText xall
  xi_Impossible : IsIs K (.ref (He.ga K "Impossible")) xy_Impossible xall
  xi_Lacking : IsIs K (.ref (He.ga K "Lacking")) xy_Lacking xall
  xi_Missing : IsIs K (.ref (He.ga K "Missing")) xy_Missing xall
  xi_NeedforthError : IsIs K (.ref (He.ga K "NeedforthError")) xy_NeedforthError xall
  xi_NoClaim : IsIs K (.ref (He.ga K "NoClaim")) xy_NoClaim xall
  xi_NoHole : IsIs K (.ref (He.ga K "NoHole")) xy_NoHole xall
  xi_NoPace : IsIs K (.ref (He.ga K "NoPace")) xy_NoPace xall
  xi_NoWay : IsIs K (.ref (He.ga K "NoWay")) xy_NoWay xall
  xi_NoWeb : IsIs K (.ref (He.ga K "NoWeb")) xy_NoWeb xall
  xi_NotShift : IsIs K (.ref (He.ga K "NotShift")) xy_NotShift xall
  xi_NotWhole : IsIs K (.ref (He.ga K "NotWhole")) xy_NotWhole xall
  xi_NothingDone : IsIs K (.ref (He.ga K "NothingDone")) xy_NothingDone xall
  xi_Open : IsIs K (.ref (He.ga K "Open")) xy_Open xall
  xi_Ringed : IsIs K (.ref (He.ga K "Ringed")) xy_Ringed xall
  xi_TooMany : IsIs K (.ref (He.ga K "TooMany")) xy_TooMany xall
  xi_Twice : IsIs K (.ref (He.ga K "Twice")) xy_Twice xall
  xi_Unreadable : IsIs K (.ref (He.ga K "Unreadable")) xy_Unreadable xall
  xi_Unseen : IsIs K (.ref (He.ga K "Unseen")) xy_Unseen xall
  xi_ValueError : IsIs K (.type "ValueError") xy_ValueError xall
  m0_BadPace : MkE0 K mg "BadPace"
  m0_Impossible : MkE0 K mg "Impossible"
  m0_NoHole : MkE0 K mg "NoHole"
  m0_NoWeb : MkE0 K mg "NoWeb"
  m0_NothingDone : MkE0 K mg "NothingDone"
  m0_Unreadable : MkE0 K mg "Unreadable"
  xf_line : XfAll K xf_line "line"
  xf_name : XfAll K xf_name "name"
  xf_number : XfAll K xf_number "number"
  xf_place : XfAll K xf_place "place"
  xf_row : XfAll K xf_row "row"
  xf_stage : XfAll K xf_stage "stage"
  xf_thing : XfAll K xf_thing "thing"
  xf_word : XfAll K xf_word "word"
  xa : ExcCs K xall
section
variable {P : Program} {w : World} {K : PySem.W.Frag} {mg : Str → Option Value} {base : Heap} {fa : Addr} {fd : FuncData} {dvs : List V}
abbrev s_x_AtOdds : Stmt := inClass (top 10) 0
theorem sc_x_AtOdds : FnScopeS ["self", "thing"] ["self", "thing"] (defScope s_x_AtOdds) := ⟨rfl, rfl, rfl, by decide +kernel, rfl, by decide +kernel, by decide +kernel, by decide +kernel⟩
abbrev s_x_BadLine : Stmt := inClass (top 9) 0
theorem sc_x_BadLine : FnScopeS ["self", "line"] ["self", "line"] (defScope s_x_BadLine) := ⟨rfl, rfl, rfl, by decide +kernel, rfl, by decide +kernel, by decide +kernel, by decide +kernel⟩
abbrev s_x_BadText : Stmt := inClass (top 8) 0
theorem sc_x_BadText : FnScopeS ["self", "place"] ["self", "place"] (defScope s_x_BadText) := ⟨rfl, rfl, rfl, by decide +kernel, rfl, by decide +kernel, by decide +kernel, by decide +kernel⟩
abbrev s_x_NoPace : Stmt := inClass (top 11) 0
theorem sc_x_NoPace : FnScopeS ["self", "stage"] ["self", "stage"] (defScope s_x_NoPace) := ⟨rfl, rfl, rfl, by decide +kernel, rfl, by decide +kernel, by decide +kernel, by decide +kernel⟩
abbrev s_x_NoWay : Stmt := inClass (top 13) 0
theorem sc_x_NoWay : FnScopeS ["self", "thing"] ["self", "thing"] (defScope s_x_NoWay) := ⟨rfl, rfl, rfl, by decide +kernel, rfl, by decide +kernel, by decide +kernel, by decide +kernel⟩
abbrev s_x_NotShift : Stmt := inClass (top 14) 0
theorem sc_x_NotShift : FnScopeS ["self", "row"] ["self", "row"] (defScope s_x_NotShift) := ⟨rfl, rfl, rfl, by decide +kernel, rfl, by decide +kernel, by decide +kernel, by decide +kernel⟩
abbrev s_x_NotWhole : Stmt := inClass (top 15) 0
theorem sc_x_NotWhole : FnScopeS ["self", "row"] ["self", "row"] (defScope s_x_NotWhole) := ⟨rfl, rfl, rfl, by decide +kernel, rfl, by decide +kernel, by decide +kernel, by decide +kernel⟩
abbrev s_x_Ringed : Stmt := inClass (top 16) 0
theorem sc_x_Ringed : FnScopeS ["self", "row"] ["self", "row"] (defScope s_x_Ringed) := ⟨rfl, rfl, rfl, by decide +kernel, rfl, by decide +kernel, by decide +kernel, by decide +kernel⟩
abbrev s_x_TooMany : Stmt := inClass (top 19) 0
theorem sc_x_TooMany : FnScopeS ["self", "word"] ["self", "word"] (defScope s_x_TooMany) := ⟨rfl, rfl, rfl, by decide +kernel, rfl, by decide +kernel, by decide +kernel, by decide +kernel⟩
abbrev s_x_Unseen : Stmt := inClass (top 17) 0
theorem sc_x_Unseen : FnScopeS ["self", "number"] ["self", "number"] (defScope s_x_Unseen) := ⟨rfl, rfl, rfl, by decide +kernel, rfl, by decide +kernel, by decide +kernel, by decide +kernel⟩
abbrev s_x_WrongName : Stmt := inClass (top 7) 0
theorem sc_x_WrongName : FnScopeS ["self", "name"] ["self", "name"] (defScope s_x_WrongName) := ⟨rfl, rfl, rfl, by decide +kernel, rfl, by decide +kernel, by decide +kernel, by decide +kernel⟩
abbrev s_x_WrongNumber : Stmt := inClass (top 6) 0
theorem sc_x_WrongNumber : FnScopeS ["self", "number"] ["self", "number"] (defScope s_x_WrongNumber) := ⟨rfl, rfl, rfl, by decide +kernel, rfl, by decide +kernel, by decide +kernel, by decide +kernel⟩
abbrev s_x_WrongThing : Stmt := inClass (top 4) 0
theorem sc_x_WrongThing : FnScopeS ["self", "thing"] ["self", "thing"] (defScope s_x_WrongThing) := ⟨rfl, rfl, rfl, by decide +kernel, rfl, by decide +kernel, by decide +kernel, by decide +kernel⟩
abbrev s_x_WrongWord : Stmt := inClass (top 5) 0
theorem sc_x_WrongWord : FnScopeS ["self", "word"] ["self", "word"] (defScope s_x_WrongWord) := ⟨rfl, rfl, rfl, by decide +kernel, rfl, by decide +kernel, by decide +kernel, by decide +kernel⟩
abbrev s__law_borne : Stmt := top 54
theorem sc__law_borne : FnScope ["_law_way", "_law_error"] ["_law_way", "_law_error"] (defScope s__law_borne) := ⟨rfl, rfl, rfl, by decide +kernel, rfl, by decide +kernel, by decide +kernel⟩
theorem ok__law_borne (T : Tx K mg) (F : FunD K "_law_borne" "_law_borne" (defArgs s__law_borne) (defBody s__law_borne) (defScope s__law_borne) dvs [] fa fd) : FnOk P w K mg base (L2.CX P w) 1 fa fd ["_law_way", "_law_error"] (spD K 2 f__law_borne) := by
  have nd := sc__law_borne.nd
  refine fnD F sc__law_borne b__law_borne 0 rfl fun cdv A outer s H E hr => ?_
  exact sss_cons (ss_if (sc_cmp op_in_seq o2_in (by rfl) (se_var 0) (se_tup (sa_cons (se_int) (sa_nil)))) (sss_one (ss_ret (se_xfI T.xf_place (se_var 1)))) (sss_nil))
        (sss_cons (ss_if (sc_cmp op_in_seq o2_in (by rfl) (se_var 0) (se_tup (sa_cons (se_int) (sa_nil)))) (sss_one (ss_ret (se_xfI T.xf_line (se_var 1)))) (sss_nil))
        (sss_cons (ss_if (sc_cmp op_in_seq o2_in (by rfl) (se_var 0) (se_tup (sa_cons (se_int) (sa_cons (se_int) (sa_cons (se_int) (sa_cons (se_int) (sa_cons (se_int) (sa_cons (se_int) (sa_cons (se_int) (sa_cons (se_int) (sa_cons (se_int) (sa_nil)))))))))))) (sss_one (ss_ret (se_xfI T.xf_thing (se_var 1)))) (sss_nil))
        (sss_cons (ss_if (sc_cmp op_in_seq o2_in (by rfl) (se_var 0) (se_tup (sa_cons (se_int) (sa_nil)))) (sss_one (ss_ret (se_xfI T.xf_stage (se_var 1)))) (sss_nil))
        (sss_cons (ss_if (sc_cmp op_in_seq o2_in (by rfl) (se_var 0) (se_tup (sa_cons (se_int) (sa_cons (se_int) (sa_cons (se_int) (sa_nil)))))) (sss_one (ss_ret (se_xfI T.xf_row (se_var 1)))) (sss_nil))
        (sss_cons (ss_if (sc_cmp op_in_seq o2_in (by rfl) (se_var 0) (se_tup (sa_cons (se_int) (sa_cons (se_int) (sa_cons (se_int) (sa_cons (se_int) (sa_cons (se_int) (sa_cons (se_int) (sa_cons (se_int) (sa_cons (se_int) (sa_cons (se_int) (sa_cons (se_int) (sa_cons (se_int) (sa_cons (se_int) (sa_cons (se_int) (sa_nil)))))))))))))))) (sss_one (ss_ret (se_xfI T.xf_number (se_var 1)))) (sss_nil))
        (sss_cons (ss_if (sc_cmp op_in_seq o2_in (by rfl) (se_var 0) (se_tup (sa_cons (se_int) (sa_cons (se_int) (sa_cons (se_int) (sa_cons (se_int) (sa_nil))))))) (sss_one (ss_ret (se_xfI T.xf_word (se_var 1)))) (sss_nil))
        (sss_cons (ss_if (sc_cmp op_in_seq o2_in (by rfl) (se_var 0) (se_tup (sa_cons (se_int) (sa_cons (se_int) (sa_cons (se_int) (sa_nil)))))) (sss_one (ss_ret (se_xfI T.xf_name (se_var 1)))) (sss_nil))
        (sss_one (ss_ret (se_non))))))))))
abbrev s__law_kinds : Stmt := top 53
theorem sc__law_kinds : FnScope ["_law_error", "_law_told"] ["_law_error"] (defScope s__law_kinds) := ⟨rfl, rfl, rfl, by decide +kernel, rfl, by decide +kernel, by decide +kernel⟩
theorem ok__law_kinds (T : Tx K mg) (F : FunD K "_law_kinds" "_law_kinds" (defArgs s__law_kinds) (defBody s__law_kinds) (defScope s__law_kinds) dvs [] fa fd) : FnOk P w K mg base (L2.CX P w) 1 fa fd ["_law_error"] (spD K 1 f__law_kinds) := by
  have nd := sc__law_kinds.nd
  refine fnD F sc__law_kinds b__law_kinds 1 rfl fun cdv A outer s H E hr => ?_
  exact sss_cons (ss_set (i := 1) nd (se_lst (sa_cons (se_isI T.xa T.xi_BadText (se_var 0) T.n_isinstance T.gx_BadText) (sa_cons (se_isI T.xa T.xi_BadLine (se_var 0) T.n_isinstance T.gx_BadLine) (sa_cons (se_isI T.xa T.xi_AtOdds (se_var 0) T.n_isinstance T.gx_AtOdds) (sa_nil))))))
        (sss_cons (ss_set (i := 1) nd (se_bin op_add_all o2_add (se_var 1) (se_lst (sa_cons (se_isI T.xa T.xi_NoPace (se_var 0) T.n_isinstance T.gx_NoPace) (sa_cons (se_isI T.xa T.xi_NoHole (se_var 0) T.n_isinstance T.gx_NoHole) (sa_cons (se_isI T.xa T.xi_NoWay (se_var 0) T.n_isinstance T.gx_NoWay) (sa_nil)))))))
        (sss_cons (ss_set (i := 1) nd (se_bin op_add_all o2_add (se_var 1) (se_lst (sa_cons (se_isI T.xa T.xi_NotShift (se_var 0) T.n_isinstance T.gx_NotShift) (sa_cons (se_isI T.xa T.xi_NotWhole (se_var 0) T.n_isinstance T.gx_NotWhole) (sa_cons (se_isI T.xa T.xi_Ringed (se_var 0) T.n_isinstance T.gx_Ringed) (sa_nil)))))))
        (sss_cons (ss_set (i := 1) nd (se_bin op_add_all o2_add (se_var 1) (se_lst (sa_cons (se_isI T.xa T.xi_Unseen (se_var 0) T.n_isinstance T.gx_Unseen) (sa_cons (se_isI T.xa T.xi_NothingDone (se_var 0) T.n_isinstance T.gx_NothingDone) (sa_cons (se_isI T.xa T.xi_TooMany (se_var 0) T.n_isinstance T.gx_TooMany) (sa_nil)))))))
        (sss_cons (ss_set (i := 1) nd (se_bin op_add_all o2_add (se_var 1) (se_lst (sa_cons (se_isI T.xa T.xi_BadCount (se_var 0) T.n_isinstance T.gx_BadCount) (sa_cons (se_isI T.xa T.xi_BadTerm (se_var 0) T.n_isinstance T.gx_BadTerm) (sa_cons (se_isI T.xa T.xi_BadSaying (se_var 0) T.n_isinstance T.gx_BadSaying) (sa_nil)))))))
        (sss_cons (ss_set (i := 1) nd (se_bin op_add_all o2_add (se_var 1) (se_lst (sa_cons (se_isI T.xa T.xi_BadInlet (se_var 0) T.n_isinstance T.gx_BadInlet) (sa_cons (se_isI T.xa T.xi_BadCourse (se_var 0) T.n_isinstance T.gx_BadCourse) (sa_cons (se_isI T.xa T.xi_Lacking (se_var 0) T.n_isinstance T.gx_Lacking) (sa_nil)))))))
        (sss_cons (ss_set (i := 1) nd (se_bin op_add_all o2_add (se_var 1) (se_lst (sa_cons (se_isI T.xa T.xi_BadClaim (se_var 0) T.n_isinstance T.gx_BadClaim) (sa_cons (se_isI T.xa T.xi_BadTable (se_var 0) T.n_isinstance T.gx_BadTable) (sa_cons (se_isI T.xa T.xi_BadMaker (se_var 0) T.n_isinstance T.gx_BadMaker) (sa_nil)))))))
        (sss_cons (ss_set (i := 1) nd (se_bin op_add_all o2_add (se_var 1) (se_lst (sa_cons (se_isI T.xa T.xi_BadBound (se_var 0) T.n_isinstance T.gx_BadBound) (sa_cons (se_isI T.xa T.xi_BadTables (se_var 0) T.n_isinstance T.gx_BadTables) (sa_cons (se_isI T.xa T.xi_BadFact (se_var 0) T.n_isinstance T.gx_BadFact) (sa_nil)))))))
        (sss_cons (ss_set (i := 1) nd (se_bin op_add_all o2_add (se_var 1) (se_lst (sa_cons (se_isI T.xa T.xi_BadName (se_var 0) T.n_isinstance T.gx_BadName) (sa_cons (se_isI T.xa T.xi_BadRow (se_var 0) T.n_isinstance T.gx_BadRow) (sa_cons (se_isI T.xa T.xi_BadMakers (se_var 0) T.n_isinstance T.gx_BadMakers) (sa_nil)))))))
        (sss_cons (ss_set (i := 1) nd (se_bin op_add_all o2_add (se_var 1) (se_lst (sa_cons (se_isI T.xa T.xi_BadCounts (se_var 0) T.n_isinstance T.gx_BadCounts) (sa_cons (se_isI T.xa T.xi_BadCourses (se_var 0) T.n_isinstance T.gx_BadCourses) (sa_cons (se_isI T.xa T.xi_BadPaces (se_var 0) T.n_isinstance T.gx_BadPaces) (sa_nil)))))))
        (sss_cons (ss_set (i := 1) nd (se_bin op_add_all o2_add (se_var 1) (se_lst (sa_cons (se_isI T.xa T.xi_BadPlan (se_var 0) T.n_isinstance T.gx_BadPlan) (sa_cons (se_isI T.xa T.xi_BadSight (se_var 0) T.n_isinstance T.gx_BadSight) (sa_cons (se_isI T.xa T.xi_BadDeed (se_var 0) T.n_isinstance T.gx_BadDeed) (sa_nil)))))))
        (sss_cons (ss_set (i := 1) nd (se_bin op_add_all o2_add (se_var 1) (se_lst (sa_cons (se_isI T.xa T.xi_NoClaim (se_var 0) T.n_isinstance T.gx_NoClaim) (sa_cons (se_isI T.xa T.xi_Missing (se_var 0) T.n_isinstance T.gx_Missing) (sa_cons (se_isI T.xa T.xi_Twice (se_var 0) T.n_isinstance T.gx_Twice) (sa_nil)))))))
        (sss_cons (ss_set (i := 1) nd (se_bin op_add_all o2_add (se_var 1) (se_lst (sa_cons (se_isI T.xa T.xi_Open (se_var 0) T.n_isinstance T.gx_Open) (sa_cons (se_isI T.xa T.xi_BadPace (se_var 0) T.n_isinstance T.gx_BadPace) (sa_cons (se_isI T.xa T.xi_NoWeb (se_var 0) T.n_isinstance T.gx_NoWeb) (sa_nil)))))))
        (sss_one (ss_ret (se_var 1)))))))))))))))
abbrev s__law_other : Stmt := top 52
theorem sc__law_other : FnScope ["_law_way", "_law_thing"] ["_law_way", "_law_thing"] (defScope s__law_other) := ⟨rfl, rfl, rfl, by decide +kernel, rfl, by decide +kernel, by decide +kernel⟩
theorem ok__law_other (T : Tx K mg) (X_BadBound : ExcOk P w K mg base 2 "BadBound" "word" okS) (X_BadCounts : ExcOk P w K mg base 2 "BadCounts" "number" okS) (X_BadCourses : ExcOk P w K mg base 2 "BadCourses" "number" okS) (X_BadDeed : ExcOk P w K mg base 2 "BadDeed" "number" okS) (X_BadFact : ExcOk P w K mg base 2 "BadFact" "number" okS) (X_BadMaker : ExcOk P w K mg base 2 "BadMaker" "word" okS) (X_BadMakers : ExcOk P w K mg base 2 "BadMakers" "number" okS) (X_BadName : ExcOk P w K mg base 2 "BadName" "number" okS) (X_BadPaces : ExcOk P w K mg base 2 "BadPaces" "number" okS) (X_BadPlan : ExcOk P w K mg base 2 "BadPlan" "number" okS) (X_BadRow : ExcOk P w K mg base 2 "BadRow" "number" okS) (X_BadSight : ExcOk P w K mg base 2 "BadSight" "number" okS) (X_BadTables : ExcOk P w K mg base 2 "BadTables" "number" okS) (X_Missing : ExcOk P w K mg base 2 "Missing" "name" okT) (X_NoClaim : ExcOk P w K mg base 2 "NoClaim" "number" okS) (X_Open : ExcOk P w K mg base 2 "Open" "name" okT) (X_Twice : ExcOk P w K mg base 2 "Twice" "name" okT) (F : FunD K "_law_other" "_law_other" (defArgs s__law_other) (defBody s__law_other) (defScope s__law_other) dvs [] fa fd) : FnOk P w K mg base (L2.CX P w) 4 fa fd ["_law_way", "_law_thing"] (spD K 2 f__law_other) := by
  have nd := sc__law_other.nd
  refine fnD F sc__law_other b__law_other 0 rfl fun cdv A outer s H E hr => ?_
  exact sss_cons (ss_if (sc_cmp (op_eqD hr.units) o2_eq (nomark _) (se_var 0) (se_int)) (sss_one (ss_ret (se_mkE X_BadMaker (hr.mono (by decide)) (sa_cons (se_var 1) (sa_nil))))) (sss_nil))
        (sss_cons (ss_if (sc_cmp (op_eqD hr.units) o2_eq (nomark _) (se_var 0) (se_int)) (sss_one (ss_ret (se_mkE X_BadBound (hr.mono (by decide)) (sa_cons (se_var 1) (sa_nil))))) (sss_nil))
        (sss_cons (ss_if (sc_cmp (op_eqD hr.units) o2_eq (nomark _) (se_var 0) (se_int)) (sss_one (ss_ret (se_mkE X_BadTables (hr.mono (by decide)) (sa_cons (se_var 1) (sa_nil))))) (sss_nil))
        (sss_cons (ss_if (sc_cmp (op_eqD hr.units) o2_eq (nomark _) (se_var 0) (se_int)) (sss_one (ss_ret (se_mkE X_BadFact (hr.mono (by decide)) (sa_cons (se_var 1) (sa_nil))))) (sss_nil))
        (sss_cons (ss_if (sc_cmp (op_eqD hr.units) o2_eq (nomark _) (se_var 0) (se_int)) (sss_one (ss_ret (se_mkE X_BadName (hr.mono (by decide)) (sa_cons (se_var 1) (sa_nil))))) (sss_nil))
        (sss_cons (ss_if (sc_cmp (op_eqD hr.units) o2_eq (nomark _) (se_var 0) (se_int)) (sss_one (ss_ret (se_mkE X_BadRow (hr.mono (by decide)) (sa_cons (se_var 1) (sa_nil))))) (sss_nil))
        (sss_cons (ss_if (sc_cmp (op_eqD hr.units) o2_eq (nomark _) (se_var 0) (se_int)) (sss_one (ss_ret (se_mkE X_BadMakers (hr.mono (by decide)) (sa_cons (se_var 1) (sa_nil))))) (sss_nil))
        (sss_cons (ss_if (sc_cmp (op_eqD hr.units) o2_eq (nomark _) (se_var 0) (se_int)) (sss_one (ss_ret (se_mkE X_BadCounts (hr.mono (by decide)) (sa_cons (se_var 1) (sa_nil))))) (sss_nil))
        (sss_cons (ss_if (sc_cmp (op_eqD hr.units) o2_eq (nomark _) (se_var 0) (se_int)) (sss_one (ss_ret (se_mkE X_BadCourses (hr.mono (by decide)) (sa_cons (se_var 1) (sa_nil))))) (sss_nil))
        (sss_cons (ss_if (sc_cmp (op_eqD hr.units) o2_eq (nomark _) (se_var 0) (se_int)) (sss_one (ss_ret (se_mkE X_BadPaces (hr.mono (by decide)) (sa_cons (se_var 1) (sa_nil))))) (sss_nil))
        (sss_cons (ss_if (sc_cmp (op_eqD hr.units) o2_eq (nomark _) (se_var 0) (se_int)) (sss_one (ss_ret (se_mkE X_BadPlan (hr.mono (by decide)) (sa_cons (se_var 1) (sa_nil))))) (sss_nil))
        (sss_cons (ss_if (sc_cmp (op_eqD hr.units) o2_eq (nomark _) (se_var 0) (se_int)) (sss_one (ss_ret (se_mkE X_BadSight (hr.mono (by decide)) (sa_cons (se_var 1) (sa_nil))))) (sss_nil))
        (sss_cons (ss_if (sc_cmp (op_eqD hr.units) o2_eq (nomark _) (se_var 0) (se_int)) (sss_one (ss_ret (se_mkE X_BadDeed (hr.mono (by decide)) (sa_cons (se_var 1) (sa_nil))))) (sss_nil))
        (sss_cons (ss_if (sc_cmp (op_eqD hr.units) o2_eq (nomark _) (se_var 0) (se_int)) (sss_one (ss_ret (se_mkE X_NoClaim (hr.mono (by decide)) (sa_cons (se_var 1) (sa_nil))))) (sss_nil))
        (sss_cons (ss_if (sc_cmp (op_eqD hr.units) o2_eq (nomark _) (se_var 0) (se_int)) (sss_one (ss_ret (se_mkE X_Missing (hr.mono (by decide)) (sa_cons (se_var 1) (sa_nil))))) (sss_nil))
        (sss_cons (ss_if (sc_cmp (op_eqD hr.units) o2_eq (nomark _) (se_var 0) (se_int)) (sss_one (ss_ret (se_mkE X_Twice (hr.mono (by decide)) (sa_cons (se_var 1) (sa_nil))))) (sss_nil))
        (sss_cons (ss_if (sc_cmp (op_eqD hr.units) o2_eq (nomark _) (se_var 0) (se_int)) (sss_one (ss_ret (se_mkE X_Open (hr.mono (by decide)) (sa_cons (se_var 1) (sa_nil))))) (sss_nil))
        (sss_cons (ss_if (sc_cmp (op_eqD hr.units) o2_eq (nomark _) (se_var 0) (se_int)) (sss_one (ss_ret (se_mkE0 T.m0_BadPace))) (sss_nil))
        (sss_one (ss_ret (se_mkE0 T.m0_NoWeb))))))))))))))))))))
abbrev s__law_one : Stmt := top 51
theorem sc__law_one : FnScope ["_law_way", "_law_thing"] ["_law_way", "_law_thing"] (defScope s__law_one) := ⟨rfl, rfl, rfl, by decide +kernel, rfl, by decide +kernel, by decide +kernel⟩
theorem ok__law_one (T : Tx K mg) (G__law_other : DefOk P w K mg base 4 "_law_other" 2 [] f__law_other) (X_AtOdds : ExcOk P w K mg base 2 "AtOdds" "thing" okT) (X_BadClaim : ExcOk P w K mg base 2 "BadClaim" "thing" okT) (X_BadCount : ExcOk P w K mg base 2 "BadCount" "thing" okT) (X_BadCourse : ExcOk P w K mg base 2 "BadCourse" "thing" okT) (X_BadInlet : ExcOk P w K mg base 2 "BadInlet" "thing" okT) (X_BadLine : ExcOk P w K mg base 2 "BadLine" "line" okS) (X_BadSaying : ExcOk P w K mg base 2 "BadSaying" "thing" okT) (X_BadTable : ExcOk P w K mg base 2 "BadTable" "word" okS) (X_BadTerm : ExcOk P w K mg base 2 "BadTerm" "thing" okT) (X_BadText : ExcOk P w K mg base 2 "BadText" "place" okS) (X_Lacking : ExcOk P w K mg base 2 "Lacking" "thing" okT) (X_NoPace : ExcOk P w K mg base 2 "NoPace" "stage" okS) (X_NoWay : ExcOk P w K mg base 2 "NoWay" "thing" okT) (X_NotShift : ExcOk P w K mg base 2 "NotShift" "row" okT) (X_NotWhole : ExcOk P w K mg base 2 "NotWhole" "row" okT) (X_Ringed : ExcOk P w K mg base 2 "Ringed" "row" okT) (X_TooMany : ExcOk P w K mg base 2 "TooMany" "word" okS) (X_Unseen : ExcOk P w K mg base 2 "Unseen" "number" okS) (F : FunD K "_law_one" "_law_one" (defArgs s__law_one) (defBody s__law_one) (defScope s__law_one) dvs [] fa fd) : FnOk P w K mg base (L2.CX P w) 6 fa fd ["_law_way", "_law_thing"] (spD K 2 f__law_one) := by
  have nd := sc__law_one.nd
  refine fnD F sc__law_one b__law_one 0 rfl fun cdv A outer s H E hr => ?_
  exact sss_cons (ss_if (sc_cmp (op_eqD hr.units) o2_eq (nomark _) (se_var 0) (se_int)) (sss_one (ss_ret (se_mkE X_BadText (hr.mono (by decide)) (sa_cons (se_var 1) (sa_nil))))) (sss_nil))
        (sss_cons (ss_if (sc_cmp (op_eqD hr.units) o2_eq (nomark _) (se_var 0) (se_int)) (sss_one (ss_ret (se_mkE X_BadLine (hr.mono (by decide)) (sa_cons (se_var 1) (sa_nil))))) (sss_nil))
        (sss_cons (ss_if (sc_cmp (op_eqD hr.units) o2_eq (nomark _) (se_var 0) (se_int)) (sss_one (ss_ret (se_mkE X_AtOdds (hr.mono (by decide)) (sa_cons (se_var 1) (sa_nil))))) (sss_nil))
        (sss_cons (ss_if (sc_cmp (op_eqD hr.units) o2_eq (nomark _) (se_var 0) (se_int)) (sss_one (ss_ret (se_mkE X_NoPace (hr.mono (by decide)) (sa_cons (se_var 1) (sa_nil))))) (sss_nil))
        (sss_cons (ss_if (sc_cmp (op_eqD hr.units) o2_eq (nomark _) (se_var 0) (se_int)) (sss_one (ss_ret (se_mkE0 T.m0_NoHole))) (sss_nil))
        (sss_cons (ss_if (sc_cmp (op_eqD hr.units) o2_eq (nomark _) (se_var 0) (se_int)) (sss_one (ss_ret (se_mkE X_NoWay (hr.mono (by decide)) (sa_cons (se_var 1) (sa_nil))))) (sss_nil))
        (sss_cons (ss_if (sc_cmp (op_eqD hr.units) o2_eq (nomark _) (se_var 0) (se_int)) (sss_one (ss_ret (se_mkE X_NotShift (hr.mono (by decide)) (sa_cons (se_var 1) (sa_nil))))) (sss_nil))
        (sss_cons (ss_if (sc_cmp (op_eqD hr.units) o2_eq (nomark _) (se_var 0) (se_int)) (sss_one (ss_ret (se_mkE X_NotWhole (hr.mono (by decide)) (sa_cons (se_var 1) (sa_nil))))) (sss_nil))
        (sss_cons (ss_if (sc_cmp (op_eqD hr.units) o2_eq (nomark _) (se_var 0) (se_int)) (sss_one (ss_ret (se_mkE X_Ringed (hr.mono (by decide)) (sa_cons (se_var 1) (sa_nil))))) (sss_nil))
        (sss_cons (ss_if (sc_cmp (op_eqD hr.units) o2_eq (nomark _) (se_var 0) (se_int)) (sss_one (ss_ret (se_mkE X_Unseen (hr.mono (by decide)) (sa_cons (se_var 1) (sa_nil))))) (sss_nil))
        (sss_cons (ss_if (sc_cmp (op_eqD hr.units) o2_eq (nomark _) (se_var 0) (se_int)) (sss_one (ss_ret (se_mkE0 T.m0_NothingDone))) (sss_nil))
        (sss_cons (ss_if (sc_cmp (op_eqD hr.units) o2_eq (nomark _) (se_var 0) (se_int)) (sss_one (ss_ret (se_mkE X_TooMany (hr.mono (by decide)) (sa_cons (se_var 1) (sa_nil))))) (sss_nil))
        (sss_cons (ss_if (sc_cmp (op_eqD hr.units) o2_eq (nomark _) (se_var 0) (se_int)) (sss_one (ss_ret (se_mkE X_BadCount (hr.mono (by decide)) (sa_cons (se_var 1) (sa_nil))))) (sss_nil))
        (sss_cons (ss_if (sc_cmp (op_eqD hr.units) o2_eq (nomark _) (se_var 0) (se_int)) (sss_one (ss_ret (se_mkE X_BadTerm (hr.mono (by decide)) (sa_cons (se_var 1) (sa_nil))))) (sss_nil))
        (sss_cons (ss_if (sc_cmp (op_eqD hr.units) o2_eq (nomark _) (se_var 0) (se_int)) (sss_one (ss_ret (se_mkE X_BadSaying (hr.mono (by decide)) (sa_cons (se_var 1) (sa_nil))))) (sss_nil))
        (sss_cons (ss_if (sc_cmp (op_eqD hr.units) o2_eq (nomark _) (se_var 0) (se_int)) (sss_one (ss_ret (se_mkE X_BadInlet (hr.mono (by decide)) (sa_cons (se_var 1) (sa_nil))))) (sss_nil))
        (sss_cons (ss_if (sc_cmp (op_eqD hr.units) o2_eq (nomark _) (se_var 0) (se_int)) (sss_one (ss_ret (se_mkE X_BadCourse (hr.mono (by decide)) (sa_cons (se_var 1) (sa_nil))))) (sss_nil))
        (sss_cons (ss_if (sc_cmp (op_eqD hr.units) o2_eq (nomark _) (se_var 0) (se_int)) (sss_one (ss_ret (se_mkE X_Lacking (hr.mono (by decide)) (sa_cons (se_var 1) (sa_nil))))) (sss_nil))
        (sss_cons (ss_if (sc_cmp (op_eqD hr.units) o2_eq (nomark _) (se_var 0) (se_int)) (sss_one (ss_ret (se_mkE X_BadClaim (hr.mono (by decide)) (sa_cons (se_var 1) (sa_nil))))) (sss_nil))
        (sss_cons (ss_if (sc_cmp (op_eqD hr.units) o2_eq (nomark _) (se_var 0) (se_int)) (sss_one (ss_ret (se_mkE X_BadTable (hr.mono (by decide)) (sa_cons (se_var 1) (sa_nil))))) (sss_nil))
        (sss_one (ss_ret (se_call0 G__law_other (hr.mono (by decide)) (sa_cons (se_var 0) (sa_cons (se_var 1) (sa_nil)))))))))))))))))))))))))
abbrev s__law_pick : Stmt := top 49
theorem sc__law_pick : FnScope ["_law_source_here", "_law_many", "_law_digit", "_law_value"] ["_law_source_here", "_law_many"] (defScope s__law_pick) := ⟨rfl, rfl, rfl, by decide +kernel, rfl, by decide +kernel, by decide +kernel⟩
theorem ok__law_pick (T : Tx K mg) (F : FunD K "_law_pick" "_law_pick" (defArgs s__law_pick) (defBody s__law_pick) (defScope s__law_pick) dvs [] fa fd) : FnOk P w K mg base (L2.CX P w) 1 fa fd ["_law_source_here", "_law_many"] (spB K 1 f__law_pick) := by
  have nd := sc__law_pick.nd
  refine fnB F sc__law_pick b__law_pick 2 1 rfl rfl fun cdv A outer s H E hr => ?_
  exact sss_cons (ss_if (sc_cmp op_gt o2_gt (nomark _) (se_ixS (i := 0) ix_all sv_ix (se_int)) (se_int)) (sss_cons (ss_set (i := 2) nd (se_bin op_mod o2_mod (se_Ty call_int1 co_int T.n_int PyProof.Rows.boot_int (sa_cons (se_ixS (i := 0) ix_all sv_ix (se_int)) (sa_nil))) (se_var 1)))
        (sss_cons (ss_setI (i := 0) (se_bin op_fdivW o2_div (se_ixS (i := 0) ix_all sv_ix (se_int)) (se_var 1)) (se_int) (hp := fun p q => pg_sub p q set_list))
        (sss_one (ss_ret (se_var 2))))) (sss_nil))
        (sss_cons (ss_setI (i := 0) (se_bin op_add_all o2_add (se_ixS (i := 0) ix_all sv_ix (se_int)) (se_int)) (se_int) (hp := fun p q => pg_sub p q set_list))
        (sss_cons (ss_set (i := 3) nd (se_bin op_mod o2_mod (se_Ty call_int1 co_int T.n_int PyProof.Rows.boot_int (sa_cons (se_bin op_mul_all o2_mul (se_bin op_add_all o2_add (se_ixS (i := 0) ix_all sv_ix (se_int)) (se_bin op_mul_all o2_mul (se_int) (se_ixS (i := 0) ix_all sv_ix (se_int)))) (se_int)) (sa_nil))) (se_int)))
        (sss_cons (ss_set (i := 3) nd (se_bin op_mod o2_mod (se_Ty call_int1 co_int T.n_int PyProof.Rows.boot_int (sa_cons (se_bin op_add_all o2_add (se_bin op_add_all o2_add (se_bin op_mul_all o2_mul (se_var 3) (se_var 3)) (se_bin op_mul_all o2_mul (se_int) (se_ixS (i := 0) ix_all sv_ix (se_int)))) (se_ixS (i := 0) ix_all sv_ix (se_int))) (sa_nil))) (se_int)))
        (sss_cons (ss_set (i := 3) nd (se_bin op_mod o2_mod (se_Ty call_int1 co_int T.n_int PyProof.Rows.boot_int (sa_cons (se_bin op_add_all o2_add (se_bin op_mul_all o2_mul (se_var 3) (se_int)) (se_int)) (sa_nil))) (se_int)))
        (sss_cons (ss_set (i := 3) nd (se_bin op_mod o2_mod (se_Ty call_int1 co_int T.n_int PyProof.Rows.boot_int (sa_cons (se_bin op_add_all o2_add (se_bin op_mul_all o2_mul (se_var 3) (se_var 3)) (se_var 3)) (sa_nil))) (se_int)))
        (sss_one (ss_ret (se_bin op_mod o2_mod (se_Ty call_int1 co_int T.n_int PyProof.Rows.boot_int (sa_cons (se_bin op_fdivW o2_div (se_var 3) (se_int)) (sa_nil))) (se_var 1)))))))))
abbrev s__law_source : Stmt := top 48
theorem sc__law_source : FnScope ["_law_script", "_law_place", "_law_cell", "_law_seed", "_law_one_here", "_law_number"] ["_law_script", "_law_place"] (defScope s__law_source) := ⟨rfl, rfl, rfl, by decide +kernel, rfl, by decide +kernel, by decide +kernel⟩
theorem ok__law_source (T : Tx K mg) (F : FunD K "_law_source" "_law_source" (defArgs s__law_source) (defBody s__law_source) (defScope s__law_source) dvs [] fa fd) : FnOk P w K mg base (L2.CX P w) 1 fa fd ["_law_script", "_law_place"] (spD K 2 f__law_source) := by
  have nd := sc__law_source.nd
  refine fnD F sc__law_source b__law_source 4 rfl fun cdv A outer s H E hr => ?_
  exact sss_cons (ss_set (i := 2) nd (se_if (sc_cmp op_lt_all o2_lt (nomark _) (se_var 1) (se_B1S (i := 0) call_len sv_len T.n_len boot_len)) (se_ixS (i := 0) ix_all sv_ix (se_var 1)) (se_bin op_add_all o2_add (se_bin op_mul_all o2_mul (se_int) (se_var 1)) (se_int))))
        (sss_cons (ss_set (i := 3) nd (se_bin op_mod o2_mod (se_Ty call_int1 co_int T.n_int PyProof.Rows.boot_int (sa_cons (se_bin op_add_all o2_add (se_bin op_mod o2_mod (se_Ty call_int1 co_int T.n_int PyProof.Rows.boot_int (sa_cons (se_var 2) (sa_nil))) (se_int)) (se_bin op_mul_all o2_mul (se_int) (se_var 1))) (sa_nil))) (se_int)))
        (sss_cons (ss_for (passes_of rfl) rfl (si_seq (se_slS (i := 0) sl_all sv_sl (so_none) (so_some (se_int)))) (sg_nm nd) (sss_one (ss_set (i := 3) nd (se_bin op_mod o2_mod (se_Ty call_int1 co_int T.n_int PyProof.Rows.boot_int (sa_cons (se_bin op_add_all o2_add (se_bin op_mul_all o2_mul (se_var 3) (se_int)) (se_bin op_mod o2_mod (se_Ty call_int1 co_int T.n_int PyProof.Rows.boot_int (sa_cons (se_var 4) (sa_nil))) (se_int))) (sa_nil))) (se_int)))))
        (sss_cons (ss_set (i := 5) nd (se_B call_abs co_abs T.n_abs PyProof.Rows.boot_abs (sa_cons (se_var 2) (sa_nil))))
        (sss_cons (ss_if (sc_cmp op_lt_all o2_lt (nomark _) (se_var 5) (se_bin op_pow o2_pow (se_int) (se_int))) (sss_one (ss_ret (se_lst (sa_cons (se_int) (sa_cons (se_var 3) (sa_cons (se_int) (sa_nil))))))) (sss_nil))
        (sss_cons (ss_if (sc_cmp op_gt o2_gt (nomark _) (se_bin op_shr o2_shr (se_var 5) (se_int)) (se_int)) (sss_one (ss_set (i := 5) nd (se_bin op_sub o2_sub (se_var 5) (se_bin op_shlW o2_shl (se_bin op_shr o2_shr (se_var 5) (se_int)) (se_int))))) (sss_nil))
        (sss_one (ss_ret (se_lst (sa_cons (se_var 5) (sa_cons (se_var 3) (sa_cons (se_int) (sa_nil))))))))))))
abbrev s__law_truth : Stmt := top 50
theorem sc__law_truth : FnScope ["_law_told", "_law_due"] ["_law_told", "_law_due"] (defScope s__law_truth) := ⟨rfl, rfl, rfl, by decide +kernel, rfl, by decide +kernel, by decide +kernel⟩
theorem ok__law_truth (T : Tx K mg) (F : FunD K "_law_truth" "_law_truth" (defArgs s__law_truth) (defBody s__law_truth) (defScope s__law_truth) dvs [] fa fd) : FnOk P w K mg base (L2.CX P w) 1 fa fd ["_law_told", "_law_due"] (spD K 2 f__law_truth) := by
  have nd := sc__law_truth.nd
  refine fnD F sc__law_truth b__law_truth 0 rfl fun cdv A outer s H E hr => ?_
  exact sss_one (ss_ret (se_and (se_isT (cs := cs0) T.i_cs (se_var 0) T.n_isinstance T.n_bool PyProof.Rows.boot_bool) (se_one (se_cmp (op_eqD hr.units) o2_eq (nomark _) (se_var 0) (se_var 1)))))
abbrev s_law : Stmt := top 55
theorem sc_law : FnScope ["_law_script", "_law_source_here", "_law_bare", "_law_way", "_law_thing", "_law_error", "_law_kinds_here", "_law_k"] ["_law_script"] (defScope s_law) := ⟨rfl, rfl, rfl, by decide +kernel, rfl, by decide +kernel, by decide +kernel⟩
theorem ok_law (T : Tx K mg) (G__law_borne : DefOk P w K mg base 1 "_law_borne" 2 [] f__law_borne) (G__law_kinds : DefOk P w K mg base 1 "_law_kinds" 1 [] f__law_kinds) (G__law_one : DefOk P w K mg base 6 "_law_one" 2 [] f__law_one) (G__law_pick : DefB P w K mg base 1 "_law_pick" 1 f__law_pick) (G__law_source : DefOk P w K mg base 1 "_law_source" 2 [] f__law_source) (G__law_truth : DefOk P w K mg base 1 "_law_truth" 2 [] f__law_truth) (F : FunD K "law" "law" (defArgs s_law) (defBody s_law) (defScope s_law) dvs [] fa fd) : FnOk P w K mg base (L2.CX P w) 8 fa fd ["_law_script"] (spD K 1 f_law) := by
  have nd := sc_law.nd
  refine fnD F sc_law b_law 7 rfl fun cdv A outer s H E hr => ?_
  exact sss_cons (ss_set (i := 1) nd (se_call0 G__law_source (hr.mono (by decide)) (sa_cons (se_var 0) (sa_cons (se_int) (sa_nil)))))
        (sss_cons (ss_set (i := 2) nd (se_tup (sa_cons (se_int) (sa_cons (se_int) (sa_cons (se_int) (sa_cons (se_int) (sa_nil)))))))
        (sss_cons (ss_for (passes_of rfl) rfl (si_rng1 T.n_range (sa_cons (se_int) (sa_nil))) (sg_nm nd) (sss_cons (ss_set (i := 4) nd (se_ix ix_all o2_ix (se_lst (sa_cons (se_str) (sa_cons (se_int) (sa_cons (se_un un_neg o1_neg (se_int)) (sa_cons (se_non) (sa_cons (se_tup (sa_cons (se_str) (sa_cons (se_int) (sa_nil)))) (sa_cons (se_str) (sa_cons (se_bin op_pow o2_pow (se_int) (se_int)) (sa_nil))))))))) (se_callB (i := 1) G__law_pick (hr.mono (by decide)) (sa_cons (se_int) (sa_nil)))))
        (sss_cons (ss_set (i := 5) nd (se_call0 G__law_one (hr.mono (by decide)) (sa_cons (se_var 3) (sa_cons (se_var 4) (sa_nil)))))
        (sss_cons (ss_if (sc_w (sw_or (sc_not (sc_val (se_isIT T.xa T.xi_ValueError (se_var 5) T.n_isinstance T.n_ValueError PyProof.Rows.Boot.«ValueError»))) (sw_or1 (sc_not (sc_val (se_isI T.xa T.xi_NeedforthError (se_var 5) T.n_isinstance T.gx_NeedforthError)))))) (sss_one (ss_ret (se_bl))) (sss_nil))
        (sss_cons (ss_if (sc_w (sw_and (sc_cmp op_notIn_seq o2_nin (by rfl) (se_var 3) (se_var 2)) (sw_and1 (sc_cmp (op_neD hr.units) o2_ne (nomark _) (se_call0 G__law_borne (hr.mono (by decide)) (sa_cons (se_var 3) (sa_cons (se_var 5) (sa_nil)))) (se_var 4))))) (sss_one (ss_ret (se_bl))) (sss_nil))
        (sss_cons (ss_set (i := 6) nd (se_call0 G__law_kinds (hr.mono (by decide)) (sa_cons (se_var 5) (sa_nil))))
        (sss_cons (ss_if (sc_not (sc_val (se_B (cr_all rfl) co_all T.n_all PyProof.Rows.boot_all (sa_cons (se_lc rfl nd (si_rng1 T.n_range (sa_cons (se_int) (sa_nil))) (blkOk_by (own := [("_law_k", 7)]) (N := ["_law_script", "_law_source_here", "_law_bare", "_law_way", "_law_thing", "_law_error", "_law_kinds_here", "_law_k"]) (sc := defScope s_law) (by decide +kernel)) rfl (fun _ => sg_nm nd) (fun _ => se_call0 G__law_truth (hr.mono (by decide)) (sa_cons (se_ixS (i := 6) ix_all sv_ix (se_var 7)) (sa_cons (se_cmp (op_eqD hr.units) o2_eq (nomark _) (se_var 7) (se_var 3)) (sa_nil))))) (sa_nil))))) (sss_one (ss_ret (se_bl))) (sss_nil))
        (sss_cons (ss_if (sc_not (sc_val (se_call0 G__law_truth (hr.mono (by decide)) (sa_cons (se_isI T.xa T.xi_Unreadable (se_var 5) T.n_isinstance T.gx_Unreadable) (sa_cons (se_cmp op_lt_all o2_lt (nomark _) (se_var 3) (se_int)) (sa_nil)))))) (sss_one (ss_ret (se_bl))) (sss_nil))
        (sss_one (ss_if (sc_not (sc_val (se_call0 G__law_truth (hr.mono (by decide)) (sa_cons (se_isI T.xa T.xi_Impossible (se_var 5) T.n_isinstance T.gx_Impossible) (sa_cons (se_ch op_le_all o2_le op_lt_all o2_lt (se_int) (se_var 3) (se_int)) (sa_nil)))))) (sss_one (ss_ret (se_bl))) (sss_nil)))))))))))
        (sss_one (ss_ret (se_and (se_not (se_isI T.xa T.xi_Impossible (se_mkE0 T.m0_Unreadable) T.n_isinstance T.gx_Impossible)) (se_one (se_isI T.xa T.xi_NeedforthError (se_mkE0 T.m0_Impossible) T.n_isinstance T.gx_NeedforthError)))))))
end
end NF

set_option Elab.async false
set_option linter.all false
set_option maxRecDepth 100000
set_option maxHeartbeats 0
namespace NF
open PySem PySem.Spec PyProof.Rows L2 SL
def file0 : Str := "/claim/cut.py"
def D__law_borne : Df := { at_ := fun K => He.ga K "_law_borne", name := "_law_borne", qual := "_law_borne", params := defArgs s__law_borne, body := defBody s__law_borne, scope := defScope s__law_borne, dfl := [] }
def D__law_kinds : Df := { at_ := fun K => He.ga K "_law_kinds", name := "_law_kinds", qual := "_law_kinds", params := defArgs s__law_kinds, body := defBody s__law_kinds, scope := defScope s__law_kinds, dfl := [] }
def D__law_other : Df := { at_ := fun K => He.ga K "_law_other", name := "_law_other", qual := "_law_other", params := defArgs s__law_other, body := defBody s__law_other, scope := defScope s__law_other, dfl := [] }
def D__law_one : Df := { at_ := fun K => He.ga K "_law_one", name := "_law_one", qual := "_law_one", params := defArgs s__law_one, body := defBody s__law_one, scope := defScope s__law_one, dfl := [] }
def D__law_pick : Df := { at_ := fun K => He.ga K "_law_pick", name := "_law_pick", qual := "_law_pick", params := defArgs s__law_pick, body := defBody s__law_pick, scope := defScope s__law_pick, dfl := [] }
def D__law_source : Df := { at_ := fun K => He.ga K "_law_source", name := "_law_source", qual := "_law_source", params := defArgs s__law_source, body := defBody s__law_source, scope := defScope s__law_source, dfl := [] }
def D__law_truth : Df := { at_ := fun K => He.ga K "_law_truth", name := "_law_truth", qual := "_law_truth", params := defArgs s__law_truth, body := defBody s__law_truth, scope := defScope s__law_truth, dfl := [] }
def D_law : Df := { at_ := fun K => He.ga K "law", name := "law", qual := "law", params := defArgs s_law, body := defBody s_law, scope := defScope s_law, dfl := [] }
def D_x_AtOdds : Df := { at_ := fun K => He.ma K (He.ga K "AtOdds") "__init__", name := "__init__", qual := "AtOdds.__init__", params := defArgs s_x_AtOdds, body := defBody s_x_AtOdds, scope := defScope s_x_AtOdds, dfl := [], free := ["__class__"] }
def D_x_BadLine : Df := { at_ := fun K => He.ma K (He.ga K "BadLine") "__init__", name := "__init__", qual := "BadLine.__init__", params := defArgs s_x_BadLine, body := defBody s_x_BadLine, scope := defScope s_x_BadLine, dfl := [], free := ["__class__"] }
def D_x_BadText : Df := { at_ := fun K => He.ma K (He.ga K "BadText") "__init__", name := "__init__", qual := "BadText.__init__", params := defArgs s_x_BadText, body := defBody s_x_BadText, scope := defScope s_x_BadText, dfl := [], free := ["__class__"] }
def D_x_NoPace : Df := { at_ := fun K => He.ma K (He.ga K "NoPace") "__init__", name := "__init__", qual := "NoPace.__init__", params := defArgs s_x_NoPace, body := defBody s_x_NoPace, scope := defScope s_x_NoPace, dfl := [], free := ["__class__"] }
def D_x_NoWay : Df := { at_ := fun K => He.ma K (He.ga K "NoWay") "__init__", name := "__init__", qual := "NoWay.__init__", params := defArgs s_x_NoWay, body := defBody s_x_NoWay, scope := defScope s_x_NoWay, dfl := [], free := ["__class__"] }
def D_x_NotShift : Df := { at_ := fun K => He.ma K (He.ga K "NotShift") "__init__", name := "__init__", qual := "NotShift.__init__", params := defArgs s_x_NotShift, body := defBody s_x_NotShift, scope := defScope s_x_NotShift, dfl := [], free := ["__class__"] }
def D_x_NotWhole : Df := { at_ := fun K => He.ma K (He.ga K "NotWhole") "__init__", name := "__init__", qual := "NotWhole.__init__", params := defArgs s_x_NotWhole, body := defBody s_x_NotWhole, scope := defScope s_x_NotWhole, dfl := [], free := ["__class__"] }
def D_x_Ringed : Df := { at_ := fun K => He.ma K (He.ga K "Ringed") "__init__", name := "__init__", qual := "Ringed.__init__", params := defArgs s_x_Ringed, body := defBody s_x_Ringed, scope := defScope s_x_Ringed, dfl := [], free := ["__class__"] }
def D_x_TooMany : Df := { at_ := fun K => He.ma K (He.ga K "TooMany") "__init__", name := "__init__", qual := "TooMany.__init__", params := defArgs s_x_TooMany, body := defBody s_x_TooMany, scope := defScope s_x_TooMany, dfl := [], free := ["__class__"] }
def D_x_Unseen : Df := { at_ := fun K => He.ma K (He.ga K "Unseen") "__init__", name := "__init__", qual := "Unseen.__init__", params := defArgs s_x_Unseen, body := defBody s_x_Unseen, scope := defScope s_x_Unseen, dfl := [], free := ["__class__"] }
def D_x_WrongName : Df := { at_ := fun K => He.ma K (He.ga K "WrongName") "__init__", name := "__init__", qual := "WrongName.__init__", params := defArgs s_x_WrongName, body := defBody s_x_WrongName, scope := defScope s_x_WrongName, dfl := [], free := ["__class__"] }
def D_x_WrongNumber : Df := { at_ := fun K => He.ma K (He.ga K "WrongNumber") "__init__", name := "__init__", qual := "WrongNumber.__init__", params := defArgs s_x_WrongNumber, body := defBody s_x_WrongNumber, scope := defScope s_x_WrongNumber, dfl := [], free := ["__class__"] }
def D_x_WrongThing : Df := { at_ := fun K => He.ma K (He.ga K "WrongThing") "__init__", name := "__init__", qual := "WrongThing.__init__", params := defArgs s_x_WrongThing, body := defBody s_x_WrongThing, scope := defScope s_x_WrongThing, dfl := [], free := ["__class__"] }
def D_x_WrongWord : Df := { at_ := fun K => He.ma K (He.ga K "WrongWord") "__init__", name := "__init__", qual := "WrongWord.__init__", params := defArgs s_x_WrongWord, body := defBody s_x_WrongWord, scope := defScope s_x_WrongWord, dfl := [], free := ["__class__"] }
def fn : List Df := [D__law_borne, D__law_kinds, D__law_other, D__law_one, D__law_pick, D__law_source, D__law_truth, D_law, D_x_AtOdds, D_x_BadLine, D_x_BadText, D_x_NoPace, D_x_NoWay, D_x_NotShift, D_x_NotWhole, D_x_Ringed, D_x_TooMany, D_x_Unseen, D_x_WrongName, D_x_WrongNumber, D_x_WrongThing, D_x_WrongWord]
def fa : List Ft := [pFree "ValueError", pFree "abs", pFree "all", pFree "bool", pFree "int", pFree "isinstance", pFree "len", pFree "range", pFree "super", pGlo "AtOdds", pGlo "BadBound", pGlo "BadClaim", pGlo "BadCount", pGlo "BadCounts", pGlo "BadCourse", pGlo "BadCourses", pGlo "BadDeed", pGlo "BadFact", pGlo "BadInlet", pGlo "BadLine", pGlo "BadMaker", pGlo "BadMakers", pGlo "BadName", pGlo "BadPace", pGlo "BadPaces", pGlo "BadPlan", pGlo "BadRow", pGlo "BadSaying", pGlo "BadSight", pGlo "BadTable", pGlo "BadTables", pGlo "BadTerm", pGlo "BadText", pGlo "Impossible", pGlo "Lacking", pGlo "Missing", pGlo "NeedforthError", pGlo "NoClaim", pGlo "NoHole", pGlo "NoPace", pGlo "NoWay", pGlo "NoWeb", pGlo "NotShift", pGlo "NotWhole", pGlo "NothingDone", pGlo "Open", pGlo "Ringed", pGlo "TooMany", pGlo "Twice", pGlo "Unreadable", pGlo "Unseen", pIsI "AtOdds" xy_AtOdds xall, pIsI "BadBound" xy_BadBound xall, pIsI "BadClaim" xy_BadClaim xall, pIsI "BadCount" xy_BadCount xall, pIsI "BadCounts" xy_BadCounts xall, pIsI "BadCourse" xy_BadCourse xall, pIsI "BadCourses" xy_BadCourses xall, pIsI "BadDeed" xy_BadDeed xall, pIsI "BadFact" xy_BadFact xall, pIsI "BadInlet" xy_BadInlet xall, pIsI "BadLine" xy_BadLine xall, pIsI "BadMaker" xy_BadMaker xall, pIsI "BadMakers" xy_BadMakers xall, pIsI "BadName" xy_BadName xall, pIsI "BadPace" xy_BadPace xall, pIsI "BadPaces" xy_BadPaces xall, pIsI "BadPlan" xy_BadPlan xall, pIsI "BadRow" xy_BadRow xall, pIsI "BadSaying" xy_BadSaying xall, pIsI "BadSight" xy_BadSight xall, pIsI "BadTable" xy_BadTable xall, pIsI "BadTables" xy_BadTables xall, pIsI "BadTerm" xy_BadTerm xall, pIsI "BadText" xy_BadText xall, pIsI "Impossible" xy_Impossible xall, pIsI "Lacking" xy_Lacking xall, pIsI "Missing" xy_Missing xall, pIsI "NeedforthError" xy_NeedforthError xall, pIsI "NoClaim" xy_NoClaim xall, pIsI "NoHole" xy_NoHole xall, pIsI "NoPace" xy_NoPace xall, pIsI "NoWay" xy_NoWay xall, pIsI "NoWeb" xy_NoWeb xall, pIsI "NotShift" xy_NotShift xall, pIsI "NotWhole" xy_NotWhole xall, pIsI "NothingDone" xy_NothingDone xall, pIsI "Open" xy_Open xall, pIsI "Ringed" xy_Ringed xall, pIsI "TooMany" xy_TooMany xall, pIsI "Twice" xy_Twice xall, pIsI "Unreadable" xy_Unreadable xall, pIsI "Unseen" xy_Unseen xall, pIsIT "ValueError" xy_ValueError xall, pMkE0 "BadPace", pMkE0 "Impossible", pMkE0 "NoHole", pMkE0 "NoWeb", pMkE0 "NothingDone", pMkE0 "Unreadable", pXfs xf_line "line", pXfs xf_name "name", pXfs xf_number "number", pXfs xf_place "place", pXfs xf_row "row", pXfs xf_stage "stage", pXfs xf_thing "thing", pXfs xf_word "word", pExcCs xall, pSupD "AtOdds" (D_x_AtOdds).at_ file0, pExc "AtOdds" "thing" "AtOdds", pSupD "BadLine" (D_x_BadLine).at_ file0, pExc "BadLine" "line" "BadLine", pSupD "BadText" (D_x_BadText).at_ file0, pExc "BadText" "place" "BadText", pSupD "NoPace" (D_x_NoPace).at_ file0, pExc "NoPace" "stage" "NoPace", pSupD "NoWay" (D_x_NoWay).at_ file0, pExc "NoWay" "thing" "NoWay", pSupD "NotShift" (D_x_NotShift).at_ file0, pExc "NotShift" "row" "NotShift", pSupD "NotWhole" (D_x_NotWhole).at_ file0, pExc "NotWhole" "row" "NotWhole", pSupD "Ringed" (D_x_Ringed).at_ file0, pExc "Ringed" "row" "Ringed", pSupD "TooMany" (D_x_TooMany).at_ file0, pExc "TooMany" "word" "TooMany", pSupD "Unseen" (D_x_Unseen).at_ file0, pExc "Unseen" "number" "Unseen", pSupD "WrongName" (D_x_WrongName).at_ file0, pExc "Missing" "name" "WrongName", pExc "Open" "name" "WrongName", pExc "Twice" "name" "WrongName", pSupD "WrongNumber" (D_x_WrongNumber).at_ file0, pExc "BadCounts" "number" "WrongNumber", pExc "BadCourses" "number" "WrongNumber", pExc "BadDeed" "number" "WrongNumber", pExc "BadFact" "number" "WrongNumber", pExc "BadMakers" "number" "WrongNumber", pExc "BadName" "number" "WrongNumber", pExc "BadPaces" "number" "WrongNumber", pExc "BadPlan" "number" "WrongNumber", pExc "BadRow" "number" "WrongNumber", pExc "BadSight" "number" "WrongNumber", pExc "BadTables" "number" "WrongNumber", pExc "NoClaim" "number" "WrongNumber", pSupD "WrongThing" (D_x_WrongThing).at_ file0, pExc "BadClaim" "thing" "WrongThing", pExc "BadCount" "thing" "WrongThing", pExc "BadCourse" "thing" "WrongThing", pExc "BadInlet" "thing" "WrongThing", pExc "BadSaying" "thing" "WrongThing", pExc "BadTerm" "thing" "WrongThing", pExc "Lacking" "thing" "WrongThing", pSupD "WrongWord" (D_x_WrongWord).at_ file0, pExc "BadBound" "word" "WrongWord", pExc "BadMaker" "word" "WrongWord", pExc "BadTable" "word" "WrongWord", pGlo "_law_borne", pGlo "_law_kinds", pGlo "_law_other", pGlo "_law_one", pGlo "_law_pick", pGlo "_law_source", pGlo "_law_truth", pGlo "law"]
theorem facts {P : Program} {w : World} {K : PySem.W.Frag} {h : Heap} {mg : Str → Option Value} {f : Addr} (X : K.In h) (G : h.Ns mainGlobals mg) (hfa : mg ("law" : Str) = some (.ref f)) (c : SaysP fa fn K) (hsup : (P.main.scope.names.lookup ("super" : Str)).isSome = false) (hfile : ((P.main.file : Str) == file0) = true) :
    ∃ fd : FuncData, (∀ (s : Shared) (v : Value), BindsTo s fd ⟨[v], []⟩ [("_law_script", v)]) ∧ ∀ base : Heap, K.In base → base.Ns mainGlobals mg → FnOk P w K mg base (L2.CX P w) 8 f fd ["_law_script"] (spD K 1 f_law) := by
  obtain ⟨fd_x_AtOdds, F_x_AtOdds, kp_x_AtOdds⟩ := c.defS 8 (d := D_x_AtOdds) (C := "AtOdds") (file := file0) (c.fact 109 (f := pSupD "AtOdds" (D_x_AtOdds).at_ file0) rfl) hfile
  obtain ⟨fd_x_BadLine, F_x_BadLine, kp_x_BadLine⟩ := c.defS 9 (d := D_x_BadLine) (C := "BadLine") (file := file0) (c.fact 111 (f := pSupD "BadLine" (D_x_BadLine).at_ file0) rfl) hfile
  obtain ⟨fd_x_BadText, F_x_BadText, kp_x_BadText⟩ := c.defS 10 (d := D_x_BadText) (C := "BadText") (file := file0) (c.fact 113 (f := pSupD "BadText" (D_x_BadText).at_ file0) rfl) hfile
  obtain ⟨fd_x_NoPace, F_x_NoPace, kp_x_NoPace⟩ := c.defS 11 (d := D_x_NoPace) (C := "NoPace") (file := file0) (c.fact 115 (f := pSupD "NoPace" (D_x_NoPace).at_ file0) rfl) hfile
  obtain ⟨fd_x_NoWay, F_x_NoWay, kp_x_NoWay⟩ := c.defS 12 (d := D_x_NoWay) (C := "NoWay") (file := file0) (c.fact 117 (f := pSupD "NoWay" (D_x_NoWay).at_ file0) rfl) hfile
  obtain ⟨fd_x_NotShift, F_x_NotShift, kp_x_NotShift⟩ := c.defS 13 (d := D_x_NotShift) (C := "NotShift") (file := file0) (c.fact 119 (f := pSupD "NotShift" (D_x_NotShift).at_ file0) rfl) hfile
  obtain ⟨fd_x_NotWhole, F_x_NotWhole, kp_x_NotWhole⟩ := c.defS 14 (d := D_x_NotWhole) (C := "NotWhole") (file := file0) (c.fact 121 (f := pSupD "NotWhole" (D_x_NotWhole).at_ file0) rfl) hfile
  obtain ⟨fd_x_Ringed, F_x_Ringed, kp_x_Ringed⟩ := c.defS 15 (d := D_x_Ringed) (C := "Ringed") (file := file0) (c.fact 123 (f := pSupD "Ringed" (D_x_Ringed).at_ file0) rfl) hfile
  obtain ⟨fd_x_TooMany, F_x_TooMany, kp_x_TooMany⟩ := c.defS 16 (d := D_x_TooMany) (C := "TooMany") (file := file0) (c.fact 125 (f := pSupD "TooMany" (D_x_TooMany).at_ file0) rfl) hfile
  obtain ⟨fd_x_Unseen, F_x_Unseen, kp_x_Unseen⟩ := c.defS 17 (d := D_x_Unseen) (C := "Unseen") (file := file0) (c.fact 127 (f := pSupD "Unseen" (D_x_Unseen).at_ file0) rfl) hfile
  obtain ⟨fd_x_WrongName, F_x_WrongName, kp_x_WrongName⟩ := c.defS 18 (d := D_x_WrongName) (C := "WrongName") (file := file0) (c.fact 129 (f := pSupD "WrongName" (D_x_WrongName).at_ file0) rfl) hfile
  obtain ⟨fd_x_WrongNumber, F_x_WrongNumber, kp_x_WrongNumber⟩ := c.defS 19 (d := D_x_WrongNumber) (C := "WrongNumber") (file := file0) (c.fact 133 (f := pSupD "WrongNumber" (D_x_WrongNumber).at_ file0) rfl) hfile
  obtain ⟨fd_x_WrongThing, F_x_WrongThing, kp_x_WrongThing⟩ := c.defS 20 (d := D_x_WrongThing) (C := "WrongThing") (file := file0) (c.fact 146 (f := pSupD "WrongThing" (D_x_WrongThing).at_ file0) rfl) hfile
  obtain ⟨fd_x_WrongWord, F_x_WrongWord, kp_x_WrongWord⟩ := c.defS 21 (d := D_x_WrongWord) (C := "WrongWord") (file := file0) (c.fact 154 (f := pSupD "WrongWord" (D_x_WrongWord).at_ file0) rfl) hfile
  obtain ⟨fd__law_borne, F__law_borne⟩ := c.def_ 0 (d := D__law_borne) rfl
  obtain ⟨fd__law_kinds, F__law_kinds⟩ := c.def_ 1 (d := D__law_kinds) rfl
  obtain ⟨fd__law_other, F__law_other⟩ := c.def_ 2 (d := D__law_other) rfl
  obtain ⟨fd__law_one, F__law_one⟩ := c.def_ 3 (d := D__law_one) rfl
  obtain ⟨fd__law_pick, F__law_pick⟩ := c.def_ 4 (d := D__law_pick) rfl
  obtain ⟨fd__law_source, F__law_source⟩ := c.def_ 5 (d := D__law_source) rfl
  obtain ⟨fd__law_truth, F__law_truth⟩ := c.def_ 6 (d := D__law_truth) rfl
  obtain ⟨fd_law, F_law⟩ := c.def_ 7 (d := D_law) rfl
  have e := hfa.symm.trans (He.glo_ok X G (c.fact 165 (f := pGlo "law") rfl))
  cases e
  have bl := FunD.bindsA (ps := ["_law_script"]) F_law fun _ _ _ _ _ _ us hl => match us, hl with | [_], _ => rfl
  refine ⟨fd_law, fun s v => bl s [v] rfl, fun base _ _ => ?_⟩
  have T : Tx K mg := by
    refine ⟨He.free_ok X G (c.fact 0 (f := pFree "ValueError") rfl), He.free_ok X G (c.fact 1 (f := pFree "abs") rfl), He.free_ok X G (c.fact 2 (f := pFree "all") rfl), He.free_ok X G (c.fact 3 (f := pFree "bool") rfl), He.free_ok X G (c.fact 4 (f := pFree "int") rfl), He.free_ok X G (c.fact 5 (f := pFree "isinstance") rfl), He.free_ok X G (c.fact 6 (f := pFree "len") rfl), He.free_ok X G (c.fact 7 (f := pFree "range") rfl), He.free_ok X G (c.fact 8 (f := pFree "super") rfl), ?_, He.glo_ok X G (c.fact 9 (f := pGlo "AtOdds") rfl), He.glo_ok X G (c.fact 10 (f := pGlo "BadBound") rfl), He.glo_ok X G (c.fact 11 (f := pGlo "BadClaim") rfl), He.glo_ok X G (c.fact 12 (f := pGlo "BadCount") rfl), He.glo_ok X G (c.fact 13 (f := pGlo "BadCounts") rfl), He.glo_ok X G (c.fact 14 (f := pGlo "BadCourse") rfl), He.glo_ok X G (c.fact 15 (f := pGlo "BadCourses") rfl), He.glo_ok X G (c.fact 16 (f := pGlo "BadDeed") rfl), He.glo_ok X G (c.fact 17 (f := pGlo "BadFact") rfl), He.glo_ok X G (c.fact 18 (f := pGlo "BadInlet") rfl), He.glo_ok X G (c.fact 19 (f := pGlo "BadLine") rfl), He.glo_ok X G (c.fact 20 (f := pGlo "BadMaker") rfl), He.glo_ok X G (c.fact 21 (f := pGlo "BadMakers") rfl), He.glo_ok X G (c.fact 22 (f := pGlo "BadName") rfl), He.glo_ok X G (c.fact 23 (f := pGlo "BadPace") rfl), He.glo_ok X G (c.fact 24 (f := pGlo "BadPaces") rfl), He.glo_ok X G (c.fact 25 (f := pGlo "BadPlan") rfl), He.glo_ok X G (c.fact 26 (f := pGlo "BadRow") rfl), He.glo_ok X G (c.fact 27 (f := pGlo "BadSaying") rfl), He.glo_ok X G (c.fact 28 (f := pGlo "BadSight") rfl), He.glo_ok X G (c.fact 29 (f := pGlo "BadTable") rfl), He.glo_ok X G (c.fact 30 (f := pGlo "BadTables") rfl), He.glo_ok X G (c.fact 31 (f := pGlo "BadTerm") rfl), He.glo_ok X G (c.fact 32 (f := pGlo "BadText") rfl), He.glo_ok X G (c.fact 33 (f := pGlo "Impossible") rfl), He.glo_ok X G (c.fact 34 (f := pGlo "Lacking") rfl), He.glo_ok X G (c.fact 35 (f := pGlo "Missing") rfl), He.glo_ok X G (c.fact 36 (f := pGlo "NeedforthError") rfl), He.glo_ok X G (c.fact 37 (f := pGlo "NoClaim") rfl), He.glo_ok X G (c.fact 38 (f := pGlo "NoHole") rfl), He.glo_ok X G (c.fact 39 (f := pGlo "NoPace") rfl), He.glo_ok X G (c.fact 40 (f := pGlo "NoWay") rfl), He.glo_ok X G (c.fact 41 (f := pGlo "NoWeb") rfl), He.glo_ok X G (c.fact 42 (f := pGlo "NotShift") rfl), He.glo_ok X G (c.fact 43 (f := pGlo "NotWhole") rfl), He.glo_ok X G (c.fact 44 (f := pGlo "NothingDone") rfl), He.glo_ok X G (c.fact 45 (f := pGlo "Open") rfl), He.glo_ok X G (c.fact 46 (f := pGlo "Ringed") rfl), He.glo_ok X G (c.fact 47 (f := pGlo "TooMany") rfl), He.glo_ok X G (c.fact 48 (f := pGlo "Twice") rfl), He.glo_ok X G (c.fact 49 (f := pGlo "Unreadable") rfl), He.glo_ok X G (c.fact 50 (f := pGlo "Unseen") rfl), isI_of (c.fact 51 (f := pIsI "AtOdds" xy_AtOdds xall) rfl), isI_of (c.fact 52 (f := pIsI "BadBound" xy_BadBound xall) rfl), isI_of (c.fact 53 (f := pIsI "BadClaim" xy_BadClaim xall) rfl), isI_of (c.fact 54 (f := pIsI "BadCount" xy_BadCount xall) rfl), isI_of (c.fact 55 (f := pIsI "BadCounts" xy_BadCounts xall) rfl), isI_of (c.fact 56 (f := pIsI "BadCourse" xy_BadCourse xall) rfl), isI_of (c.fact 57 (f := pIsI "BadCourses" xy_BadCourses xall) rfl), isI_of (c.fact 58 (f := pIsI "BadDeed" xy_BadDeed xall) rfl), isI_of (c.fact 59 (f := pIsI "BadFact" xy_BadFact xall) rfl), isI_of (c.fact 60 (f := pIsI "BadInlet" xy_BadInlet xall) rfl), isI_of (c.fact 61 (f := pIsI "BadLine" xy_BadLine xall) rfl), isI_of (c.fact 62 (f := pIsI "BadMaker" xy_BadMaker xall) rfl), isI_of (c.fact 63 (f := pIsI "BadMakers" xy_BadMakers xall) rfl), isI_of (c.fact 64 (f := pIsI "BadName" xy_BadName xall) rfl), isI_of (c.fact 65 (f := pIsI "BadPace" xy_BadPace xall) rfl), isI_of (c.fact 66 (f := pIsI "BadPaces" xy_BadPaces xall) rfl), isI_of (c.fact 67 (f := pIsI "BadPlan" xy_BadPlan xall) rfl), isI_of (c.fact 68 (f := pIsI "BadRow" xy_BadRow xall) rfl), isI_of (c.fact 69 (f := pIsI "BadSaying" xy_BadSaying xall) rfl), isI_of (c.fact 70 (f := pIsI "BadSight" xy_BadSight xall) rfl), isI_of (c.fact 71 (f := pIsI "BadTable" xy_BadTable xall) rfl), isI_of (c.fact 72 (f := pIsI "BadTables" xy_BadTables xall) rfl), isI_of (c.fact 73 (f := pIsI "BadTerm" xy_BadTerm xall) rfl), isI_of (c.fact 74 (f := pIsI "BadText" xy_BadText xall) rfl), isI_of (c.fact 75 (f := pIsI "Impossible" xy_Impossible xall) rfl), isI_of (c.fact 76 (f := pIsI "Lacking" xy_Lacking xall) rfl), isI_of (c.fact 77 (f := pIsI "Missing" xy_Missing xall) rfl), isI_of (c.fact 78 (f := pIsI "NeedforthError" xy_NeedforthError xall) rfl), isI_of (c.fact 79 (f := pIsI "NoClaim" xy_NoClaim xall) rfl), isI_of (c.fact 80 (f := pIsI "NoHole" xy_NoHole xall) rfl), isI_of (c.fact 81 (f := pIsI "NoPace" xy_NoPace xall) rfl), isI_of (c.fact 82 (f := pIsI "NoWay" xy_NoWay xall) rfl), isI_of (c.fact 83 (f := pIsI "NoWeb" xy_NoWeb xall) rfl), isI_of (c.fact 84 (f := pIsI "NotShift" xy_NotShift xall) rfl), isI_of (c.fact 85 (f := pIsI "NotWhole" xy_NotWhole xall) rfl), isI_of (c.fact 86 (f := pIsI "NothingDone" xy_NothingDone xall) rfl), isI_of (c.fact 87 (f := pIsI "Open" xy_Open xall) rfl), isI_of (c.fact 88 (f := pIsI "Ringed" xy_Ringed xall) rfl), isI_of (c.fact 89 (f := pIsI "TooMany" xy_TooMany xall) rfl), isI_of (c.fact 90 (f := pIsI "Twice" xy_Twice xall) rfl), isI_of (c.fact 91 (f := pIsI "Unreadable" xy_Unreadable xall) rfl), isI_of (c.fact 92 (f := pIsI "Unseen" xy_Unseen xall) rfl), isIT_of (c.fact 93 (f := pIsIT "ValueError" xy_ValueError xall) rfl), mkE0_of (c.fact 94 (f := pMkE0 "BadPace") rfl) (He.glo_ok X G (c.fact 23 (f := pGlo "BadPace") rfl)), mkE0_of (c.fact 95 (f := pMkE0 "Impossible") rfl) (He.glo_ok X G (c.fact 33 (f := pGlo "Impossible") rfl)), mkE0_of (c.fact 96 (f := pMkE0 "NoHole") rfl) (He.glo_ok X G (c.fact 38 (f := pGlo "NoHole") rfl)), mkE0_of (c.fact 97 (f := pMkE0 "NoWeb") rfl) (He.glo_ok X G (c.fact 41 (f := pGlo "NoWeb") rfl)), mkE0_of (c.fact 98 (f := pMkE0 "NothingDone") rfl) (He.glo_ok X G (c.fact 44 (f := pGlo "NothingDone") rfl)), mkE0_of (c.fact 99 (f := pMkE0 "Unreadable") rfl) (He.glo_ok X G (c.fact 49 (f := pGlo "Unreadable") rfl)), xfs_of (c.fact 100 (f := pXfs xf_line "line") rfl), xfs_of (c.fact 101 (f := pXfs xf_name "name") rfl), xfs_of (c.fact 102 (f := pXfs xf_number "number") rfl), xfs_of (c.fact 103 (f := pXfs xf_place "place") rfl), xfs_of (c.fact 104 (f := pXfs xf_row "row") rfl), xfs_of (c.fact 105 (f := pXfs xf_stage "stage") rfl), xfs_of (c.fact 106 (f := pXfs xf_thing "thing") rfl), xfs_of (c.fact 107 (f := pXfs xf_word "word") rfl), excCs_of (c.fact 108 (f := pExcCs xall) rfl)⟩
    · intro C hC
      simp only [cs0, List.mem_cons, List.not_mem_nil, or_false] at hC
  have O_x_AtOdds : FnOk P w K mg base (L2.CX P w) 2 _ _ _ (spX P K (He.ga K "AtOdds") "thing" (fun _ _ => True)) := fnX F_x_AtOdds sc_x_AtOdds T.n_super (fun A outer s0 H E hr => txt_str)
  have X_AtOdds : ExcOk P w K mg base 2 "AtOdds" "thing" okT := excOk_of (c.fact 110 (f := pExc "AtOdds" "thing" "AtOdds") rfl) hsup O_x_AtOdds (FunS.binds (ps := ["self", "thing"]) F_x_AtOdds fun _ _ _ _ _ us hl => match us, hl with | [_, _], _ => rfl) (He.glo_ok X G (c.fact 9 (f := pGlo "AtOdds") rfl)) (fun _ _ _ _ _ _ _ => trivial)
  have O_x_BadLine : FnOk P w K mg base (L2.CX P w) 2 _ _ _ (spX P K (He.ga K "BadLine") "line" (okSV K)) := fnX F_x_BadLine sc_x_BadLine T.n_super (fun A outer s0 H E hr => txt_js (txps_cons (txp_str (by decide +kernel)) (txps_cons (txp_var hr rfl (Or.inl rfl)) (txps_cons (txp_str (by decide +kernel)) (txps_nil)))))
  have X_BadLine : ExcOk P w K mg base 2 "BadLine" "line" okS := excOk_of (c.fact 112 (f := pExc "BadLine" "line" "BadLine") rfl) hsup O_x_BadLine (FunS.binds (ps := ["self", "line"]) F_x_BadLine fun _ _ _ _ _ us hl => match us, hl with | [_, _], _ => rfl) (He.glo_ok X G (c.fact 19 (f := pGlo "BadLine") rfl)) okS_rep
  have O_x_BadText : FnOk P w K mg base (L2.CX P w) 2 _ _ _ (spX P K (He.ga K "BadText") "place" (okSV K)) := fnX F_x_BadText sc_x_BadText T.n_super (fun A outer s0 H E hr => txt_js (txps_cons (txp_str (by decide +kernel)) (txps_cons (txp_var hr rfl (Or.inl rfl)) (txps_nil))))
  have X_BadText : ExcOk P w K mg base 2 "BadText" "place" okS := excOk_of (c.fact 114 (f := pExc "BadText" "place" "BadText") rfl) hsup O_x_BadText (FunS.binds (ps := ["self", "place"]) F_x_BadText fun _ _ _ _ _ us hl => match us, hl with | [_, _], _ => rfl) (He.glo_ok X G (c.fact 32 (f := pGlo "BadText") rfl)) okS_rep
  have O_x_NoPace : FnOk P w K mg base (L2.CX P w) 2 _ _ _ (spX P K (He.ga K "NoPace") "stage" (okSV K)) := fnX F_x_NoPace sc_x_NoPace T.n_super (fun A outer s0 H E hr => txt_js (txps_cons (txp_str (by decide +kernel)) (txps_cons (txp_var hr rfl (Or.inl rfl)) (txps_nil))))
  have X_NoPace : ExcOk P w K mg base 2 "NoPace" "stage" okS := excOk_of (c.fact 116 (f := pExc "NoPace" "stage" "NoPace") rfl) hsup O_x_NoPace (FunS.binds (ps := ["self", "stage"]) F_x_NoPace fun _ _ _ _ _ us hl => match us, hl with | [_, _], _ => rfl) (He.glo_ok X G (c.fact 39 (f := pGlo "NoPace") rfl)) okS_rep
  have O_x_NoWay : FnOk P w K mg base (L2.CX P w) 2 _ _ _ (spX P K (He.ga K "NoWay") "thing" (fun _ _ => True)) := fnX F_x_NoWay sc_x_NoWay T.n_super (fun A outer s0 H E hr => txt_str)
  have X_NoWay : ExcOk P w K mg base 2 "NoWay" "thing" okT := excOk_of (c.fact 118 (f := pExc "NoWay" "thing" "NoWay") rfl) hsup O_x_NoWay (FunS.binds (ps := ["self", "thing"]) F_x_NoWay fun _ _ _ _ _ us hl => match us, hl with | [_, _], _ => rfl) (He.glo_ok X G (c.fact 40 (f := pGlo "NoWay") rfl)) (fun _ _ _ _ _ _ _ => trivial)
  have O_x_NotShift : FnOk P w K mg base (L2.CX P w) 2 _ _ _ (spX P K (He.ga K "NotShift") "row" (fun _ _ => True)) := fnX F_x_NotShift sc_x_NotShift T.n_super (fun A outer s0 H E hr => txt_str)
  have X_NotShift : ExcOk P w K mg base 2 "NotShift" "row" okT := excOk_of (c.fact 120 (f := pExc "NotShift" "row" "NotShift") rfl) hsup O_x_NotShift (FunS.binds (ps := ["self", "row"]) F_x_NotShift fun _ _ _ _ _ us hl => match us, hl with | [_, _], _ => rfl) (He.glo_ok X G (c.fact 42 (f := pGlo "NotShift") rfl)) (fun _ _ _ _ _ _ _ => trivial)
  have O_x_NotWhole : FnOk P w K mg base (L2.CX P w) 2 _ _ _ (spX P K (He.ga K "NotWhole") "row" (fun _ _ => True)) := fnX F_x_NotWhole sc_x_NotWhole T.n_super (fun A outer s0 H E hr => txt_str)
  have X_NotWhole : ExcOk P w K mg base 2 "NotWhole" "row" okT := excOk_of (c.fact 122 (f := pExc "NotWhole" "row" "NotWhole") rfl) hsup O_x_NotWhole (FunS.binds (ps := ["self", "row"]) F_x_NotWhole fun _ _ _ _ _ us hl => match us, hl with | [_, _], _ => rfl) (He.glo_ok X G (c.fact 43 (f := pGlo "NotWhole") rfl)) (fun _ _ _ _ _ _ _ => trivial)
  have O_x_Ringed : FnOk P w K mg base (L2.CX P w) 2 _ _ _ (spX P K (He.ga K "Ringed") "row" (fun _ _ => True)) := fnX F_x_Ringed sc_x_Ringed T.n_super (fun A outer s0 H E hr => txt_str)
  have X_Ringed : ExcOk P w K mg base 2 "Ringed" "row" okT := excOk_of (c.fact 124 (f := pExc "Ringed" "row" "Ringed") rfl) hsup O_x_Ringed (FunS.binds (ps := ["self", "row"]) F_x_Ringed fun _ _ _ _ _ us hl => match us, hl with | [_, _], _ => rfl) (He.glo_ok X G (c.fact 46 (f := pGlo "Ringed") rfl)) (fun _ _ _ _ _ _ _ => trivial)
  have O_x_TooMany : FnOk P w K mg base (L2.CX P w) 2 _ _ _ (spX P K (He.ga K "TooMany") "word" (okSV K)) := fnX F_x_TooMany sc_x_TooMany T.n_super (fun A outer s0 H E hr => txt_js (txps_cons (txp_str (by decide +kernel)) (txps_cons (txp_var hr rfl (Or.inl rfl)) (txps_nil))))
  have X_TooMany : ExcOk P w K mg base 2 "TooMany" "word" okS := excOk_of (c.fact 126 (f := pExc "TooMany" "word" "TooMany") rfl) hsup O_x_TooMany (FunS.binds (ps := ["self", "word"]) F_x_TooMany fun _ _ _ _ _ us hl => match us, hl with | [_, _], _ => rfl) (He.glo_ok X G (c.fact 47 (f := pGlo "TooMany") rfl)) okS_rep
  have O_x_Unseen : FnOk P w K mg base (L2.CX P w) 2 _ _ _ (spX P K (He.ga K "Unseen") "number" (okSV K)) := fnX F_x_Unseen sc_x_Unseen T.n_super (fun A outer s0 H E hr => txt_js (txps_cons (txp_str (by decide +kernel)) (txps_cons (txp_var hr rfl (Or.inl rfl)) (txps_nil))))
  have X_Unseen : ExcOk P w K mg base 2 "Unseen" "number" okS := excOk_of (c.fact 128 (f := pExc "Unseen" "number" "Unseen") rfl) hsup O_x_Unseen (FunS.binds (ps := ["self", "number"]) F_x_Unseen fun _ _ _ _ _ us hl => match us, hl with | [_, _], _ => rfl) (He.glo_ok X G (c.fact 50 (f := pGlo "Unseen") rfl)) okS_rep
  have O_x_WrongName : FnOk P w K mg base (L2.CX P w) 2 _ _ _ (spX P K (He.ga K "WrongName") "name" (fun _ _ => True)) := fnX F_x_WrongName sc_x_WrongName T.n_super (fun A outer s0 H E hr => txt_str)
  have X_Missing : ExcOk P w K mg base 2 "Missing" "name" okT := excOk_of (c.fact 130 (f := pExc "Missing" "name" "WrongName") rfl) hsup O_x_WrongName (FunS.binds (ps := ["self", "name"]) F_x_WrongName fun _ _ _ _ _ us hl => match us, hl with | [_, _], _ => rfl) (He.glo_ok X G (c.fact 35 (f := pGlo "Missing") rfl)) (fun _ _ _ _ _ _ _ => trivial)
  have X_Open : ExcOk P w K mg base 2 "Open" "name" okT := excOk_of (c.fact 131 (f := pExc "Open" "name" "WrongName") rfl) hsup O_x_WrongName (FunS.binds (ps := ["self", "name"]) F_x_WrongName fun _ _ _ _ _ us hl => match us, hl with | [_, _], _ => rfl) (He.glo_ok X G (c.fact 45 (f := pGlo "Open") rfl)) (fun _ _ _ _ _ _ _ => trivial)
  have X_Twice : ExcOk P w K mg base 2 "Twice" "name" okT := excOk_of (c.fact 132 (f := pExc "Twice" "name" "WrongName") rfl) hsup O_x_WrongName (FunS.binds (ps := ["self", "name"]) F_x_WrongName fun _ _ _ _ _ us hl => match us, hl with | [_, _], _ => rfl) (He.glo_ok X G (c.fact 48 (f := pGlo "Twice") rfl)) (fun _ _ _ _ _ _ _ => trivial)
  have O_x_WrongNumber : FnOk P w K mg base (L2.CX P w) 2 _ _ _ (spX P K (He.ga K "WrongNumber") "number" (okSV K)) := fnX F_x_WrongNumber sc_x_WrongNumber T.n_super (fun A outer s0 H E hr => txt_js (txps_cons (txp_str (by decide +kernel)) (txps_cons (txp_var hr rfl (Or.inl rfl)) (txps_cons (txp_str (by decide +kernel)) (txps_nil)))))
  have X_BadCounts : ExcOk P w K mg base 2 "BadCounts" "number" okS := excOk_of (c.fact 134 (f := pExc "BadCounts" "number" "WrongNumber") rfl) hsup O_x_WrongNumber (FunS.binds (ps := ["self", "number"]) F_x_WrongNumber fun _ _ _ _ _ us hl => match us, hl with | [_, _], _ => rfl) (He.glo_ok X G (c.fact 13 (f := pGlo "BadCounts") rfl)) okS_rep
  have X_BadCourses : ExcOk P w K mg base 2 "BadCourses" "number" okS := excOk_of (c.fact 135 (f := pExc "BadCourses" "number" "WrongNumber") rfl) hsup O_x_WrongNumber (FunS.binds (ps := ["self", "number"]) F_x_WrongNumber fun _ _ _ _ _ us hl => match us, hl with | [_, _], _ => rfl) (He.glo_ok X G (c.fact 15 (f := pGlo "BadCourses") rfl)) okS_rep
  have X_BadDeed : ExcOk P w K mg base 2 "BadDeed" "number" okS := excOk_of (c.fact 136 (f := pExc "BadDeed" "number" "WrongNumber") rfl) hsup O_x_WrongNumber (FunS.binds (ps := ["self", "number"]) F_x_WrongNumber fun _ _ _ _ _ us hl => match us, hl with | [_, _], _ => rfl) (He.glo_ok X G (c.fact 16 (f := pGlo "BadDeed") rfl)) okS_rep
  have X_BadFact : ExcOk P w K mg base 2 "BadFact" "number" okS := excOk_of (c.fact 137 (f := pExc "BadFact" "number" "WrongNumber") rfl) hsup O_x_WrongNumber (FunS.binds (ps := ["self", "number"]) F_x_WrongNumber fun _ _ _ _ _ us hl => match us, hl with | [_, _], _ => rfl) (He.glo_ok X G (c.fact 17 (f := pGlo "BadFact") rfl)) okS_rep
  have X_BadMakers : ExcOk P w K mg base 2 "BadMakers" "number" okS := excOk_of (c.fact 138 (f := pExc "BadMakers" "number" "WrongNumber") rfl) hsup O_x_WrongNumber (FunS.binds (ps := ["self", "number"]) F_x_WrongNumber fun _ _ _ _ _ us hl => match us, hl with | [_, _], _ => rfl) (He.glo_ok X G (c.fact 21 (f := pGlo "BadMakers") rfl)) okS_rep
  have X_BadName : ExcOk P w K mg base 2 "BadName" "number" okS := excOk_of (c.fact 139 (f := pExc "BadName" "number" "WrongNumber") rfl) hsup O_x_WrongNumber (FunS.binds (ps := ["self", "number"]) F_x_WrongNumber fun _ _ _ _ _ us hl => match us, hl with | [_, _], _ => rfl) (He.glo_ok X G (c.fact 22 (f := pGlo "BadName") rfl)) okS_rep
  have X_BadPaces : ExcOk P w K mg base 2 "BadPaces" "number" okS := excOk_of (c.fact 140 (f := pExc "BadPaces" "number" "WrongNumber") rfl) hsup O_x_WrongNumber (FunS.binds (ps := ["self", "number"]) F_x_WrongNumber fun _ _ _ _ _ us hl => match us, hl with | [_, _], _ => rfl) (He.glo_ok X G (c.fact 24 (f := pGlo "BadPaces") rfl)) okS_rep
  have X_BadPlan : ExcOk P w K mg base 2 "BadPlan" "number" okS := excOk_of (c.fact 141 (f := pExc "BadPlan" "number" "WrongNumber") rfl) hsup O_x_WrongNumber (FunS.binds (ps := ["self", "number"]) F_x_WrongNumber fun _ _ _ _ _ us hl => match us, hl with | [_, _], _ => rfl) (He.glo_ok X G (c.fact 25 (f := pGlo "BadPlan") rfl)) okS_rep
  have X_BadRow : ExcOk P w K mg base 2 "BadRow" "number" okS := excOk_of (c.fact 142 (f := pExc "BadRow" "number" "WrongNumber") rfl) hsup O_x_WrongNumber (FunS.binds (ps := ["self", "number"]) F_x_WrongNumber fun _ _ _ _ _ us hl => match us, hl with | [_, _], _ => rfl) (He.glo_ok X G (c.fact 26 (f := pGlo "BadRow") rfl)) okS_rep
  have X_BadSight : ExcOk P w K mg base 2 "BadSight" "number" okS := excOk_of (c.fact 143 (f := pExc "BadSight" "number" "WrongNumber") rfl) hsup O_x_WrongNumber (FunS.binds (ps := ["self", "number"]) F_x_WrongNumber fun _ _ _ _ _ us hl => match us, hl with | [_, _], _ => rfl) (He.glo_ok X G (c.fact 28 (f := pGlo "BadSight") rfl)) okS_rep
  have X_BadTables : ExcOk P w K mg base 2 "BadTables" "number" okS := excOk_of (c.fact 144 (f := pExc "BadTables" "number" "WrongNumber") rfl) hsup O_x_WrongNumber (FunS.binds (ps := ["self", "number"]) F_x_WrongNumber fun _ _ _ _ _ us hl => match us, hl with | [_, _], _ => rfl) (He.glo_ok X G (c.fact 30 (f := pGlo "BadTables") rfl)) okS_rep
  have X_NoClaim : ExcOk P w K mg base 2 "NoClaim" "number" okS := excOk_of (c.fact 145 (f := pExc "NoClaim" "number" "WrongNumber") rfl) hsup O_x_WrongNumber (FunS.binds (ps := ["self", "number"]) F_x_WrongNumber fun _ _ _ _ _ us hl => match us, hl with | [_, _], _ => rfl) (He.glo_ok X G (c.fact 37 (f := pGlo "NoClaim") rfl)) okS_rep
  have O_x_WrongThing : FnOk P w K mg base (L2.CX P w) 2 _ _ _ (spX P K (He.ga K "WrongThing") "thing" (fun _ _ => True)) := fnX F_x_WrongThing sc_x_WrongThing T.n_super (fun A outer s0 H E hr => txt_str)
  have X_BadClaim : ExcOk P w K mg base 2 "BadClaim" "thing" okT := excOk_of (c.fact 147 (f := pExc "BadClaim" "thing" "WrongThing") rfl) hsup O_x_WrongThing (FunS.binds (ps := ["self", "thing"]) F_x_WrongThing fun _ _ _ _ _ us hl => match us, hl with | [_, _], _ => rfl) (He.glo_ok X G (c.fact 11 (f := pGlo "BadClaim") rfl)) (fun _ _ _ _ _ _ _ => trivial)
  have X_BadCount : ExcOk P w K mg base 2 "BadCount" "thing" okT := excOk_of (c.fact 148 (f := pExc "BadCount" "thing" "WrongThing") rfl) hsup O_x_WrongThing (FunS.binds (ps := ["self", "thing"]) F_x_WrongThing fun _ _ _ _ _ us hl => match us, hl with | [_, _], _ => rfl) (He.glo_ok X G (c.fact 12 (f := pGlo "BadCount") rfl)) (fun _ _ _ _ _ _ _ => trivial)
  have X_BadCourse : ExcOk P w K mg base 2 "BadCourse" "thing" okT := excOk_of (c.fact 149 (f := pExc "BadCourse" "thing" "WrongThing") rfl) hsup O_x_WrongThing (FunS.binds (ps := ["self", "thing"]) F_x_WrongThing fun _ _ _ _ _ us hl => match us, hl with | [_, _], _ => rfl) (He.glo_ok X G (c.fact 14 (f := pGlo "BadCourse") rfl)) (fun _ _ _ _ _ _ _ => trivial)
  have X_BadInlet : ExcOk P w K mg base 2 "BadInlet" "thing" okT := excOk_of (c.fact 150 (f := pExc "BadInlet" "thing" "WrongThing") rfl) hsup O_x_WrongThing (FunS.binds (ps := ["self", "thing"]) F_x_WrongThing fun _ _ _ _ _ us hl => match us, hl with | [_, _], _ => rfl) (He.glo_ok X G (c.fact 18 (f := pGlo "BadInlet") rfl)) (fun _ _ _ _ _ _ _ => trivial)
  have X_BadSaying : ExcOk P w K mg base 2 "BadSaying" "thing" okT := excOk_of (c.fact 151 (f := pExc "BadSaying" "thing" "WrongThing") rfl) hsup O_x_WrongThing (FunS.binds (ps := ["self", "thing"]) F_x_WrongThing fun _ _ _ _ _ us hl => match us, hl with | [_, _], _ => rfl) (He.glo_ok X G (c.fact 27 (f := pGlo "BadSaying") rfl)) (fun _ _ _ _ _ _ _ => trivial)
  have X_BadTerm : ExcOk P w K mg base 2 "BadTerm" "thing" okT := excOk_of (c.fact 152 (f := pExc "BadTerm" "thing" "WrongThing") rfl) hsup O_x_WrongThing (FunS.binds (ps := ["self", "thing"]) F_x_WrongThing fun _ _ _ _ _ us hl => match us, hl with | [_, _], _ => rfl) (He.glo_ok X G (c.fact 31 (f := pGlo "BadTerm") rfl)) (fun _ _ _ _ _ _ _ => trivial)
  have X_Lacking : ExcOk P w K mg base 2 "Lacking" "thing" okT := excOk_of (c.fact 153 (f := pExc "Lacking" "thing" "WrongThing") rfl) hsup O_x_WrongThing (FunS.binds (ps := ["self", "thing"]) F_x_WrongThing fun _ _ _ _ _ us hl => match us, hl with | [_, _], _ => rfl) (He.glo_ok X G (c.fact 34 (f := pGlo "Lacking") rfl)) (fun _ _ _ _ _ _ _ => trivial)
  have O_x_WrongWord : FnOk P w K mg base (L2.CX P w) 2 _ _ _ (spX P K (He.ga K "WrongWord") "word" (okSV K)) := fnX F_x_WrongWord sc_x_WrongWord T.n_super (fun A outer s0 H E hr => txt_js (txps_cons (txp_str (by decide +kernel)) (txps_cons (txp_var hr rfl (Or.inl rfl)) (txps_cons (txp_str (by decide +kernel)) (txps_nil)))))
  have X_BadBound : ExcOk P w K mg base 2 "BadBound" "word" okS := excOk_of (c.fact 155 (f := pExc "BadBound" "word" "WrongWord") rfl) hsup O_x_WrongWord (FunS.binds (ps := ["self", "word"]) F_x_WrongWord fun _ _ _ _ _ us hl => match us, hl with | [_, _], _ => rfl) (He.glo_ok X G (c.fact 10 (f := pGlo "BadBound") rfl)) okS_rep
  have X_BadMaker : ExcOk P w K mg base 2 "BadMaker" "word" okS := excOk_of (c.fact 156 (f := pExc "BadMaker" "word" "WrongWord") rfl) hsup O_x_WrongWord (FunS.binds (ps := ["self", "word"]) F_x_WrongWord fun _ _ _ _ _ us hl => match us, hl with | [_, _], _ => rfl) (He.glo_ok X G (c.fact 20 (f := pGlo "BadMaker") rfl)) okS_rep
  have X_BadTable : ExcOk P w K mg base 2 "BadTable" "word" okS := excOk_of (c.fact 157 (f := pExc "BadTable" "word" "WrongWord") rfl) hsup O_x_WrongWord (FunS.binds (ps := ["self", "word"]) F_x_WrongWord fun _ _ _ _ _ us hl => match us, hl with | [_, _], _ => rfl) (He.glo_ok X G (c.fact 29 (f := pGlo "BadTable") rfl)) okS_rep
  have G__law_borne : DefOk P w K mg base 1 "_law_borne" 2 [] f__law_borne := defOk_of (ok__law_borne T F__law_borne) F__law_borne (He.glo_ok X G (c.fact 158 (f := pGlo "_law_borne") rfl)) (FunD.bindsN (ps := ["_law_way", "_law_error"]) F__law_borne fun _ _ _ _ _ _ us hl => match us, hl with | [_, _], _ => rfl)
  have G__law_kinds : DefOk P w K mg base 1 "_law_kinds" 1 [] f__law_kinds := defOk_of (ok__law_kinds T F__law_kinds) F__law_kinds (He.glo_ok X G (c.fact 159 (f := pGlo "_law_kinds") rfl)) (FunD.bindsN (ps := ["_law_error"]) F__law_kinds fun _ _ _ _ _ _ us hl => match us, hl with | [_], _ => rfl)
  have G__law_other : DefOk P w K mg base 4 "_law_other" 2 [] f__law_other := defOk_of (ok__law_other T X_BadBound X_BadCounts X_BadCourses X_BadDeed X_BadFact X_BadMaker X_BadMakers X_BadName X_BadPaces X_BadPlan X_BadRow X_BadSight X_BadTables X_Missing X_NoClaim X_Open X_Twice F__law_other) F__law_other (He.glo_ok X G (c.fact 160 (f := pGlo "_law_other") rfl)) (FunD.bindsN (ps := ["_law_way", "_law_thing"]) F__law_other fun _ _ _ _ _ _ us hl => match us, hl with | [_, _], _ => rfl)
  have G__law_one : DefOk P w K mg base 6 "_law_one" 2 [] f__law_one := defOk_of (ok__law_one T G__law_other X_AtOdds X_BadClaim X_BadCount X_BadCourse X_BadInlet X_BadLine X_BadSaying X_BadTable X_BadTerm X_BadText X_Lacking X_NoPace X_NoWay X_NotShift X_NotWhole X_Ringed X_TooMany X_Unseen F__law_one) F__law_one (He.glo_ok X G (c.fact 161 (f := pGlo "_law_one") rfl)) (FunD.bindsN (ps := ["_law_way", "_law_thing"]) F__law_one fun _ _ _ _ _ _ us hl => match us, hl with | [_, _], _ => rfl)
  have G__law_pick : DefB P w K mg base 1 "_law_pick" 1 f__law_pick := ⟨_, _, _, ok__law_pick T F__law_pick, He.glo_ok X G (c.fact 162 (f := pGlo "_law_pick") rfl), F__law_pick.kp, (FunD.bindsN (ps := ["_law_source_here", "_law_many"]) F__law_pick fun _ _ _ _ _ _ us hl => match us, hl with | [_, _], _ => rfl)⟩
  have G__law_source : DefOk P w K mg base 1 "_law_source" 2 [] f__law_source := defOk_of (ok__law_source T F__law_source) F__law_source (He.glo_ok X G (c.fact 163 (f := pGlo "_law_source") rfl)) (FunD.bindsN (ps := ["_law_script", "_law_place"]) F__law_source fun _ _ _ _ _ _ us hl => match us, hl with | [_, _], _ => rfl)
  have G__law_truth : DefOk P w K mg base 1 "_law_truth" 2 [] f__law_truth := defOk_of (ok__law_truth T F__law_truth) F__law_truth (He.glo_ok X G (c.fact 164 (f := pGlo "_law_truth") rfl)) (FunD.bindsN (ps := ["_law_told", "_law_due"]) F__law_truth fun _ _ _ _ _ _ us hl => match us, hl with | [_, _], _ => rfl)
  exact ok_law T G__law_borne G__law_kinds G__law_one G__law_pick G__law_source G__law_truth F_law
end NF

set_option Elab.async false
set_option linter.all false
set_option maxRecDepth 100000
set_option maxHeartbeats 0
namespace NF
open PySem PySem.Spec PyProof.Rows L2 SL
abbrev R : PySem.W.OpenRow := PySem.W.OpenLaw.row PySem.Challenge.rw_needforth_k54_whole_errors_apart
abbrev hk : PySem.W.Hook := hookW 4000 fa fn
def ob (s : PySem.W.SharedT) : He.AlD := obsWG 4000 fa fn (HandSHeadRun.getT s)
theorem ob_eq (s : PySem.W.SharedT) : ob s = hk.obs s.abs := obsWG_eq (HandSHeadRun.getT_eq s)
theorem run (w : World) : HandSHeadRun.RunEq R (PySem.W.view R.prog [55]) hk ob 12000 [PySem.Str.ofString "NeedforthError", PySem.Str.ofString "Unreadable", PySem.Str.ofString "Impossible", PySem.Str.ofString "WrongThing", PySem.Str.ofString "WrongWord", PySem.Str.ofString "WrongNumber", PySem.Str.ofString "WrongName", PySem.Str.ofString "BadText", PySem.Str.ofString "BadLine", PySem.Str.ofString "AtOdds", PySem.Str.ofString "NoPace", PySem.Str.ofString "NoHole", PySem.Str.ofString "NoWay", PySem.Str.ofString "NotShift", PySem.Str.ofString "NotWhole", PySem.Str.ofString "Ringed", PySem.Str.ofString "Unseen", PySem.Str.ofString "NothingDone", PySem.Str.ofString "TooMany", PySem.Str.ofString "BadCount", PySem.Str.ofString "BadTerm", PySem.Str.ofString "BadSaying", PySem.Str.ofString "BadInlet", PySem.Str.ofString "BadCourse", PySem.Str.ofString "Lacking", PySem.Str.ofString "BadClaim", PySem.Str.ofString "BadTable", PySem.Str.ofString "BadMaker", PySem.Str.ofString "BadBound", PySem.Str.ofString "BadTables", PySem.Str.ofString "BadFact", PySem.Str.ofString "BadName", PySem.Str.ofString "BadRow", PySem.Str.ofString "BadMakers", PySem.Str.ofString "BadCounts", PySem.Str.ofString "BadCourses", PySem.Str.ofString "BadPaces", PySem.Str.ofString "BadPlan", PySem.Str.ofString "BadSight", PySem.Str.ofString "BadDeed", PySem.Str.ofString "NoClaim", PySem.Str.ofString "Missing", PySem.Str.ofString "Twice", PySem.Str.ofString "Open", PySem.Str.ofString "BadPace", PySem.Str.ofString "NoWeb", PySem.Str.ofString "_law_source", PySem.Str.ofString "_law_pick", PySem.Str.ofString "_law_truth", PySem.Str.ofString "_law_one", PySem.Str.ofString "_law_other", PySem.Str.ofString "_law_kinds", PySem.Str.ofString "_law_borne"] w := by
  intro os
  kernel_rfl
end NF

set_option Elab.async false
set_option linter.all false
set_option maxRecDepth 100000
set_option maxHeartbeats 0
open PySem PySem.W PySem.Calls PyProof.Rows
theorem NF.cls (lt : ∀ ns : List Int, ns.length ≤ 63 → (∀ k ∈ ns, PySem.Builtin.Int.intBits k ≤ 1048576) → NF.f_law [.scr ns] = some (.ok (.dat (.bl true)))) : PySem.Challenge.rw_needforth_k54_whole_errors_apart.Holds := by
  w_on; o_law
  refine HandSHeadRun.head_any (r := OpenLaw.row PySem.Challenge.rw_needforth_k54_whole_errors_apart) (q := view (OpenLaw.row PySem.Challenge.rw_needforth_k54_whole_errors_apart).prog [55]) (H := NF.hk) (ob := NF.ob) (M := 12000) (loose := [PySem.Str.ofString "NeedforthError", PySem.Str.ofString "Unreadable", PySem.Str.ofString "Impossible", PySem.Str.ofString "WrongThing", PySem.Str.ofString "WrongWord", PySem.Str.ofString "WrongNumber", PySem.Str.ofString "WrongName", PySem.Str.ofString "BadText", PySem.Str.ofString "BadLine", PySem.Str.ofString "AtOdds", PySem.Str.ofString "NoPace", PySem.Str.ofString "NoHole", PySem.Str.ofString "NoWay", PySem.Str.ofString "NotShift", PySem.Str.ofString "NotWhole", PySem.Str.ofString "Ringed", PySem.Str.ofString "Unseen", PySem.Str.ofString "NothingDone", PySem.Str.ofString "TooMany", PySem.Str.ofString "BadCount", PySem.Str.ofString "BadTerm", PySem.Str.ofString "BadSaying", PySem.Str.ofString "BadInlet", PySem.Str.ofString "BadCourse", PySem.Str.ofString "Lacking", PySem.Str.ofString "BadClaim", PySem.Str.ofString "BadTable", PySem.Str.ofString "BadMaker", PySem.Str.ofString "BadBound", PySem.Str.ofString "BadTables", PySem.Str.ofString "BadFact", PySem.Str.ofString "BadName", PySem.Str.ofString "BadRow", PySem.Str.ofString "BadMakers", PySem.Str.ofString "BadCounts", PySem.Str.ofString "BadCourses", PySem.Str.ofString "BadPaces", PySem.Str.ofString "BadPlan", PySem.Str.ofString "BadSight", PySem.Str.ofString "BadDeed", PySem.Str.ofString "NoClaim", PySem.Str.ofString "Missing", PySem.Str.ofString "Twice", PySem.Str.ofString "Open", PySem.Str.ofString "BadPace", PySem.Str.ofString "NoWeb", PySem.Str.ofString "_law_source", PySem.Str.ofString "_law_pick", PySem.Str.ofString "_law_truth", PySem.Str.ofString "_law_one", PySem.Str.ofString "_law_other", PySem.Str.ofString "_law_kinds", PySem.Str.ofString "_law_borne"]) (d := HandSHeadRun.topDef (OpenLaw.row PySem.Challenge.rw_needforth_k54_whole_errors_apart).prog 55) (kwd := []) NF.ob_eq
    (by kernel_rfl) (fun s => by kernel_rfl) NF.run (by kernel_rfl) (by kernel_rfl) (by kernel_rfl) (by rfl) (by first | assumption | decide +kernel) (by decide +kernel) ⟨rfl, rfl, rfl, rfl, rfl, by decide +kernel⟩ ?hw ?hc
  case hw => w_witness2
  case hc =>
    refine SL.walk_ofW (l := PySem.Challenge.rw_needforth_k54_whole_errors_apart) (n := 63) (k := 8) (x := "_law_script") (f := NF.f_law) rfl (by decide) (by kernel_rfl) ⟨rfl, by decide, by decide⟩ ?F lt
    intro w mg fa h Y G hmg0
    obtain ⟨K, KX, c⟩ := Y
    have hmg : mg ("law" : PySem.Str) = some (.ref fa) := by
      have e : (HandSHeadRun.topDef (OpenLaw.row PySem.Challenge.rw_needforth_k54_whole_errors_apart).prog 55).name = ("law" : PySem.Str) := by kernel_rfl
      rw [← e]
      exact hmg0
    obtain ⟨fd, hb, hF⟩ := NF.facts (P := PySem.Challenge.rw_needforth_k54_whole_errors_apart.prog) (w := w) KX G hmg c (by kernel_rfl) (by kernel_rfl)
    exact ⟨K, fd, KX, hb, hF⟩

set_option Elab.async false
set_option linter.all false
set_option maxRecDepth 100000
set_option maxHeartbeats 400000
/-! evaluation rules of the semantic functions -/
namespace SL
variable {α β : Type}
theorem e_ret (a : α) (ρ : Sl) : ret a ρ = some (.ok a, ρ) := rfl
theorem e_nop (ρ : Sl) : (nop : Mo α) ρ = none := rfl
theorem e_bnd (m : Mo α) (f : α → Mo β) (ρ : Sl) : bnd m f ρ = match m ρ with
  | none => none
  | some (.exc x, ρ') => some (.exc x, ρ')
  | some (.ok a, ρ') => f a ρ' := rfl
theorem e_ite {γ : Type} (c : Prop) [Decidable c] (m n : Sl → γ) (ρ : Sl) : (if c then m else n) ρ = if c then m ρ else n ρ := by split <;> rfl
theorem e_opM (f : List D → Option Out) (ts : List T) (ρ : Sl) : opM f ts ρ = match frzs ts with
  | none => none
  | some ds => outM (f ds) ρ := by unfold opM; cases frzs ts <;> rfl
theorem e_out0 (ρ : Sl) : outM none ρ = none := rfl
theorem e_outd (d : D) (ρ : Sl) : outM (some (.dt d)) ρ = some (.ok (.dat d), ρ) := rfl
theorem e_outn (xs : List D) (ρ : Sl) : outM (some (.nl xs)) ρ = some (.ok (.lst false xs), ρ) := rfl
theorem fz0 : frzs [] = some [] := rfl
theorem fzd (d : D) (ts : List T) : frzs (.dat d :: ts) = (frzs ts).map (d :: ·) := by
  unfold frzs; simp only [List.any_cons, T.brw, Bool.false_or]; split <;> rfl
theorem fzl (xs : List D) (ts : List T) : frzs (.lst false xs :: ts) = (frzs ts).map (.lst xs :: ·) := by
  unfold frzs; simp only [List.any_cons, T.brw, Bool.false_or]; split <;> rfl
theorem fzi (C : PySem.Str) (ns : List PySem.Str) (xs : List D) (ts : List T) : frzs (.ins false C ns xs :: ts) = (frzs ts).map (.obj C ns xs :: ·) := by
  unfold frzs; simp only [List.any_cons, T.brw, Bool.false_or]; split <;> rfl
theorem bd (d : D) : T.brw (.dat d) = false := rfl
theorem bl_ (b : Bool) (xs : List D) : T.brw (.lst b xs) = b := rfl
theorem bi (b : Bool) (C : PySem.Str) (ns : List PySem.Str) (xs : List D) : T.brw (.ins b C ns xs) = b := rfl
theorem zd (d : D) : T.fz (.dat d) = d := rfl
theorem zl (b : Bool) (xs : List D) : T.fz (.lst b xs) = .lst xs := rfl
theorem zi (b : Bool) (C : PySem.Str) (ns : List PySem.Str) (xs : List D) : T.fz (.ins b C ns xs) = .obj C ns xs := rfl
theorem o1 (f : D → Option Out) (d : D) : one f [d] = f d := rfl
theorem o2 (f : D → D → Option Out) (d e : D) : two f [d, e] = f d e := rfl
theorem e_var (i : Nat) (ρ : Sl) : eVar i ρ = match ρ[i]? with
  | some (some t) => if t.brw = true then none else some (.ok (.dat t.fz), ρ.set i (some (.dat t.fz)))
  | _ => none := rfl
theorem e_atS (i : Nat) (ρ : Sl) : atS i ρ = match ρ[i]? with
  | some (some t) => some t
  | _ => none := rfl
theorem e_s1 (f : D → Option Out) (i : Nat) (ρ : Sl) : s1M f i ρ = match atS i ρ with
  | none => none
  | some t => outM (f t.fz) ρ := rfl
theorem e_s2 (f : D → D → Option Out) (i : Nat) (mb : Mo T) (ρ : Sl) : s2M f i mb ρ = match atS i ρ with
  | none => none
  | some _ => (match mb ρ with
    | none => none
    | some (.exc x, ρ1) => some (.exc x, ρ1)
    | some (.ok u, ρ1) => if u.brw = true then none else match atS i ρ1 with
      | none => none
      | some t => outM (f t.fz u.fz) ρ1) := by
  unfold s2M
  cases atS i ρ with
  | none => rfl
  | some t => dsimp only; unfold bnd; rcases mb ρ with _ | ⟨_ | _, _⟩ <;> rfl
theorem e_sl (f : D → Option Int → Option Int → Option Out) (i : Nat) (ml mh : Mo (Option Int)) (ρ : Sl) : sSlM f i ml mh ρ = match atS i ρ with
  | none => none
  | some _ => (match ml ρ with
    | none => none
    | some (.exc x, ρ1) => some (.exc x, ρ1)
    | some (.ok lo, ρ1) => match mh ρ1 with
      | none => none
      | some (.exc x, ρ2) => some (.exc x, ρ2)
      | some (.ok hi, ρ2) => match atS i ρ2 with
        | none => none
        | some t => outM (f t.fz lo hi) ρ2) := by
  unfold sSlM
  cases atS i ρ with
  | none => rfl
  | some t =>
    dsimp only
    unfold bnd
    rcases ml ρ with _ | ⟨_ | _, r1⟩
    · rfl
    · dsimp only; rcases mh r1 with _ | ⟨_ | _, _⟩ <;> rfl
    · rfl
theorem e_toS (m : Mo α) (f : α → So) (ρ : Sl) : toS m f ρ = match m ρ with
  | none => none
  | some (.exc x, ρ') => some (.exc x, ρ')
  | some (.ok a, ρ') => f a ρ' := rfl
theorem e_seq (s u : So) (ρ : Sl) : sSeq s u ρ = match s ρ with
  | none => none
  | some (.next, ρ') => u ρ'
  | some (fl, ρ') => some (fl, ρ') := rfl
theorem e_next (ρ : Sl) : sNext ρ = some (.next, ρ) := rfl
theorem e_no (ρ : Sl) : sNo ρ = none := rfl
theorem e_drop (m : Mo T) (ρ : Sl) : sDrop m ρ = match m ρ with
  | none => none
  | some (.exc x, ρ') => some (.exc x, ρ')
  | some (.ok a, ρ') => some (.next, ρ') := by unfold sDrop toS; rcases m ρ with _ | ⟨_ | _, _⟩ <;> rfl
theorem e_sret (m : Mo T) (ρ : Sl) : sRet m ρ = match m ρ with
  | none => none
  | some (.exc x, ρ') => some (.exc x, ρ')
  | some (.ok a, ρ') => some (.ret a, ρ') := by unfold sRet toS; rcases m ρ with _ | ⟨_ | _, _⟩ <;> rfl
theorem e_if (c : Mo Bool) (s u : So) (ρ : Sl) : sIf c s u ρ = match c ρ with
  | none => none
  | some (.exc x, ρ') => some (.exc x, ρ')
  | some (.ok b, ρ') => if b = true then s ρ' else u ρ' := by
  unfold sIf toS; rcases c ρ with _ | ⟨b | _, _⟩
  · rfl
  · cases b <;> rfl
  · rfl
theorem e_asg (i : Nat) (m : Mo T) (ρ : Sl) : sAsg i m ρ = match m ρ with
  | none => none
  | some (.exc x, ρ') => some (.exc x, ρ')
  | some (.ok t, ρ') => if i < ρ'.length then some (.next, ρ'.set i (some t)) else none := by unfold sAsg toS; rcases m ρ with _ | ⟨_ | _, _⟩ <;> rfl
theorem e_asgp (p : Pat) (m : Mo T) (ρ : Sl) : sAsgP p m ρ = match m ρ with
  | none => none
  | some (.exc x, ρ') => some (.exc x, ρ')
  | some (.ok t, ρ') => if t.brw = true then none else match asgP p t.fz ρ' with
    | none => none
    | some ρ2 => some (.next, ρ2) := by
  unfold sAsgP toS
  rcases m ρ with _ | ⟨t | _, r⟩
  · rfl
  · first
    | (dsimp only; done)
    | (dsimp only; split <;> first | rfl | (cases asgP p t.fz r <;> rfl))
  · rfl
theorem p_nm (i : Nat) (d : D) (ρ : Sl) : asgP (.nm i) d ρ = if i < ρ.length then some (ρ.set i (some (.dat d))) else none := by unfold asgP; first | done | rfl
theorem p_tp (ps : List Pat) (ds : List D) (ρ : Sl) : asgP (.tp ps) (.tup ds) ρ = asgPs ps ds ρ := by unfold asgP; first | done | rfl
theorem p_nil (ρ : Sl) : asgPs [] [] ρ = some ρ := by unfold asgPs; first | done | rfl
theorem p_cons (p : Pat) (ps : List Pat) (d : D) (ds : List D) (ρ : Sl) : asgPs (p :: ps) (d :: ds) ρ = match asgP p d ρ with
  | none => none
  | some ρ' => asgPs ps ds ρ' := by rw [asgPs]; first | done | (cases asgP p d ρ <;> rfl)
theorem a_bl (b : Bool) (ρ : Sl) : asB (.dat (.bl b)) ρ = some (.ok b, ρ) := rfl
theorem a_int (b : Int) (ρ : Sl) : asI (.dat (.int b)) ρ = some (.ok (some b), ρ) := rfl
theorem e_noX (m : Mo T) (ρ : Sl) : noX m ρ = match m ρ with
  | some (.ok t, ρ') => some (.ok t, ρ')
  | _ => none := rfl
theorem e_callM (a : Nat) (f : FnD) (dds : List D) (ts : List T) (ρ : Sl) : callM a f dds ts ρ = match frzs ts with
  | none => none
  | some ds => if (ds ++ dds).length = a then (match f (ds ++ dds) with
    | none => none
    | some (.ok t) => if t.brw = true then none else some (.ok t, ρ)
    | some (.exc x) => some (.exc x, ρ)) else none := by
  unfold callM
  cases frzs ts with
  | none => rfl
  | some ds =>
    dsimp only
    split
    · cases f (ds ++ dds) with
      | none => rfl
      | some r => cases r with
        | ok t => dsimp only; split <;> rfl
        | exc x => rfl
    · rfl
def dn (r : Option (Fl × Sl)) : Option (Rs T) := match r with
  | some (.next, _) => some (.ok (.dat .non))
  | some (.ret t, _) => if t.brw = true then none else some (.ok t)
  | some (.exc x, _) => some (.exc x)
  | _ => none
theorem e_bodyD (m : Nat) (s : So) (ds : List D) : bodyD m s ds = dn (s (ds.map (fun d => some (T.dat d)) ++ List.replicate m none)) := rfl
theorem dn_next (ρ : Sl) : dn (some (.next, ρ)) = some (.ok (.dat .non)) := rfl
theorem dn_ret (t : T) (ρ : Sl) : dn (some (.ret t, ρ)) = if t.brw = true then none else some (.ok t) := rfl
theorem rp0 : List.replicate 0 (none : Option T) = [] := rfl
theorem rp1 : List.replicate 1 (none : Option T) = [none] := rfl
theorem rp2 : List.replicate 2 (none : Option T) = [none, none] := rfl
theorem rp3 : List.replicate 3 (none : Option T) = [none, none, none] := rfl
theorem rp4 : List.replicate 4 (none : Option T) = [none, none, none, none] := rfl
theorem rp5 : List.replicate 5 (none : Option T) = [none, none, none, none, none] := rfl
theorem rp6 : List.replicate 6 (none : Option T) = [none, none, none, none, none, none] := rfl
theorem rp7 : List.replicate 7 (none : Option T) = [none, none, none, none, none, none, none] := rfl
theorem rp8 : List.replicate 8 (none : Option T) = [none, none, none, none, none, none, none, none] := rfl
theorem rp9 : List.replicate 9 (none : Option T) = [none, none, none, none, none, none, none, none, none] := rfl
theorem rp10 : List.replicate 10 (none : Option T) = [none, none, none, none, none, none, none, none, none, none] := rfl
theorem rp11 : List.replicate 11 (none : Option T) = [none, none, none, none, none, none, none, none, none, none, none] := rfl
theorem eq_ii (i j : Int) : eqF (.int i) (.int j) = some (.dt (.bl (decide (i = j)))) := by
  show some (Out.dt (D.bl (i == j))) = _
  rw [Bool.eq_iff_iff.mpr (show (i == j) = true ↔ decide (i = j) = true by simp)]
theorem ne_ii (i j : Int) : neF (.int i) (.int j) = some (.dt (.bl (!decide (i = j)))) := by
  show some (Out.dt (D.bl (!(i == j)))) = _
  rw [Bool.eq_iff_iff.mpr (show (i == j) = true ↔ decide (i = j) = true by simp)]
theorem len_t (xs : List D) : lenF (.tup xs) = some (.dt (.int (xs.length : Nat))) := rfl
theorem len_l (xs : List D) : lenF (.lst xs) = some (.dt (.int (xs.length : Nat))) := rfl
theorem ix_t (xs : List D) (i : Int) : ixF (.tup xs) (.int i) = (L2.atI xs i).map .dt := rfl
theorem ix_l (xs : List D) (i : Int) : ixF (.lst xs) (.int i) = (L2.atI xs i).map .dt := rfl
theorem add_ii (i j : Int) : addF (.int i) (.int j) = some (.dt (.int (i + j))) := rfl
theorem sub_ii (i j : Int) : subF (.int i) (.int j) = some (.dt (.int (i - j))) := rfl
theorem neg_i (i : Int) : negF (.int i) = some (.dt (.int (-i))) := rfl
theorem lt_ii (i j : Int) : ltF (.int i) (.int j) = some (.dt (.bl (decide (i < j)))) := rfl
theorem le_ii (i j : Int) : leF (.int i) (.int j) = some (.dt (.bl (decide (i ≤ j)))) := rfl
theorem gt_ii (i j : Int) : gtF (.int i) (.int j) = some (.dt (.bl (decide (j < i)))) := rfl
theorem ge_ii (i j : Int) : geF (.int i) (.int j) = some (.dt (.bl (decide (j ≤ i)))) := rfl
theorem mul_ii {i j : Int} (h : sml i ∨ sml j) : mulF (.int i) (.int j) = some (.dt (.int (i * j))) := if_pos h
theorem div_ii {i j : Int} (h : 0 < j ∧ j < 4611686018427387904) : divF (.int i) (.int j) = some (.dt (.int (i / j))) := if_pos h
theorem mod_ii {i j : Int} (h : 0 < j) : modF (.int i) (.int j) = some (.dt (.int (i % j))) := if_pos h
theorem isN_i (i : Int) : isNF (.int i) .non = some (.dt (.bl false)) := rfl
theorem isN_n : isNF .non .non = some (.dt (.bl true)) := rfl
theorem notN_i (i : Int) : notNF (.int i) .non = some (.dt (.bl true)) := rfl
theorem notN_n : notNF .non .non = some (.dt (.bl false)) := rfl
theorem notN_t (i : List D) : notNF (.tup i) .non = some (.dt (.bl true)) := rfl
theorem pow_ii {i : Int} {n : Nat} (h : n ≤ 1000 ∧ sml i) : powF (.int i) (.int n) = some (.dt (.int (i ^ n))) := if_pos ⟨Int.natCast_nonneg _, by omega, h.2⟩
theorem few0 (f : List D → Out) : few f [] = some (f []) := rfl
theorem few1 (f : List D → Out) (a : D) : few f [a] = some (f [a]) := rfl
theorem few2 (f : List D → Out) (a b : D) : few f [a, b] = some (f [a, b]) := rfl
theorem few3 (f : List D → Out) (a b c : D) : few f [a, b, c] = some (f [a, b, c]) := rfl
theorem e_bin (f : D → D → Option Out) (ma mb : Mo T) (ρ : Sl) : bin f ma mb ρ = bnd ma (fun x => bnd mb fun y => opM (two f) [x, y]) ρ := rfl
theorem e_una (f : D → Option Out) (ma : Mo T) (ρ : Sl) : una f ma ρ = bnd ma (fun x => opM (one f) [x]) ρ := rfl
theorem e_tst (m : Mo T) (ρ : Sl) : tst m ρ = bnd m asB ρ := rfl
theorem e_cand (m n : Mo Bool) (ρ : Sl) : cAnd m n ρ = bnd m (fun b => if b = true then n else ret false) ρ := rfl
theorem e_cor (m n : Mo Bool) (ρ : Sl) : cOr m n ρ = bnd m (fun b => if b = true then ret true else n) ρ := rfl
theorem e_cnot (m : Mo Bool) (ρ : Sl) : cNot m ρ = bnd m (fun b => ret (!b)) ρ := rfl
theorem e_and (m n : Mo T) (ρ : Sl) : eAnd m n ρ = bnd m (fun t => bnd (asB t) fun b => if b = true then n else ret (.dat (.bl false))) ρ := rfl
theorem e_or (m n : Mo T) (ρ : Sl) : eOr m n ρ = bnd m (fun t => bnd (asB t) fun b => if b = true then ret (.dat (.bl true)) else n) ρ := rfl
theorem e_not (m : Mo T) (ρ : Sl) : eNot m ρ = bnd m (fun t => bnd (asB t) fun b => ret (.dat (.bl !b))) ρ := rfl
theorem e_eif (c : Mo Bool) (m n : Mo T) (ρ : Sl) : eIf c m n ρ = bnd c (fun b => if b = true then m else n) ρ := rfl
theorem e_acons (m : Mo T) (n : Mo (List T)) (ρ : Sl) : aCons m n ρ = bnd m (fun t => bnd n fun ts => ret (t :: ts)) ρ := rfl
theorem e_tup (n : Mo (List T)) (ρ : Sl) : eTup n ρ = bnd n (opM (few fun ds => .dt (.tup ds))) ρ := rfl
theorem e_lst (n : Mo (List T)) (ρ : Sl) : eLst n ρ = bnd n (opM (few fun ds => .nl ds)) ρ := rfl
theorem e_c (d : D) (ρ : Sl) : eC d ρ = some (.ok (.dat d), ρ) := rfl
theorem e_osome (m : Mo T) (ρ : Sl) : oSome m ρ = bnd m asI ρ := rfl
theorem e_B (f : List D → Option Out) (n : Mo (List T)) (ρ : Sl) : eB f n ρ = bnd n (opM f) ρ := rfl
theorem e_call0 (a : Nat) (f : FnD) (dds : List D) (n : Mo (List T)) (ρ : Sl) : eCall0 a f dds n ρ = bnd n (fun ts => noX (callM a f dds ts)) ρ := rfl
theorem e_prp (C : PySem.Str) (f : FnD) (mo : Mo T) (ρ : Sl) : ePrp C f mo ρ = bnd mo (fun t => bnd (chk C "" t) fun t => noX (callM 1 f [] [t])) ρ := rfl
theorem e_met (C m : PySem.Str) (a : Nat) (f : FnD) (dds : List D) (mo : Mo T) (n : Mo (List T)) (ρ : Sl) : eMet C m a f dds mo n ρ = bnd mo (fun t => bnd (chk C m t) fun t => bnd n fun ts => noX (callM a f dds (t :: ts))) ρ := rfl
theorem e_fld (cs : List PySem.Str) (f : PySem.Str) (m : Mo T) (ρ : Sl) : eFld cs f m ρ = bnd m (fun t => opM (fldM cs f) [t]) ρ := rfl
theorem e_mak (C : PySem.Str) (a : Nat) (f : FnB) (dds : List D) (n : Mo (List T)) (ρ : Sl) : eMak C a f dds n ρ = bnd n (makM C a f dds) ρ := rfl
def mkR (r : Option (Rs D × T)) (ρ : Sl) : Option (Rs T × Sl) := match r with
  | some (.ok .non, .ins true C' ns fs) => some (.ok (.ins false C' ns fs), ρ)
  | _ => none
theorem mkR_ok (C : PySem.Str) (ns : List PySem.Str) (fs : List D) (ρ : Sl) : mkR (some (.ok .non, .ins true C ns fs)) ρ = some (.ok (.ins false C ns fs), ρ) := rfl
theorem e_makM (C : PySem.Str) (a : Nat) (f : FnB) (dds : List D) (ts : List T) (ρ : Sl) : makM C a f dds ts ρ = match frzs ts with
  | none => none
  | some ds => if (ds ++ dds).length = a then mkR (f (.ins true C [] []) (ds ++ dds)) ρ else none := by
  unfold makM
  cases frzs ts with
  | none => rfl
  | some ds =>
    dsimp only
    split
    · generalize f (.ins true C [] []) (ds ++ dds) = z
      rcases z with _ | ⟨d | _, t⟩
      · rfl
      · cases d <;> try rfl
        cases t with
        | dat _ => rfl
        | lst _ _ => rfl
        | ins b _ _ _ => cases b <;> rfl
      · rfl
    · rfl
theorem e_calO (C : PySem.Str) (a : Nat) (f : FnD) (mo : Mo T) (n : Mo (List T)) (ρ : Sl) : eCal C a f mo n ρ = bnd mo (fun t => bnd (refM t) fun t => bnd n fun ts => calM C a f (t :: ts)) ρ := rfl
end SL

set_option Elab.async false
set_option linter.all false
/-! sequences that repeat with a rise: the least period, the shortest head -/
namespace PM
def IsPer (f : Nat → Int) (p : Nat) (s : Int) (N : Nat) : Prop := ∀ n, N ≤ n → f (n + p) = f n + s
structure Canon (f : Nat → Int) (p : Nat) (s : Int) (N : Nat) : Prop where
  pos : 0 < p
  per : IsPer f p s N
  least : ∀ q s' N', 0 < q → IsPer f q s' N' → p ≤ q
  tight : ∀ N', IsPer f p s N' → N ≤ N'
variable {f : Nat → Int} {p q L N M H : Nat} {s t r : Int}
theorem IsPer.mono (h : IsPer f p s N) (l : N ≤ M) : IsPer f p s M := fun n hn => h n (Nat.le_trans l hn)
theorem IsPer.mul (h : IsPer f p s N) : ∀ k, IsPer f (p * k) (s * k) N
  | 0 => fun n hn => by simp
  | k + 1 => fun n hn => by
    have h1 := IsPer.mul h k n hn
    have h2 := h (n + p * k) (Nat.le_trans hn (Nat.le_add_right _ _))
    have e : n + p * (k + 1) = n + p * k + p := by rw [Nat.mul_succ, Nat.add_assoc]
    rw [e, h2, h1]
    have : s * ((k + 1 : Nat) : Int) = s * k + s := by rw [Int.natCast_add, Int.mul_add]; simp
    rw [this]; omega
theorem IsPer.rise (h : IsPer f p s N) (h' : IsPer f p t M) : s = t := by
  have h1 := h (max N M) (Nat.le_max_left _ _)
  have h2 := h' (max N M) (Nat.le_max_right _ _)
  omega
theorem IsPer.back (h : IsPer f L r H) (hL : 0 < L) (h' : IsPer f q t M) : IsPer f q t H := fun n hn => by
  have hk : M ≤ n + L * M := Nat.le_trans (Nat.le_mul_of_pos_left _ hL) (Nat.le_add_left _ _)
  have h1 := h' (n + L * M) hk
  have h2 := h.mul M n hn
  have h3 := h.mul M (n + q) (Nat.le_trans hn (Nat.le_add_right _ _))
  have e : n + L * M + q = n + q + L * M := by omega
  rw [e] at h1
  omega
/-- m divides the loop as the code asks -/
def OkM (f : Nat → Int) (L : Nat) (r : Int) (H m : Nat) (st : Int) : Prop := 0 < m ∧ (∃ k : Nat, L = m * k ∧ r = st * k) ∧ IsPer f m st H
/-! ### a table's row: head, loop, rise -/
/-- the value behind place n + 1 -/
def sq (h l : List Int) (r : Int) (n : Nat) : Int := if n < h.length then h.getD n 0 else l.getD ((n - h.length) % l.length) 0 + r * ((n - h.length) / l.length : Nat)
/-- the first n values -/
def row (f : Nat → Int) (a n : Nat) : List Int := (List.range n).map fun k => f (a + k)
theorem row_length (f : Nat → Int) (a n : Nat) : (row f a n).length = n := by simp [row]
theorem row_getD (f : Nat → Int) {a n k : Nat} (h : k < n) : (row f a n).getD k 0 = f (a + k) := by simp [row, List.getD, h]
/-- a row that is told by its values tells them -/
theorem sq_row (hp : 0 < p) (per : IsPer f p s N) : sq (row f 0 N) (row f N p) s = f := by
  funext n
  unfold sq
  simp only [row_length]
  by_cases h : n < N
  · rw [if_pos h, row_getD _ h]; simp
  · rw [if_neg h, row_getD _ (Nat.mod_lt _ hp)]
    have h1 := per.mul ((n - N) / p) (N + (n - N) % p) (Nat.le_add_right _ _)
    have e : N + (n - N) % p + p * ((n - N) / p) = n := by
      have := Nat.div_add_mod (n - N) p
      omega
    rw [e] at h1
    rw [h1]
/-- the plain form of a table with a loop -/
structure Plain (f : Nat → Int) (h l : List Int) (r : Int) : Prop where
  ex : ∃ p N, Canon f p r N ∧ h = row f 0 N ∧ l = row f N p
theorem Plain.sq {h l : List Int} (a : Plain f h l r) : PM.sq h l r = f := by
  obtain ⟨p, N, c, e1, e2⟩ := a.ex
  subst e1 e2
  exact sq_row c.pos c.per
theorem Plain.pos {h l : List Int} (a : Plain f h l r) : 0 < l.length := by
  obtain ⟨p, N, c, e1, e2⟩ := a.ex
  subst e2
  rw [row_length]; exact c.pos
end PM

set_option Elab.async false
set_option linter.all false
namespace PM
variable {f : Nat → Int} {p q L N M H m : Nat} {s t r st : Int} {h l : List Int}
/-- what the code asks of a shorter loop of m values -/
structure Cond (l : List Int) (r : Int) (m : Nat) : Prop where
  pos : 0 < m
  dvd : l.length % m = 0
  rs : r % ((l.length / m : Nat) : Int) = 0
  eq : ∀ k, k < l.length - m → l.getD (k + m) 0 = l.getD k 0 + r / ((l.length / m : Nat) : Int)
theorem Cond.chain (c : Cond l r m) (j : Nat) : ∀ i : Nat, j + m * i < l.length → l.getD (j + m * i) 0 = l.getD j 0 + r / ((l.length / m : Nat) : Int) * i
  | 0, _ => by simp
  | i + 1, h => by
    have e : j + m * (i + 1) = j + m * i + m := by rw [Nat.mul_succ, Nat.add_assoc]
    have h1 := c.eq (j + m * i) (by omega)
    have h2 := Cond.chain c j i (by omega)
    rw [e, h1, h2, Int.natCast_succ, Int.mul_add]
    omega
theorem Cond.ok (c : Cond l r m) (hL : 0 < l.length) : OkM (sq h l r) l.length r h.length m (r / ((l.length / m : Nat) : Int)) := by
  have hd : l.length = m * (l.length / m) := by
    have := Nat.div_add_mod l.length m
    rw [c.dvd] at this; omega
  have hk : 0 < l.length / m := by
    rcases Nat.eq_zero_or_pos (l.length / m) with z | z
    · rw [z] at hd; omega
    · exact z
  have hr : r = r / ((l.length / m : Nat) : Int) * ((l.length / m : Nat) : Int) := by
    have := Int.emod_add_mul_ediv r ((l.length / m : Nat) : Int)
    rw [c.rs] at this
    rw [Int.mul_comm]; omega
  have ch := c.chain
  have ce := c.eq
  refine ⟨c.pos, ⟨_, hd, hr⟩, fun n hn => ?_⟩
  generalize l.length / m = k at *
  generalize r / (k : Int) = st at *
  obtain ⟨j, rfl⟩ : ∃ j, n = h.length + j := ⟨n - h.length, by omega⟩
  have hj := Nat.div_add_mod j l.length
  have hb := Nat.mod_lt j hL
  unfold sq
  rw [if_neg (by omega), if_neg (by omega)]
  have e1 : h.length + j + m - h.length = j + m := by omega
  have e2 : h.length + j - h.length = j := by omega
  rw [e1, e2]
  generalize j / l.length = a at *
  generalize j % l.length = b at *
  by_cases hw : b + m < l.length
  · have e3 : (j + m) % l.length = b + m := by
      rw [← hj, Nat.add_assoc, Nat.mul_add_mod, Nat.mod_eq_of_lt hw]
    have e4 : (j + m) / l.length = a := by
      rw [← hj, Nat.add_assoc, Nat.mul_add_div hL, Nat.div_eq_of_lt hw]; rfl
    rw [e3, e4, ce b (by omega)]
    omega
  · have hm : m ≤ l.length := by rw [hd]; exact Nat.le_mul_of_pos_right _ hk
    obtain ⟨c', hc'⟩ : ∃ c', b + m = l.length + c' := ⟨b + m - l.length, by omega⟩
    have hlt : c' < l.length := by omega
    have e3 : (j + m) % l.length = c' := by
      have : j + m = l.length * (a + 1) + c' := by rw [Nat.mul_succ]; omega
      rw [this, Nat.mul_add_mod, Nat.mod_eq_of_lt hlt]
    have e4 : (j + m) / l.length = a + 1 := by
      have : j + m = l.length * (a + 1) + c' := by rw [Nat.mul_succ]; omega
      rw [this, Nat.mul_add_div hL, Nat.div_eq_of_lt hlt]
    obtain ⟨k', rfl⟩ : ∃ k', k = k' + 1 := ⟨k - 1, by omega⟩
    have hb2 : b = c' + m * k' := by rw [Nat.mul_succ] at hd; omega
    have h3 := ch c' k' (by omega)
    rw [← hb2] at h3
    rw [e3, e4, h3]
    rw [Int.natCast_succ, Int.mul_add] at hr
    rw [Int.natCast_succ, Int.mul_add]
    omega
theorem Cond.self (hL : 0 < l.length) : Cond l r l.length := ⟨hL, Nat.mod_self _, by rw [Nat.div_self hL]; exact Int.emod_one _, fun k hk => by omega⟩
theorem Cond.le (c : Cond l r m) (hL : 0 < l.length) : m ≤ l.length := Nat.le_of_dvd hL (Nat.dvd_of_mod_eq_zero c.dvd)
end PM

set_option Elab.async false
set_option linter.all false
set_option maxRecDepth 100000
/-! loops, comprehensions -/
namespace SL
theorem e_for (m : Mo (List D)) (p : Pat) (b : So) (ρ : Sl) : sFor m p b ρ = match m ρ with
  | none => none
  | some (.exc x, ρ') => some (.exc x, ρ')
  | some (.ok xs, ρ') => forL p b xs ρ' := by unfold sFor toS; rcases m ρ with _ | ⟨_ | _, _⟩ <;> rfl
theorem e_rng (f : List D → Option (List D)) (n : Mo (List T)) (ρ : Sl) : iOf f n ρ = match n ρ with
  | none => none
  | some (.exc x, ρ') => some (.exc x, ρ')
  | some (.ok ts, ρ') => match frzs ts with
    | none => none
    | some ds => match f ds with
      | none => none
      | some xs => some (.ok xs, ρ') := by unfold iOf bnd; rcases n ρ with _ | ⟨_ | _, _⟩ <;> rfl
theorem e_iseq (m : Mo T) (ρ : Sl) : iSeq m ρ = match m ρ with
  | none => none
  | some (.exc x, ρ') => some (.exc x, ρ')
  | some (.ok t, ρ') => if t.brw = true then none else match itemsD t.fz with
    | none => none
    | some xs => some (.ok xs, ρ') := by unfold iSeq bnd; rcases m ρ with _ | ⟨_ | _, _⟩ <;> rfl
theorem it_l (xs : List D) : itemsD (.lst xs) = some xs := rfl
theorem rng1_n {n : Nat} (h : n ≤ 100000) : rng1 [.int (n : Nat)] = some (rngD 0 n) := by
  show (if -100000 ≤ (n : Int) ∧ (n : Int) ≤ 100000 then some (rngD 0 (n : Int).toNat) else none) = _
  rw [if_pos (by omega), Int.toNat_natCast]
theorem rngD_length (i : Int) (n : Nat) : (rngD i n).length = n := by simp [rngD]
theorem rngD_get {i : Int} {n k : Nat} {d : D} (h : (rngD i n)[k]? = some d) : k < n ∧ d = .int (i + (k : Nat)) := by
  unfold rngD at h
  rw [List.getElem?_map] at h
  rcases Nat.lt_or_ge k n with hk | hk
  · rw [List.getElem?_range hk] at h
    cases h
    exact ⟨hk, rfl⟩
  · rw [List.getElem?_eq_none (by simpa using hk)] at h
    cases h
/-- a loop by what holds behind i turns -/
theorem for_inv {p : Pat} {b : So} : ∀ (xs : List D) (P : Nat → Sl → Prop) (ρ0 : Sl), (∀ i d ρ, xs[i]? = some d → P i ρ → ∃ ρ1 ρ2, asgP p d ρ = some ρ1 ∧ (b ρ1 = some (.next, ρ2) ∨ b ρ1 = some (.cont, ρ2)) ∧ P (i + 1) ρ2) → P 0 ρ0 → ∃ ρ', forL p b xs ρ0 = some (.next, ρ') ∧ P xs.length ρ'
  | [], P, ρ0, _, h0 => ⟨ρ0, rfl, h0⟩
  | d :: xs, P, ρ0, h, h0 => by
    obtain ⟨ρ1, ρ2, h1, h2, h3⟩ := h 0 d ρ0 rfl h0
    obtain ⟨ρ', e1, e2⟩ := for_inv xs (fun i => P (i + 1)) ρ2 (fun i d ρ hd hp => h (i + 1) d ρ hd hp) h3
    refine ⟨ρ', ?_, e2⟩
    unfold forL
    rw [h1]
    dsimp only
    rcases h2 with h2 | h2 <;> rw [h2] <;> exact e1
theorem cut_to {α : Type} (xs : List α) (m : Nat) : cut xs none (some (m : Int)) = xs.take m := by
  unfold cut
  rw [HT.sIx_none, HT.sIx_nat]
  simp
theorem seq_next {s u : So} {ρ ρ1 : Sl} (h : s ρ = some (.next, ρ1)) : sSeq s u ρ = u ρ1 := by rw [e_seq, h]
theorem seq_ret {s u : So} {ρ ρ1 : Sl} {t : T} (h : s ρ = some (.ret t, ρ1)) : sSeq s u ρ = some (.ret t, ρ1) := by rw [e_seq, h]
theorem if_t {c : Mo Bool} {s u : So} {ρ ρ1 : Sl} (h : c ρ = some (.ok true, ρ1)) : sIf c s u ρ = s ρ1 := by rw [e_if, h]; rfl
theorem if_f {c : Mo Bool} {s u : So} {ρ ρ1 : Sl} (h : c ρ = some (.ok false, ρ1)) : sIf c s u ρ = u ρ1 := by rw [e_if, h]; rfl
/-! lists of ints, of bools -/
theorem atI_nat {α : Type} {l : List α} {k : Nat} (h : k < l.length) : L2.atI l (k : Int) = l[k]? := by
  unfold L2.atI L2.ixN
  rw [if_pos (by omega), if_pos (by omega)]
  simp
end SL

set_option Elab.async false
set_option linter.all false
set_option maxRecDepth 100000
set_option maxHeartbeats 400000
/-! bodies read backwards, step by step -/
namespace SL
variable {α β : Type} {m ma mb mo : Mo T} {n : Mo (List T)} {c c2 : Mo Bool} {ρ ρ' : Sl} {s u b : So} {i j k : Nat} {d e z : D} {xs ys : List D} {t : T}
structure We (m : Mo α) (ρ : Sl) (Q : α → Sl → Prop) : Prop where
  ex : ∃ a ρ', m ρ = some (.ok a, ρ') ∧ Q a ρ'
structure Ws (s : So) (ρ : Sl) (Q : Fl → Sl → Prop) : Prop where
  ex : ∃ fl ρ', s ρ = some (fl, ρ') ∧ Q fl ρ'
/-- a value of which only its data counts -/
structure Fd (Q : D → Sl → Prop) (t : T) (ρ : Sl) : Prop where
  b : t.brw = false
  q : Q t.fz ρ
structure Fds (Q : List D → Sl → Prop) (ts : List T) (ρ : Sl) : Prop where
  ex : ∃ ds, frzs ts = some ds ∧ Q ds ρ
theorem fd_d {Q : D → Sl → Prop} (h : Q d ρ) : Fd Q (.dat d) ρ := ⟨rfl, h⟩
theorem fd_l {Q : D → Sl → Prop} (h : Q (.lst xs) ρ) : Fd Q (.lst false xs) ρ := ⟨rfl, h⟩
theorem fd_i {Q : D → Sl → Prop} {C ns} (h : Q (.obj C ns xs) ρ) : Fd Q (.ins false C ns xs) ρ := ⟨rfl, h⟩
def outT : Out → T
  | .dt d => .dat d
  | .nl xs => .lst false xs
theorem out_eq (o : Out) (ρ : Sl) : outM (some o) ρ = some (.ok (outT o), ρ) := by cases o <;> rfl
/-- what a built-in operation gives -/
structure Op (r : Option Out) (Q : T → Prop) : Prop where
  ex : ∃ o, r = some o ∧ Q (outT o)
theorem op_dt {r : Option Out} {Q : T → Prop} (h : r = some (.dt z)) (q : Q (.dat z)) : Op r Q := ⟨_, h, q⟩
theorem op_nl {r : Option Out} {Q : T → Prop} (h : r = some (.nl xs)) (q : Q (.lst false xs)) : Op r Q := ⟨_, h, q⟩
/-- what a def gives -/
structure Cl (r : Option (Rs T)) (Q : T → Prop) : Prop where
  ex : ∃ t, r = some (.ok t) ∧ t.brw = false ∧ Q t
theorem cl_d {r : Option (Rs T)} {Q : T → Prop} (h : r = some (.ok (.dat d))) (q : Q (.dat d)) : Cl r Q := ⟨_, h, rfl, q⟩
theorem cl_l {r : Option (Rs T)} {Q : T → Prop} (h : r = some (.ok (.lst false xs))) (q : Q (.lst false xs)) : Cl r Q := ⟨_, h, rfl, q⟩
/-- what a def gives that changes a list -/
structure ClL (r : Option (Rs D × T)) (Q : D → List D → Prop) : Prop where
  ex : ∃ d ys, r = some (.ok d, .lst true ys) ∧ Q d ys
structure Mk (r : Option (Rs D × T)) (Q : T → Prop) : Prop where
  ex : ∃ C ns fs, r = some (.ok .non, .ins true C ns fs) ∧ Q (.ins false C ns fs)
structure Bl (d : D) (Q : Bool → Prop) : Prop where
  ex : ∃ b, d = .bl b ∧ Q b
theorem bl_i {b : Bool} {Q : Bool → Prop} (q : Q b) : Bl (.bl b) Q := ⟨_, rfl, q⟩
structure Bt (b : Bool) (A B : Prop) : Prop where
  tr : b = true → A
  fa : b = false → B
theorem br_true {A B : Prop} (a : A) : Bt true A B := ⟨fun _ => a, fun h => Bool.noConfusion h⟩
theorem br_false {A B : Prop} (a : B) : Bt false A B := ⟨fun h => Bool.noConfusion h, fun _ => a⟩
theorem br_not {b : Bool} {A B : Prop} (a : Bt b B A) : Bt (!b) A B := ⟨fun h => a.fa (by simpa using h), fun h => a.tr (by simpa using h)⟩
theorem br_t {b : Bool} {A B : Prop} (h : b = true) (a : A) : Bt b A B := by subst h; exact br_true a
theorem br_f {b : Bool} {A B : Prop} (h : b = false) (a : B) : Bt b A B := by subst h; exact br_false a
theorem br_s {b : Bool} {A B : Prop} (h : b = true → A) (h2 : b = false → B) : Bt b A B := ⟨h, h2⟩
theorem br_or_t {b : Bool} {A B : Prop} (a : A) : Bt (true || b) A B := by rw [Bool.true_or]; exact br_true a
theorem br_or_f {b : Bool} {A B : Prop} (a : Bt b A B) : Bt (false || b) A B := by rw [Bool.false_or]; exact a
theorem br_and_t {b : Bool} {A B : Prop} (a : Bt b A B) : Bt (true && b) A B := by rw [Bool.true_and]; exact a
theorem br_and_f {b : Bool} {A B : Prop} (a : B) : Bt (false && b) A B := by rw [Bool.false_and]; exact br_false a
theorem br_dt {P : Prop} [Decidable P] {A B : Prop} (h : P) (a : A) : Bt (decide P) A B := br_t (decide_eq_true h) a
theorem br_df {P : Prop} [Decidable P] {A B : Prop} (h : ¬ P) (a : B) : Bt (decide P) A B := br_f (decide_eq_false h) a
theorem br_ds {P : Prop} [Decidable P] {A B : Prop} (h : P → A) (h2 : ¬ P → B) : Bt (decide P) A B := ⟨fun x => h (of_decide_eq_true x), fun x => h2 (of_decide_eq_false x)⟩
theorem we_eq {m : Mo α} {a : α} {Q : α → Sl → Prop} (h : m ρ = some (.ok a, ρ')) (q : Q a ρ') : We m ρ Q := ⟨_, _, h, q⟩
theorem We.mono {m : Mo α} {P Q : α → Sl → Prop} (h : We m ρ P) (q : ∀ a ρ', P a ρ' → Q a ρ') : We m ρ Q := let ⟨a, r, e, p⟩ := h; ⟨a, r, e, q a r p⟩
theorem Ws.mono {P Q : Fl → Sl → Prop} (h : Ws s ρ P) (q : ∀ a ρ', P a ρ' → Q a ρ') : Ws s ρ Q := let ⟨a, r, e, p⟩ := h; ⟨a, r, e, q a r p⟩
theorem we_c {Q : T → Sl → Prop} (q : Q (.dat d) ρ) : We (eC d) ρ Q := ⟨_, _, rfl, q⟩
theorem set_same {l : Sl} {t : T} (h : l[i]? = some (some t)) : l.set i (some t) = l := by
  apply List.ext_getElem?
  intro k
  by_cases e : k = i
  · subst e
    have := (List.getElem?_eq_some_iff.mp h).1
    rw [List.getElem?_set_self this, h]
  · rw [List.getElem?_set_ne (Ne.symm e)]
theorem we_var {Q : T → Sl → Prop} (h : ρ[i]? = some (some (.dat d))) (q : Q (.dat d) ρ) : We (eVar i) ρ Q := by
  refine ⟨_, ρ, ?_, q⟩
  rw [e_var, h]
  show some (Rs.ok (T.dat d), ρ.set i (some (.dat d))) = _
  rw [set_same h]
theorem we_varl {Q : T → Sl → Prop} (h : ρ[i]? = some (some (.lst false xs))) (hs : ρ.set i (some (.dat (.lst xs))) = ρ') (q : Q (.dat (.lst xs)) ρ') : We (eVar i) ρ Q := by
  subst hs
  refine ⟨_, _, ?_, q⟩
  rw [e_var, h]
  rfl
theorem we_vari {Q : T → Sl → Prop} {C ns} (h : ρ[i]? = some (some (.ins false C ns xs))) (hs : ρ.set i (some (.dat (.obj C ns xs))) = ρ') (q : Q (.dat (.obj C ns xs)) ρ') : We (eVar i) ρ Q := by
  subst hs
  refine ⟨_, _, ?_, q⟩
  rw [e_var, h]
  rfl
theorem fz_two {x y : T} (hx : x.brw = false) (hy : y.brw = false) : frzs [x, y] = some [x.fz, y.fz] := by simp [frzs, hx, hy]
theorem fz_one {x : T} (hx : x.brw = false) : frzs [x] = some [x.fz] := by simp [frzs, hx]
theorem fz_cons {x : T} {ts : List T} {ds : List D} (hx : x.brw = false) (h : frzs ts = some ds) : frzs (x :: ts) = some (x.fz :: ds) := by
  unfold frzs at h ⊢
  split at h
  · cases h
  · next z => cases h; simp [hx]; simpa using z
theorem we_bin {f : D → D → Option Out} {Q : T → Sl → Prop} (h : We ma ρ (Fd fun d ρ1 => We mb ρ1 (Fd fun e ρ2 => Op (f d e) fun t => Q t ρ2))) : We (bin f ma mb) ρ Q := by
  obtain ⟨x, r1, e1, b1, y, r2, e2, b2, o, e3, q⟩ := h
  refine ⟨outT o, r2, ?_, q⟩
  rw [e_bin, e_bnd, e1]; dsimp only
  rw [e_bnd, e2]; dsimp only
  rw [e_opM, fz_two b1 b2]
  show outM (f x.fz y.fz) r2 = _
  rw [e3, out_eq]
theorem we_una {f : D → Option Out} {Q : T → Sl → Prop} (h : We ma ρ (Fd fun d ρ1 => Op (f d) fun t => Q t ρ1)) : We (una f ma) ρ Q := by
  obtain ⟨x, r1, e1, b1, o, e3, q⟩ := h
  refine ⟨outT o, r1, ?_, q⟩
  rw [e_una, e_bnd, e1]; dsimp only
  rw [e_opM, fz_one b1]
  show outM (f x.fz) r1 = _
  rw [e3, out_eq]
theorem asB_of {x : T} {bb : Bool} (h : x.brw = false) (e : x.fz = .bl bb) (r : Sl) : asB x r = some (.ok bb, r) := by
  cases x with
  | dat d => cases e; rfl
  | lst _ _ => cases e
  | ins _ _ _ _ => cases e
theorem we_tst {Q : Bool → Sl → Prop} (h : We m ρ (Fd fun d ρ1 => Bl d fun b => Q b ρ1)) : We (tst m) ρ Q := by
  obtain ⟨x, r1, e1, b1, bb, e2, q⟩ := h
  refine ⟨bb, r1, ?_, q⟩
  rw [e_tst, e_bnd, e1]; exact asB_of b1 e2 r1
theorem we_cand {Q : Bool → Sl → Prop} (h : We c ρ fun b ρ1 => Bt b (We c2 ρ1 Q) (Q false ρ1)) : We (cAnd c c2) ρ Q := by
  obtain ⟨b, r1, e1, h1, h2⟩ := h
  cases b with
  | true => obtain ⟨a, r, e, q⟩ := h1 rfl; exact ⟨a, r, by rw [e_cand, e_bnd, e1]; exact e, q⟩
  | false => exact ⟨false, r1, by rw [e_cand, e_bnd, e1]; rfl, h2 rfl⟩
theorem we_cor {Q : Bool → Sl → Prop} (h : We c ρ fun b ρ1 => Bt b (Q true ρ1) (We c2 ρ1 Q)) : We (cOr c c2) ρ Q := by
  obtain ⟨b, r1, e1, h1, h2⟩ := h
  cases b with
  | false => obtain ⟨a, r, e, q⟩ := h2 rfl; exact ⟨a, r, by rw [e_cor, e_bnd, e1]; exact e, q⟩
  | true => exact ⟨true, r1, by rw [e_cor, e_bnd, e1]; rfl, h1 rfl⟩
theorem we_cnot {Q : Bool → Sl → Prop} (h : We c ρ fun b ρ1 => Q (!b) ρ1) : We (cNot c) ρ Q := by
  obtain ⟨b, r1, e1, q⟩ := h
  exact ⟨!b, r1, by rw [e_cnot, e_bnd, e1]; rfl, q⟩
theorem we_and {Q : T → Sl → Prop} (h : We m ρ (Fd fun d ρ1 => Bl d fun b => Bt b (We mb ρ1 Q) (Q (.dat (.bl false)) ρ1))) : We (eAnd m mb) ρ Q := by
  obtain ⟨x, r1, e1, b1, bb, e2, h1, h2⟩ := h
  cases bb with
  | true => obtain ⟨a, r, e, q⟩ := h1 rfl; exact ⟨a, r, by rw [e_and, e_bnd, e1]; dsimp only; rw [e_bnd, asB_of b1 e2]; exact e, q⟩
  | false => exact ⟨_, r1, by rw [e_and, e_bnd, e1]; dsimp only; rw [e_bnd, asB_of b1 e2]; rfl, h2 rfl⟩
theorem we_or {Q : T → Sl → Prop} (h : We m ρ (Fd fun d ρ1 => Bl d fun b => Bt b (Q (.dat (.bl true)) ρ1) (We mb ρ1 Q))) : We (eOr m mb) ρ Q := by
  obtain ⟨x, r1, e1, b1, bb, e2, h1, h2⟩ := h
  cases bb with
  | false => obtain ⟨a, r, e, q⟩ := h2 rfl; exact ⟨a, r, by rw [e_or, e_bnd, e1]; dsimp only; rw [e_bnd, asB_of b1 e2]; exact e, q⟩
  | true => exact ⟨_, r1, by rw [e_or, e_bnd, e1]; dsimp only; rw [e_bnd, asB_of b1 e2]; rfl, h1 rfl⟩
theorem we_not {Q : T → Sl → Prop} (h : We m ρ (Fd fun d ρ1 => Bl d fun b => Q (.dat (.bl !b)) ρ1)) : We (eNot m) ρ Q := by
  obtain ⟨x, r1, e1, b1, bb, e2, q⟩ := h
  exact ⟨_, r1, by rw [e_not, e_bnd, e1]; dsimp only; rw [e_bnd, asB_of b1 e2]; rfl, q⟩
theorem we_if {Q : T → Sl → Prop} (h : We c ρ fun b ρ1 => Bt b (We ma ρ1 Q) (We mb ρ1 Q)) : We (eIf c ma mb) ρ Q := by
  obtain ⟨bb, r1, e1, h1, h2⟩ := h
  cases bb with
  | true => obtain ⟨a, r, e, q⟩ := h1 rfl; exact ⟨a, r, by rw [e_eif, e_bnd, e1]; exact e, q⟩
  | false => obtain ⟨a, r, e, q⟩ := h2 rfl; exact ⟨a, r, by rw [e_eif, e_bnd, e1]; exact e, q⟩
theorem wa_nil {Q : List D → Sl → Prop} (q : Q [] ρ) : We (ret []) ρ (Fds Q) := ⟨_, _, rfl, [], rfl, q⟩
theorem wa_cons {Q : List D → Sl → Prop} (h : We m ρ (Fd fun d ρ1 => We n ρ1 (Fds fun ds ρ2 => Q (d :: ds) ρ2))) : We (aCons m n) ρ (Fds Q) := by
  obtain ⟨x, r1, e1, b1, ts, r2, e2, ds, e3, q⟩ := h
  refine ⟨x :: ts, r2, ?_, x.fz :: ds, fz_cons b1 e3, q⟩
  rw [e_acons, e_bnd, e1]; dsimp only
  rw [e_bnd, e2]; rfl
/-- arguments as they are -/
theorem wt_nil {Q : List T → Sl → Prop} (q : Q [] ρ) : We (ret []) ρ Q := ⟨_, _, rfl, q⟩
theorem wt_cons {Q : List T → Sl → Prop} (h : We m ρ fun t ρ1 => We n ρ1 fun ts ρ2 => Q (t :: ts) ρ2) : We (aCons m n) ρ Q := by
  obtain ⟨x, r1, e1, ts, r2, e2, q⟩ := h
  refine ⟨x :: ts, r2, ?_, q⟩
  rw [e_acons, e_bnd, e1]; dsimp only
  rw [e_bnd, e2]; rfl
theorem we_opA {f : List D → Option Out} {Q : T → Sl → Prop} (h : We n ρ (Fds fun ds ρ1 => Op (f ds) fun t => Q t ρ1)) : We (bnd n (opM f)) ρ Q := by
  obtain ⟨ts, r1, e1, ds, e2, o, e3, q⟩ := h
  refine ⟨outT o, r1, ?_, q⟩
  rw [e_bnd, e1]; dsimp only
  rw [e_opM, e2]; dsimp only
  rw [e3, out_eq]
theorem we_B {f : List D → Option Out} {Q : T → Sl → Prop} (h : We n ρ (Fds fun ds ρ1 => Op (f ds) fun t => Q t ρ1)) : We (eB f n) ρ Q := we_opA h
theorem we_tup {Q : T → Sl → Prop} (h : We n ρ (Fds fun ds ρ1 => ds.length ≤ 100000 ∧ Q (.dat (.tup ds)) ρ1)) : We (eTup n) ρ Q := we_opA (h.mono fun ts r ⟨ds, e, l, q⟩ => ⟨ds, e, .dt (.tup ds), by unfold few; rw [if_pos l], q⟩)
theorem we_lst {Q : T → Sl → Prop} (h : We n ρ (Fds fun ds ρ1 => ds.length ≤ 100000 ∧ Q (.lst false ds) ρ1)) : We (eLst n) ρ Q := we_opA (h.mono fun ts r ⟨ds, e, l, q⟩ => ⟨ds, e, .nl ds, by unfold few; rw [if_pos l], q⟩)
theorem we_tup0 {Q : T → Sl → Prop} (q : Q (.dat (.tup [])) ρ) : We (eTup (ret [])) ρ Q := we_tup (wa_nil ⟨by decide, q⟩)
theorem we_lst0 {Q : T → Sl → Prop} (q : Q (.lst false []) ρ) : We (eLst (ret [])) ρ Q := we_lst (wa_nil ⟨by decide, q⟩)
theorem atS_of {ρ : Sl} (h : ρ[i]? = some (some t)) : atS i ρ = some t := by unfold atS; rw [h]
theorem we_s1d {f : D → Option Out} {Q : T → Sl → Prop} (h : ρ[i]? = some (some (.dat d))) (q : Op (f d) fun t => Q t ρ) : We (s1M f i) ρ Q := by
  obtain ⟨o, e, q⟩ := q
  exact ⟨outT o, ρ, by rw [e_s1, atS_of h]; show outM (f d) ρ = _; rw [e, out_eq], q⟩
theorem we_s1l {f : D → Option Out} {Q : T → Sl → Prop} {bb : Bool} (h : ρ[i]? = some (some (.lst bb xs))) (q : Op (f (.lst xs)) fun t => Q t ρ) : We (s1M f i) ρ Q := by
  obtain ⟨o, e, q⟩ := q
  exact ⟨outT o, ρ, by rw [e_s1, atS_of h]; show outM (f (.lst xs)) ρ = _; rw [e, out_eq], q⟩
theorem we_s1i {f : D → Option Out} {Q : T → Sl → Prop} {bb : Bool} {C ns} (h : ρ[i]? = some (some (.ins bb C ns xs))) (q : Op (f (.obj C ns xs)) fun t => Q t ρ) : We (s1M f i) ρ Q := by
  obtain ⟨o, e, q⟩ := q
  exact ⟨outT o, ρ, by rw [e_s1, atS_of h]; show outM (f (.obj C ns xs)) ρ = _; rw [e, out_eq], q⟩
theorem we_s2 {f : D → D → Option Out} {Q : T → Sl → Prop} {t0 : T} (h : ρ[i]? = some (some t0)) (q : We mb ρ (Fd fun e ρ1 => ∃ t, ρ1[i]? = some (some t) ∧ Op (f t.fz e) fun t => Q t ρ1)) : We (s2M f i mb) ρ Q := by
  obtain ⟨y, r, e1, b1, t, e2, o, e3, q⟩ := q
  refine ⟨outT o, r, ?_, q⟩
  rw [e_s2, atS_of h]; dsimp only
  rw [e1]; dsimp only
  rw [if_neg (by rw [b1]; decide), atS_of e2]; dsimp only
  rw [e3, out_eq]
theorem we_s2d {f : D → D → Option Out} {Q : T → Sl → Prop} (h : ρ[i]? = some (some (.dat d))) (q : We mb ρ (Fd fun e ρ1 => ρ1[i]? = some (some (.dat d)) ∧ Op (f d e) fun t => Q t ρ1)) : We (s2M f i mb) ρ Q :=
  we_s2 h (q.mono fun _ _ ⟨b1, e2, q⟩ => ⟨b1, _, e2, q⟩)
theorem we_s2l {f : D → D → Option Out} {Q : T → Sl → Prop} {bb : Bool} (h : ρ[i]? = some (some (.lst bb xs))) (q : We mb ρ (Fd fun e ρ1 => ρ1[i]? = some (some (.lst bb xs)) ∧ Op (f (.lst xs) e) fun t => Q t ρ1)) : We (s2M f i mb) ρ Q :=
  we_s2 h (q.mono fun _ _ ⟨b1, e2, q⟩ => ⟨b1, _, e2, q⟩)
theorem wo_none {Q : Option Int → Sl → Prop} (q : Q none ρ) : We (ret none) ρ Q := ⟨_, _, rfl, q⟩
theorem wo_some {Q : Option Int → Sl → Prop} (h : We m ρ (Fd fun d ρ1 => ∃ v : Int, d = .int v ∧ Q (some v) ρ1)) : We (oSome m) ρ Q := by
  obtain ⟨x, r, e1, b1, v, e2, q⟩ := h
  refine ⟨some v, r, ?_, q⟩
  rw [e_osome, e_bnd, e1]
  cases x with
  | dat d => cases e2; rfl
  | lst _ _ => cases e2
  | ins _ _ _ _ => cases e2
theorem we_sSl {f : D → Option Int → Option Int → Option Out} {ml mh : Mo (Option Int)} {Q : T → Sl → Prop} {t0 : T} (h : ρ[i]? = some (some t0)) (q : We ml ρ fun lo ρ1 => We mh ρ1 fun hi ρ2 => ∃ t, ρ2[i]? = some (some t) ∧ Op (f t.fz lo hi) fun t => Q t ρ2) : We (sSlM f i ml mh) ρ Q := by
  obtain ⟨lo, r1, e1, hi, r2, e2, t, e3, o, e4, q⟩ := q
  refine ⟨outT o, r2, ?_, q⟩
  rw [e_sl, atS_of h]; dsimp only
  rw [e1]; dsimp only
  rw [e2]; dsimp only
  rw [atS_of e3]; dsimp only
  rw [e4, out_eq]
theorem we_sSld {f : D → Option Int → Option Int → Option Out} {ml mh : Mo (Option Int)} {Q : T → Sl → Prop} (h : ρ[i]? = some (some (.dat d))) (q : We ml ρ fun lo ρ1 => We mh ρ1 fun hi ρ2 => ρ2[i]? = some (some (.dat d)) ∧ Op (f d lo hi) fun t => Q t ρ2) : We (sSlM f i ml mh) ρ Q :=
  we_sSl h (q.mono fun _ _ q => q.mono fun _ _ ⟨e, q⟩ => ⟨_, e, q⟩)
theorem we_sSll {f : D → Option Int → Option Int → Option Out} {ml mh : Mo (Option Int)} {Q : T → Sl → Prop} {bb : Bool} (h : ρ[i]? = some (some (.lst bb xs))) (q : We ml ρ fun lo ρ1 => We mh ρ1 fun hi ρ2 => ρ2[i]? = some (some (.lst bb xs)) ∧ Op (f (.lst xs) lo hi) fun t => Q t ρ2) : We (sSlM f i ml mh) ρ Q :=
  we_sSl h (q.mono fun _ _ q => q.mono fun _ _ ⟨e, q⟩ => ⟨_, e, q⟩)
theorem we_eSl {f : D → Option Int → Option Int → Option Out} {ml mh : Mo (Option Int)} {Q : T → Sl → Prop} (q : We m ρ (Fd fun d ρ0 => We ml ρ0 fun lo ρ1 => We mh ρ1 fun hi ρ2 => Op (f d lo hi) fun t => Q t ρ2)) : We (eSl f m ml mh) ρ Q := by
  obtain ⟨x, r0, e0, b0, lo, r1, e1, hi, r2, e2, o, e4, q⟩ := q
  refine ⟨outT o, r2, ?_, q⟩
  unfold eSl
  rw [e_bnd, e0]; dsimp only
  rw [e_bnd, e1]; dsimp only
  rw [e_bnd, e2]; dsimp only
  rw [e_opM, fz_one b0]
  show outM (f x.fz lo hi) r2 = _
  rw [e4, out_eq]
theorem e_callM_ok {a : Nat} {f : FnD} {dds : List D} {ts : List T} {ds : List D} {t : T} (h1 : frzs ts = some ds) (h2 : (ds ++ dds).length = a) (h3 : f (ds ++ dds) = some (.ok t)) (h4 : t.brw = false) (ρ : Sl) : callM a f dds ts ρ = some (.ok t, ρ) := by
  rw [e_callM, h1]; dsimp only
  rw [if_pos h2, h3]; dsimp only
  rw [if_neg (by rw [h4]; decide)]
theorem we_call0 {a : Nat} {f : FnD} {Q : T → Sl → Prop} (h : We n ρ (Fds fun ds ρ1 => ds.length = a ∧ Cl (f ds) fun t => Q t ρ1)) : We (eCall0 a f [] n) ρ Q := by
  obtain ⟨ts, r1, e1, ds, e2, l, t, e3, b, q⟩ := h
  refine ⟨t, r1, ?_, q⟩
  rw [e_call0, e_bnd, e1]; dsimp only
  rw [e_noX, e_callM_ok e2 (by simpa using l) (by simpa using e3) b]
/-- the state behind a store -/
structure St' (r : Sl) (i : Nat) (t : T) (P : Sl → Prop) : Prop where
  l : i < r.length
  p : P (r.set i (some t))
theorem st_i {r r2 : Sl} {P : Sl → Prop} (hs : r.set i (some t) = r2) (hl : i < r.length) (p : P r2) : St' r i t P := by subst hs; exact ⟨hl, p⟩
theorem we_callB {f : FnB} {Q : T → Sl → Prop} {t0 : T} (h0 : ρ[i]? = some (some t0)) (h : We n ρ (Fds fun ds ρ1 => ∃ bb xs, ρ1[i]? = some (some (.lst bb xs)) ∧ ds.length = k ∧ ClL (f (.lst true xs) ds) fun d ys => St' ρ1 i (.lst bb ys) fun r => Q (.dat d) r)) : We (eCallB k f i n) ρ Q := by
  obtain ⟨ts, r1, e1, ds, e2, bb, xs, e3, l, d, ys, e4, q⟩ := h
  refine ⟨_, _, ?_, q.p⟩
  unfold eCallB
  rw [atS_of h0]; dsimp only
  rw [e_bnd, e1]; dsimp only
  rw [e2, atS_of e3]; dsimp only
  rw [if_pos ⟨rfl, l⟩]
  have e5 : f (T.setB true (T.lst bb xs)) ds = some (.ok d, .lst true ys) := e4
  rw [e5]
  rfl
/-- the list that is lent stands in slot i -/
theorem we_callBl {f : FnB} {Q : T → Sl → Prop} {bb : Bool} (h0 : ρ[i]? = some (some (.lst bb xs))) (h : We n ρ (Fds fun ds ρ1 => ρ1[i]? = some (some (.lst bb xs)) ∧ ds.length = k ∧ ClL (f (.lst true xs) ds) fun d ys => St' ρ1 i (.lst bb ys) fun r => Q (.dat d) r)) : We (eCallB k f i n) ρ Q :=
  we_callB h0 (h.mono fun _ _ ⟨ds, e, h1, h2, h3⟩ => ⟨ds, e, _, _, h1, h2, h3⟩)
theorem we_callT {f : FnB} {Q : T → Sl → Prop} (h : We m ρ fun t ρ1 => We n ρ1 (Fds fun ds ρ2 => ∃ xs, t = .lst false xs ∧ ds.length = k ∧ ClL (f (.lst true xs) ds) fun d ys => Q (.dat d) ρ2)) : We (eCallT k f (aCons m n)) ρ Q := by
  obtain ⟨t, r1, e1, ts, r2, e2, ds, e3, xs, rfl, l, d, ys, e4, q⟩ := h
  refine ⟨_, r2, ?_, q⟩
  unfold eCallT
  rw [e_bnd, e_acons, e_bnd, e1]; dsimp only
  rw [e_bnd, e2]; dsimp only
  rw [e_ret]; dsimp only
  unfold tmpM
  dsimp only
  rw [e3]; dsimp only
  rw [if_pos ⟨rfl, rfl, l⟩]
  have e5 : f (T.setB true (T.lst false xs)) ds = some (.ok d, .lst true ys) := e4
  rw [e5]
  rfl
theorem we_mak {C : PySem.Str} {a : Nat} {f : FnB} {dds : List D} {Q : T → Sl → Prop} (h : We n ρ (Fds fun ds ρ1 => (ds ++ dds).length = a ∧ Mk (f (.ins true C [] []) (ds ++ dds)) fun t => Q t ρ1)) : We (eMak C a f dds n) ρ Q := by
  obtain ⟨ts, r1, e1, ds, e2, l, C', ns, fs, e3, q⟩ := h
  refine ⟨_, r1, ?_, q⟩
  rw [e_mak, e_bnd, e1]; dsimp only
  rw [e_makM, e2]; dsimp only
  rw [if_pos l, e3, mkR_ok]
/-- an instance of C -/
structure Ob (C m : PySem.Str) (d : D) (P : Prop) : Prop where
  o : ∃ ns fs, d = .obj C ns fs ∧ ns.contains m = false
  p : P
theorem ob_i {C m : PySem.Str} {ns : List PySem.Str} {fs : List D} {P : Prop} (h : ns.contains m = false) (p : P) : Ob C m (.obj C ns fs) P := ⟨⟨_, _, rfl, h⟩, p⟩
theorem chk_ok {C mm : PySem.Str} {x : T} (b1 : x.brw = false) {P : Prop} (h : Ob C mm x.fz P) (r : Sl) : chk C mm x r = some (.ok (.dat x.fz), r) := by
  obtain ⟨⟨ns, fs, e, h⟩, _⟩ := h
  unfold chk
  rw [if_neg (by rw [b1]; decide), e]
  dsimp only
  rw [if_pos ⟨rfl, h⟩]
  rfl
theorem we_met {C mm : PySem.Str} {a : Nat} {f : FnD} {Q : T → Sl → Prop} (h : We mo ρ (Fd fun d ρ1 => Ob C mm d (We n ρ1 (Fds fun ds ρ2 => (d :: ds).length = a ∧ Cl (f (d :: ds)) fun t => Q t ρ2)))) : We (eMet C mm a f [] mo n) ρ Q := by
  obtain ⟨x, r1, e1, b1, h⟩ := h
  have hc := chk_ok b1 h r1
  obtain ⟨_, ts, r2, e2, ds, e3, l, t, e4, b, q⟩ := h
  refine ⟨t, r2, ?_, q⟩
  rw [e_met, e_bnd, e1]; dsimp only
  rw [e_bnd, hc]; dsimp only
  rw [e_bnd, e2]; dsimp only
  rw [e_noX, e_callM_ok (fz_cons (x := .dat x.fz) rfl e3) (by simpa using l) (by simpa [zd] using e4) b]
theorem we_prp {C : PySem.Str} {f : FnD} {Q : T → Sl → Prop} (h : We mo ρ (Fd fun d ρ1 => Ob C "" d (Cl (f [d]) fun t => Q t ρ1))) : We (ePrp C f mo) ρ Q := by
  obtain ⟨x, r1, e1, b1, h⟩ := h
  have hc := chk_ok b1 h r1
  obtain ⟨_, t, e4, b, q⟩ := h
  refine ⟨t, r1, ?_, q⟩
  rw [e_prp, e_bnd, e1]; dsimp only
  rw [e_bnd, hc]; dsimp only
  rw [e_noX, e_callM_ok (fz_one (x := .dat x.fz) rfl) (by simp) (by simpa [zd] using e4) b]
theorem we_fld {cs : List PySem.Str} {f : PySem.Str} {Q : T → Sl → Prop} (h : We m ρ (Fd fun d ρ1 => Op (fldM cs f [d]) fun t => Q t ρ1)) : We (eFld cs f m) ρ Q := by
  obtain ⟨x, r1, e1, b1, o, e2, q⟩ := h
  refine ⟨outT o, r1, ?_, q⟩
  rw [e_fld, e_bnd, e1]; dsimp only
  rw [e_opM, fz_one b1]; dsimp only
  rw [e2, out_eq]
theorem we_cal {C : PySem.Str} {a : Nat} {f : FnD} {Q : T → Sl → Prop} (h : We mo ρ (Fd fun d ρ1 => ∃ ns fs, d = .obj C ns fs ∧ We n ρ1 (Fds fun ds ρ2 => (d :: ds).length = a ∧ Cl (f (d :: ds)) fun t => Q t ρ2))) : We (eCal C a f mo n) ρ Q := by
  obtain ⟨x, r1, e1, b1, ns, fs, e0, ts, r2, e2, ds, e3, l, t, e4, b, q⟩ := h
  refine ⟨t, r2, ?_, q⟩
  rw [e_calO, e_bnd, e1]; dsimp only
  have hr : refM x r1 = some (.ok x, r1) := by unfold refM; rw [if_pos (by rw [e0]; rfl)]; rfl
  rw [e_bnd, hr]; dsimp only
  rw [e_bnd, e2]; dsimp only
  unfold calM
  rw [fz_cons b1 e3]; dsimp only
  rw [if_pos (by rw [e0]; simp [hdObj]), e_noX, e_callM_ok (fz_cons b1 e3) (by simpa using l) (by simpa using e4) b]
/-! own operators -/
/-! comprehensions -/
theorem lc_goE {ι : Type} {φ ψ : ι → D} {p : ι → Bool} {tt : Mo Bool} {e : Mo T} {ρ0 : Sl} (hj : j < ρ0.length) (hs : ρ0.set j none = ρ0) : ∀ (l : List ι) (acc : List D), (∀ x ∈ l, We tt (ρ0.set j (some (.dat (φ x)))) fun b ρ2 => b = p x ∧ ρ2 = ρ0.set j (some (.dat (φ x)))) →
    (∀ x ∈ l, p x = true → We e (ρ0.set j (some (.dat (φ x)))) (Fd fun d ρ2 => d = ψ x ∧ ρ2 = ρ0.set j (some (.dat (φ x))))) → acc.length + l.length ≤ 100000 →
    lcL (.nm j) tt e (l.map φ) acc ρ0 = some (.ok (acc ++ (l.filter p).map ψ), ρ0)
  | [], acc, _, _, _ => by simp [lcL]
  | x :: l, acc, h0, h, hl => by
    obtain ⟨_, _, e0, rfl, rfl⟩ := h0 x (List.mem_cons_self ..)
    have hw : wip (ρ0.set j (some (.dat (φ x)))) (slotsP (.nm j)) = ρ0 := by
      unfold slotsP wip wip
      rw [List.set_set]; exact hs
    simp only [List.length_cons] at hl
    simp only [List.map_cons]
    unfold lcL
    rw [p_nm, if_pos hj]
    try dsimp only
    rw [e0]
    try dsimp only
    cases hp : p x with
    | true =>
      obtain ⟨t, _, h1, h2, h3, rfl⟩ := h x (List.mem_cons_self ..) hp
      dsimp only
      rw [h1]
      dsimp only
      rw [h2, h3, if_neg (by decide), if_pos (by omega), hw, lc_goE hj hs l (acc ++ [ψ x]) (fun y hy => h0 y (List.mem_cons_of_mem _ hy)) (fun y hy => h y (List.mem_cons_of_mem _ hy)) (by simp; omega)]
      simp [hp]
    | false =>
      dsimp only
      rw [hw, lc_goE hj hs l acc (fun y hy => h0 y (List.mem_cons_of_mem _ hy)) (fun y hy => h y (List.mem_cons_of_mem _ hy)) (by omega)]
      simp [hp]
theorem we_lcIf {ι : Type} (l : List ι) (φ ψ : ι → D) (p : ι → Bool) {me : Mo (List D)} {tt : Mo Bool} {Q : T → Sl → Prop}
    (h : We me ρ fun xs ρ1 => xs = l.map φ ∧ j < ρ1.length ∧ l.length ≤ 100000 ∧ (∀ x ∈ l, We tt (ρ1.set j (some (.dat (φ x)))) fun b ρ2 => b = p x ∧ ρ2 = ρ1.set j (some (.dat (φ x)))) ∧
      (∀ x ∈ l, p x = true → We m (ρ1.set j (some (.dat (φ x)))) (Fd fun d ρ2 => d = ψ x ∧ ρ2 = ρ1.set j (some (.dat (φ x))))) ∧ Q (.lst false ((l.filter p).map ψ)) (ρ1.set j none)) : We (eLc me (.nm j) tt m) ρ Q := by
  obtain ⟨xs, r1, e1, rfl, hj, hl, h0, h1, q⟩ := h
  refine ⟨_, _, ?_, q⟩
  unfold eLc
  rw [e1]
  dsimp only
  have hw : wip r1 (slotsP (.nm j)) = r1.set j none := by unfold slotsP wip wip; rfl
  rw [hw, lc_goE (p := p) (ψ := ψ) (φ := φ) (ρ0 := r1.set j none) (by simpa using hj) (by rw [List.set_set]) l [] (by simpa only [List.set_set] using h0) (by simpa only [List.set_set] using h1) (by simpa using hl)]
  rfl
theorem we_lc {ι : Type} (l : List ι) (φ ψ : ι → D) {me : Mo (List D)} {Q : T → Sl → Prop}
    (h : We me ρ fun xs ρ1 => xs = l.map φ ∧ j < ρ1.length ∧ l.length ≤ 100000 ∧ (∀ x ∈ l, We m (ρ1.set j (some (.dat (φ x)))) (Fd fun d ρ2 => d = ψ x ∧ ρ2 = ρ1.set j (some (.dat (φ x))))) ∧ Q (.lst false (l.map ψ)) (ρ1.set j none)) : We (eLc me (.nm j) (ret true) m) ρ Q := by
  refine we_lcIf l φ ψ (fun _ => true) (h.mono fun xs r ⟨h1, h2, h3, h4, h5⟩ => ⟨h1, h2, h3, fun x _ => ⟨true, _, rfl, rfl, rfl⟩, fun x hx _ => h4 x hx, ?_⟩)
  rwa [List.filter_eq_self.mpr (fun _ _ => rfl)]
/-! what is walked -/
theorem wi_seq {Q : List D → Sl → Prop} (h : We m ρ (Fd fun d ρ1 => ∃ xs, itemsD d = some xs ∧ Q xs ρ1)) : We (iSeq m) ρ Q := by
  obtain ⟨x, r, e1, b1, xs, e2, q⟩ := h
  exact ⟨xs, r, by rw [e_iseq, e1]; dsimp only; rw [if_neg (by rw [b1]; decide), e2], q⟩
theorem wi_of {f : List D → Option (List D)} {Q : List D → Sl → Prop} (h : We n ρ (Fds fun ds ρ1 => ∃ xs, f ds = some xs ∧ Q xs ρ1)) : We (iOf f n) ρ Q := by
  obtain ⟨ts, r, e1, ds, e2, xs, e3, q⟩ := h
  exact ⟨xs, r, by rw [e_rng, e1]; dsimp only; rw [e2]; dsimp only; rw [e3], q⟩
/-! statements -/
def SeqQ (nx : Sl → Prop) (Q : Fl → Sl → Prop) : Fl → Sl → Prop
  | .next, ρ => nx ρ
  | .brk, ρ => Q .brk ρ
  | .cont, ρ => Q .cont ρ
  | .ret t, ρ => Q (.ret t) ρ
  | .exc x, ρ => Q (.exc x) ρ
def LoopQ (nx : Sl → Prop) (Q : Fl → Sl → Prop) : Fl → Sl → Prop
  | .next, ρ => nx ρ
  | .brk, ρ => Q .next ρ
  | .cont, ρ => nx ρ
  | .ret t, ρ => Q (.ret t) ρ
  | .exc x, ρ => Q (.exc x) ρ
section
variable {nx : Sl → Prop} {Q : Fl → Sl → Prop}
theorem sq_next (h : nx ρ) : SeqQ nx Q .next ρ := h
theorem sq_brk (h : Q .brk ρ) : SeqQ nx Q .brk ρ := h
theorem sq_cont (h : Q .cont ρ) : SeqQ nx Q .cont ρ := h
theorem sq_ret (h : Q (.ret t) ρ) : SeqQ nx Q (.ret t) ρ := h
theorem lq_next (h : nx ρ) : LoopQ nx Q .next ρ := h
theorem lq_brk (h : Q .next ρ) : LoopQ nx Q .brk ρ := h
theorem lq_cont (h : nx ρ) : LoopQ nx Q .cont ρ := h
theorem lq_ret (h : Q (.ret t) ρ) : LoopQ nx Q (.ret t) ρ := h
theorem ws_seq (h : Ws s ρ (SeqQ (fun ρ1 => Ws u ρ1 Q) Q)) : Ws (sSeq s u) ρ Q := by
  obtain ⟨fl, r, e, q⟩ := h
  cases fl with
  | next => obtain ⟨f2, r2, e2, q⟩ := q; exact ⟨f2, r2, by rw [e_seq, e]; exact e2, q⟩
  | _ => exact ⟨_, r, by rw [e_seq, e], q⟩
theorem ws_next (q : Q .next ρ) : Ws sNext ρ Q := ⟨_, _, rfl, q⟩
theorem ws_brk (q : Q .brk ρ) : Ws (fun ρ => some (.brk, ρ)) ρ Q := ⟨_, _, rfl, q⟩
theorem ws_cont (q : Q .cont ρ) : Ws (fun ρ => some (.cont, ρ)) ρ Q := ⟨_, _, rfl, q⟩
theorem ws_retN (q : Q (.ret (.dat .non)) ρ) : Ws (fun ρ => some (.ret (.dat .non), ρ)) ρ Q := ⟨_, _, rfl, q⟩
theorem ws_ret (h : We m ρ fun t ρ1 => Q (.ret t) ρ1) : Ws (sRet m) ρ Q := by
  obtain ⟨t, r, e, q⟩ := h
  exact ⟨_, r, by rw [e_sret, e], q⟩
theorem ws_drop (h : We m ρ fun _ ρ1 => Q .next ρ1) : Ws (sDrop m) ρ Q := by
  obtain ⟨t, r, e, q⟩ := h
  exact ⟨_, r, by rw [e_drop, e], q⟩
theorem ws_if (h : We c ρ fun b ρ1 => Bt b (Ws s ρ1 Q) (Ws u ρ1 Q)) : Ws (sIf c s u) ρ Q := by
  obtain ⟨bb, r, e, h1, h2⟩ := h
  cases bb with
  | true => obtain ⟨f2, r2, e2, q⟩ := h1 rfl; exact ⟨f2, r2, by rw [e_if, e]; exact e2, q⟩
  | false => obtain ⟨f2, r2, e2, q⟩ := h2 rfl; exact ⟨f2, r2, by rw [e_if, e]; exact e2, q⟩
theorem ws_asg (h : We m ρ fun t ρ1 => St' ρ1 i t fun r => Q .next r) : Ws (sAsg i m) ρ Q := by
  obtain ⟨t, r, e, hl, q⟩ := h
  exact ⟨_, _, by rw [e_asg, e]; dsimp only; rw [if_pos hl], q⟩
structure Ap (p : Pat) (d : D) (ρ : Sl) (Q : Sl → Prop) : Prop where
  ex : ∃ ρ1, asgP p d ρ = some ρ1 ∧ Q ρ1
structure Aps (p : List Pat) (d : List D) (ρ : Sl) (Q : Sl → Prop) : Prop where
  ex : ∃ ρ1, asgPs p d ρ = some ρ1 ∧ Q ρ1
theorem ap_nm {Q : Sl → Prop} (q : St' ρ i (.dat d) Q) : Ap (.nm i) d ρ Q := ⟨_, by rw [p_nm, if_pos q.l], q.p⟩
theorem ap_tp {ps : List Pat} {ds : List D} {Q : Sl → Prop} (q : Aps ps ds ρ Q) : Ap (.tp ps) (.tup ds) ρ Q := by
  obtain ⟨r, e, q⟩ := q
  exact ⟨r, by rw [p_tp, e], q⟩
theorem aps_nil {Q : Sl → Prop} (q : Q ρ) : Aps [] [] ρ Q := ⟨_, p_nil ρ, q⟩
theorem aps_cons {p : Pat} {ps : List Pat} {ds : List D} {Q : Sl → Prop} (q : Ap p d ρ fun r => Aps ps ds r Q) : Aps (p :: ps) (d :: ds) ρ Q := by
  obtain ⟨r, e, r2, e2, q⟩ := q
  exact ⟨r2, by rw [p_cons, e]; exact e2, q⟩
theorem ws_asgp {p : Pat} (h : We m ρ (Fd fun d ρ1 => Ap p d ρ1 fun r => Q .next r)) : Ws (sAsgP p m) ρ Q := by
  obtain ⟨t, r, e, b, r2, e2, q⟩ := h
  exact ⟨_, r2, by rw [e_asgp, e]; dsimp only; rw [if_neg (by rw [b]; decide), e2], q⟩
theorem ws_app (h0 : ρ[i]? = some (some (.lst false ys))) (h : We m ρ (Fd fun d ρ1 => ∃ bb xs, ρ1[i]? = some (some (.lst bb xs)) ∧ xs.length < 100000 ∧ St' ρ1 i (.lst bb (xs ++ [d])) fun r => Q .next r)) : Ws (sApp i m) ρ Q := by
  obtain ⟨t, r, e, b, bb, xs, e2, hl, hq⟩ := h
  refine ⟨_, _, ?_, hq.p⟩
  unfold sApp
  rw [atS_of h0]; dsimp only
  rw [e_toS, e]; dsimp only
  rw [if_neg (by rw [b]; decide), atS_of e2]; dsimp only
  rw [if_pos hl]
theorem ws_appl (h0 : ρ[i]? = some (some (.lst false xs))) (h : We m ρ (Fd fun d ρ1 => ρ1[i]? = some (some (.lst false xs)) ∧ xs.length < 100000 ∧ St' ρ1 i (.lst false (xs ++ [d])) fun r => Q .next r)) : Ws (sApp i m) ρ Q :=
  ws_app h0 (h.mono fun _ _ ⟨b, h1, h2, h3⟩ => ⟨b, _, _, h1, h2, h3⟩)
theorem ws_setI {bb : Bool} (h : We mo ρ (Fd fun d ρ1 => ρ1[i]? = some (some (.lst bb ys)) ∧ We mb ρ1 fun w ρ2 => ∃ q xs jj, w = .dat (.int q) ∧ ρ2[i]? = some (some (.lst bb xs)) ∧ L2.ixN xs.length q = some jj ∧ St' ρ2 i (.lst bb (xs.set jj d)) fun r => Q .next r)) : Ws (sSetI i mo mb) ρ Q := by
  obtain ⟨t, r, e, b, h0, w, r2, e2, q, xs, jj, rfl, e3, e4, hq⟩ := h
  refine ⟨_, _, ?_, hq.p⟩
  unfold sSetI
  rw [e_toS, e]; dsimp only
  rw [if_neg (by rw [b]; decide), atS_of h0]; dsimp only
  rw [e_toS, e2]; dsimp only
  rw [atS_of e3]; dsimp only
  rw [e4]
theorem ws_fset {cs : List PySem.Str} {f : PySem.Str} (h : We m ρ (Fd fun d ρ1 => ∃ bb C ns xs, ρ1[i]? = some (some (.ins bb C ns xs)) ∧ cs.contains C = true ∧ ns.length < 900 ∧ St' ρ1 i (.ins bb C (putO f d ns xs).1 (putO f d ns xs).2) fun r => Q .next r)) : Ws (sFldSet cs i f m) ρ Q := by
  obtain ⟨t, r, e, b, bb, C, ns, xs, e2, h1, h2, hq⟩ := h
  refine ⟨_, _, ?_, hq.p⟩
  unfold sFldSet
  rw [e_toS, e]; dsimp only
  rw [if_neg (by rw [b]; decide), atS_of e2]; dsimp only
  rw [if_pos ⟨h1, h2⟩]
theorem ws_aug {f : Int → Int → Int} {v : Int} (h0 : ρ[i]? = some (some (.dat (.int v)))) (h : We m ρ fun t ρ1 => ∃ w, t = .dat (.int w) ∧ St' ρ1 i (.dat (.int (f v w))) fun r => Q .next r) : Ws (sAug i f m) ρ Q := by
  obtain ⟨t, r, e, w, rfl, hq⟩ := h
  refine ⟨_, _, ?_, hq.p⟩
  unfold sAug
  rw [atS_of h0]; dsimp only
  rw [e_toS, e]; dsimp only
  rw [if_pos hq.l]
theorem ws_par (h : We ma ρ fun t ρ1 => We mb ρ1 fun u ρ2 => t.brw = false ∧ u.brw = false ∧ St' ρ2 j u fun r => St' r i t fun r => Q .next r) : Ws (sPar i j (aCons ma (aCons mb (ret [])))) ρ Q := by
  obtain ⟨t, r1, e1, v, r2, e2, b1, b2, ⟨l1, l2, q⟩⟩ := h
  refine ⟨_, _, ?_, q⟩
  unfold sPar
  rw [e_toS, e_acons, e_bnd, e1]; dsimp only
  rw [e_bnd, e_acons, e_bnd, e2]; dsimp only
  rw [e_bnd]
  show (match [t, v] with
    | [t, u] => if t.brw = false ∧ u.brw = false ∧ i < r2.length ∧ j < r2.length then some (Fl.next, (r2.set j (some u)).set i (some t)) else none
    | _ => none) = _
  dsimp only
  rw [if_pos ⟨b1, b2, by simpa using l2, l1⟩]
theorem ws_par3 (h : We n ρ (Fds fun ds ρ1 => ∃ d e g, ds = [d, e, g] ∧ St' ρ1 i (.dat d) fun r => St' r j (.dat e) fun r => St' r k (.dat g) fun r => Q .next r)) : Ws (sPar3 i j k n) ρ Q := by
  obtain ⟨ts, r, e1, ds, e2, d, e, g, rfl, l1, l2, l3, q⟩ := h
  refine ⟨_, _, ?_, q⟩
  unfold sPar3
  rw [e_toS, e1]; dsimp only
  rw [e2]; dsimp only
  rw [if_pos ⟨l1, by simpa using l2, by simpa using l3⟩]
/-- a for loop by what holds behind i turns -/
theorem wf_inv {p : Pat} (P : Nat → Sl → Prop) (h0 : P 0 ρ) (st : ∀ i d ρ, xs[i]? = some d → P i ρ → Ap p d ρ fun ρ1 => Ws b ρ1 (LoopQ (P (i + 1)) Q)) (en : ∀ ρ, P xs.length ρ → Q .next ρ) : Ws (forL p b xs) ρ Q := by
  induction xs generalizing P ρ with
  | nil => exact ⟨_, _, rfl, en _ h0⟩
  | cons d xs ih =>
    obtain ⟨r1, e1, fl, r2, e2, q⟩ := st 0 d ρ rfl h0
    have go : P 1 r2 → (fl = .next ∨ fl = .cont) → Ws (forL p b (d :: xs)) ρ Q := fun hp hf => by
      obtain ⟨f3, r3, e3, q3⟩ := ih (ρ := r2) (fun i => P (i + 1)) hp (fun i d ρ hd hp => st (i + 1) d ρ hd hp) (fun ρ hp => en ρ hp)
      refine ⟨f3, r3, ?_, q3⟩
      unfold forL
      rw [e1]; dsimp only
      rcases hf with rfl | rfl <;> rw [e2] <;> exact e3
    cases fl with
    | next => exact go q (.inl rfl)
    | cont => exact go q (.inr rfl)
    | brk => exact ⟨.next, r2, by unfold forL; rw [e1]; dsimp only; rw [e2], q⟩
    | ret t => exact ⟨.ret t, r2, by unfold forL; rw [e1]; dsimp only; rw [e2], q⟩
    | exc x => exact ⟨.exc x, r2, by unfold forL; rw [e1]; dsimp only; rw [e2], q⟩
theorem ws_for {me : Mo (List D)} {p : Pat} (h : We me ρ fun xs ρ1 => Ws (forL p b xs) ρ1 Q) : Ws (sFor me p b) ρ Q := by
  obtain ⟨xs, r, e, f2, r2, e2, q⟩ := h
  exact ⟨f2, r2, by rw [e_for, e]; exact e2, q⟩
end
theorem rp12 : List.replicate 12 (none : Option T) = [none, none, none, none, none, none, none, none, none, none, none, none] := rfl
theorem rp13 : List.replicate 13 (none : Option T) = [none, none, none, none, none, none, none, none, none, none, none, none, none] := rfl
theorem rp14 : List.replicate 14 (none : Option T) = [none, none, none, none, none, none, none, none, none, none, none, none, none, none] := rfl
theorem rp15 : List.replicate 15 (none : Option T) = [none, none, none, none, none, none, none, none, none, none, none, none, none, none, none] := rfl
theorem rp16 : List.replicate 16 (none : Option T) = [none, none, none, none, none, none, none, none, none, none, none, none, none, none, none, none] := rfl
theorem rp17 : List.replicate 17 (none : Option T) = [none, none, none, none, none, none, none, none, none, none, none, none, none, none, none, none, none] := rfl
theorem rp18 : List.replicate 18 (none : Option T) = [none, none, none, none, none, none, none, none, none, none, none, none, none, none, none, none, none, none] := rfl
theorem rp19 : List.replicate 19 (none : Option T) = [none, none, none, none, none, none, none, none, none, none, none, none, none, none, none, none, none, none, none] := rfl
/-! bodies -/
def RetQ (Q : T → Prop) : Fl → Sl → Prop
  | .ret t, _ => t.brw = false ∧ Q t
  | .next, _ => Q (.dat .non)
  | _, _ => False
def RetL (Q : D → List D → Prop) : Fl → Sl → Prop
  | .ret t, ρ => t.brw = false ∧ ∃ ys, ρ[0]? = some (some (.lst true ys)) ∧ Q t.fz ys
  | .next, ρ => ∃ ys, ρ[0]? = some (some (.lst true ys)) ∧ Q .non ys
  | _, _ => False
theorem rq_d {Q : T → Prop} (h : Q (.dat d)) : RetQ Q (.ret (.dat d)) ρ := ⟨rfl, h⟩
theorem rq_l {Q : T → Prop} (h : Q (.lst false xs)) : RetQ Q (.ret (.lst false xs)) ρ := ⟨rfl, h⟩
theorem rq_i {Q : T → Prop} {C ns} (h : Q (.ins false C ns xs)) : RetQ Q (.ret (.ins false C ns xs)) ρ := ⟨rfl, h⟩
theorem rq_n {Q : T → Prop} (h : Q (.dat .non)) : RetQ Q .next ρ := h
theorem rl_d {Q : D → List D → Prop} (h0 : ρ[0]? = some (some (.lst true ys))) (h : Q d ys) : RetL Q (.ret (.dat d)) ρ := ⟨rfl, _, h0, h⟩
theorem rl_l {Q : D → List D → Prop} (h0 : ρ[0]? = some (some (.lst true ys))) (h : Q (.lst xs) ys) : RetL Q (.ret (.lst false xs)) ρ := ⟨rfl, _, h0, h⟩
theorem cl_body {mm : Nat} {ds : List D} {Q : T → Prop} {ρ0 : Sl} (hr : ds.map (fun d => some (T.dat d)) ++ List.replicate mm none = ρ0) (h : Ws s ρ0 (RetQ Q)) : Cl (bodyD mm s ds) Q := by
  subst hr
  obtain ⟨fl, r, e, q⟩ := h
  cases fl with
  | ret t => exact ⟨t, by rw [e_bodyD, e]; show (if t.brw = true then none else some (Rs.ok t)) = _; rw [if_neg (by rw [q.1]; decide)], q.1, q.2⟩
  | next => exact ⟨_, by rw [e_bodyD, e]; rfl, rfl, q⟩
  | _ => exact q.elim
theorem cl_eq {r : Option (Rs T)} {d : D} (h : Cl r fun t => t = .dat d) : r = some (.ok (.dat d)) := by
  obtain ⟨t, e, _, rfl⟩ := h
  exact e
theorem Cl.mono {r : Option (Rs T)} {P Q : T → Prop} (h : Cl r P) (q : ∀ t, P t → Q t) : Cl r Q := let ⟨t, e, b, p⟩ := h; ⟨t, e, b, q t p⟩
theorem ex_it_t {Q : List D → Prop} (q : Q xs) : ∃ ys, itemsD (.tup xs) = some ys ∧ Q ys := ⟨_, rfl, q⟩
theorem ex_it_l {Q : List D → Prop} (q : Q xs) : ∃ ys, itemsD (.lst xs) = some ys ∧ Q ys := ⟨_, rfl, q⟩
theorem ex_it_s {ns : List Int} {Q : List D → Prop} (q : Q (ns.map .int)) : ∃ ys, itemsD (.scr ns) = some ys ∧ Q ys := ⟨_, rfl, q⟩
theorem ex_int {v : Int} {Q : Int → Prop} (q : Q v) : ∃ w, D.int v = D.int w ∧ Q w := ⟨_, rfl, q⟩
theorem ex_tint {v : Int} {Q : Int → Prop} (q : Q v) : ∃ w, T.dat (D.int v) = T.dat (D.int w) ∧ Q w := ⟨_, rfl, q⟩
theorem ex_lst {Q : List D → Prop} (q : Q xs) : ∃ ys, T.lst false xs = T.lst false ys ∧ Q ys := ⟨_, rfl, q⟩
theorem ex_three {a b c : D} {Q : D → D → D → Prop} (q : Q a b c) : ∃ d e g, [a, b, c] = [d, e, g] ∧ Q d e g := ⟨_, _, _, rfl, q⟩
theorem ex_obj {C : PySem.Str} {ns : List PySem.Str} {Q : List PySem.Str → List D → Prop} (q : Q ns xs) : ∃ ns' fs, D.obj C ns xs = D.obj C ns' fs ∧ Q ns' fs := ⟨_, _, rfl, q⟩
/-! operations -/
section
variable {Q : T → Prop} {v w : Int}
theorem op_add (q : Q (.dat (.int (v + w)))) : Op (addF (.int v) (.int w)) Q := ⟨_, rfl, q⟩
theorem op_sub' (q : Q (.dat (.int (v - w)))) : Op (subF (.int v) (.int w)) Q := ⟨_, rfl, q⟩
theorem op_neg (q : Q (.dat (.int (-v)))) : Op (negF (.int v)) Q := ⟨_, rfl, q⟩
theorem op_mul' (h : sml v ∨ sml w) (q : Q (.dat (.int (v * w)))) : Op (mulF (.int v) (.int w)) Q := ⟨_, mul_ii h, q⟩
theorem op_div' (h : 0 < w ∧ w < 4611686018427387904) (q : Q (.dat (.int (v / w)))) : Op (divF (.int v) (.int w)) Q := ⟨_, div_ii h, q⟩
theorem op_mod' (h : 0 < w) (q : Q (.dat (.int (v % w)))) : Op (modF (.int v) (.int w)) Q := ⟨_, mod_ii h, q⟩
theorem op_lt' (q : Q (.dat (.bl (decide (v < w))))) : Op (ltF (.int v) (.int w)) Q := ⟨_, rfl, q⟩
theorem op_le' (q : Q (.dat (.bl (decide (v ≤ w))))) : Op (leF (.int v) (.int w)) Q := ⟨_, rfl, q⟩
theorem op_gt' (q : Q (.dat (.bl (decide (w < v))))) : Op (gtF (.int v) (.int w)) Q := ⟨_, rfl, q⟩
theorem op_ge' (q : Q (.dat (.bl (decide (w ≤ v))))) : Op (geF (.int v) (.int w)) Q := ⟨_, rfl, q⟩
theorem op_eqi (q : Q (.dat (.bl (decide (v = w))))) : Op (eqF (.int v) (.int w)) Q := ⟨_, eq_ii v w, q⟩
theorem op_nei (q : Q (.dat (.bl (!decide (v = w))))) : Op (neF (.int v) (.int w)) Q := ⟨_, ne_ii v w, q⟩
theorem op_isi (q : Q (.dat (.bl false))) : Op (isNF (.int v) .non) Q := ⟨_, rfl, q⟩
theorem op_isn (q : Q (.dat (.bl true))) : Op (isNF .non .non) Q := ⟨_, rfl, q⟩
theorem op_noi (q : Q (.dat (.bl true))) : Op (notNF (.int v) .non) Q := ⟨_, rfl, q⟩
theorem op_non (q : Q (.dat (.bl false))) : Op (notNF .non .non) Q := ⟨_, rfl, q⟩
theorem op_len1 {ι : Type} {l : List ι} {φ : ι → D} (q : Q (.dat (.int (l.length : Nat)))) : Op (one lenF [.tup (l.map φ)]) Q := ⟨_, rfl, by rw [List.length_map]; exact q⟩
theorem op_len2 {ι : Type} {l : List ι} {φ : ι → D} (q : Q (.dat (.int (l.length : Nat)))) : Op (lenF (.tup (l.map φ))) Q := ⟨_, rfl, by rw [List.length_map]; exact q⟩
theorem op_len3 {ι : Type} {l : List ι} {φ : ι → D} (q : Q (.dat (.int (l.length : Nat)))) : Op (one lenF [.lst (l.map φ)]) Q := ⟨_, rfl, by rw [List.length_map]; exact q⟩
theorem op_len4 {ι : Type} {l : List ι} {φ : ι → D} (q : Q (.dat (.int (l.length : Nat)))) : Op (lenF (.lst (l.map φ))) Q := ⟨_, rfl, by rw [List.length_map]; exact q⟩
theorem op_eqb {a b : Bool} (q : Q (.dat (.bl (a == b)))) : Op (eqF (.bl a) (.bl b)) Q := ⟨.dt (.bl (a == b)), by cases a <;> cases b <;> rfl, q⟩
theorem op_lrgz {j : Int} (h : 0 ≤ j ∧ j ≤ 100000) (q : Q (.lst false (rngD 0 j.toNat))) : Op (lrg2F (.int 0) (.int j)) Q := ⟨.nl (rngD 0 j.toNat), by
  unfold lrg2F
  dsimp only
  rw [if_pos (by omega), Int.sub_zero]
  rfl, q⟩
theorem op_all2 {a b : Bool} (q : Q (.dat (.bl (a && b)))) : Op (allF [.lst [.bl a, .bl b]]) Q := ⟨.dt (.bl (a && b)), by cases a <;> cases b <;> rfl, q⟩
theorem op_any2 {a b : Bool} (q : Q (.dat (.bl (a || b)))) : Op (anyF [.lst [.bl a, .bl b]]) Q := ⟨.dt (.bl (a || b)), by cases a <;> cases b <;> rfl, q⟩
theorem rng1_z {j : Int} {n : Nat} (h : j = n) (h1 : n ≤ 100000) : rng1 [.int j] = some (rngD 0 n) := by
  subst h; exact rng1_n h1
theorem op_addl (h : xs.length + ys.length ≤ 100000) (q : Q (.lst false (xs ++ ys))) : Op (addF (.lst xs) (.lst ys)) Q := ⟨.nl _, if_pos h, q⟩
theorem op_addt (h : xs.length + ys.length ≤ 100000) (q : Q (.dat (.tup (xs ++ ys)))) : Op (addF (.tup xs) (.tup ys)) Q := ⟨.dt _, if_pos h, q⟩
end
end SL

set_option Elab.async false
set_option linter.all false
set_option maxRecDepth 100000
set_option maxHeartbeats 400000
/-! bodies that end with an exception, and try, read backwards -/
namespace SL
variable {α β : Type} {m ma mb mo : Mo T} {n : Mo (List T)} {c c2 : Mo Bool} {ρ ρ' : Sl} {s u b : So} {i j k : Nat} {d e z : D} {xs ys : List D} {t : T}
/-- a def ends with an exception -/
structure Cx (r : Option (Rs T)) (Q : Xc → Prop) : Prop where
  ex : ∃ x, r = some (.exc x) ∧ Q x
variable {Q : Xc → Sl → Prop}
theorem we_metX {C mm : PySem.Str} {a : Nat} {f : FnD} {Q : T → Sl → Prop} (h : We mo ρ (Fd fun d ρ1 => Ob C mm d (We n ρ1 (Fds fun ds ρ2 => (d :: ds).length = a ∧ Cl (f (d :: ds)) fun t => Q t ρ2)))) : We (eMetX C mm a f [] mo n) ρ Q := by
  obtain ⟨x, r1, e1, b1, h⟩ := h
  have hc := chk_ok b1 h r1
  obtain ⟨_, ts, r2, e2, ds, e3, l, t, e4, b, q⟩ := h
  refine ⟨t, r2, ?_, q⟩
  unfold eMetX
  rw [e_bnd, e1]; dsimp only
  rw [e_bnd, hc]; dsimp only
  rw [e_bnd, e2]; dsimp only
  rw [e_callM_ok (fz_cons (x := .dat x.fz) rfl e3) (by simpa using l) (by simpa [zd] using e4) b]
theorem we_callX {a : Nat} {f : FnD} {Q : T → Sl → Prop} (h : We n ρ (Fds fun ds ρ1 => ds.length = a ∧ Cl (f ds) fun t => Q t ρ1)) : We (eCall a f [] n) ρ Q := by
  obtain ⟨ts, r1, e1, ds, e2, l, t, e3, b, q⟩ := h
  refine ⟨t, r1, ?_, q⟩
  unfold eCall
  rw [e_bnd, e1]; dsimp only
  rw [e_callM_ok e2 (by simpa using l) (by simpa using e3) b]
theorem we_makX {C : PySem.Str} {a : Nat} {f : FnB} {dds : List D} {Q : T → Sl → Prop} (h : We n ρ (Fds fun ds ρ1 => (ds ++ dds).length = a ∧ Mk (f (.ins true C [] []) (ds ++ dds)) fun t => Q t ρ1)) : We (eMakX C a f dds n) ρ Q := by
  obtain ⟨ts, r1, e1, ds, e2, l, C', ns, fs, e3, q⟩ := h
  refine ⟨_, r1, ?_, q⟩
  unfold eMakX
  rw [e_bnd, e1]; dsimp only
  unfold makMX
  rw [e2]; dsimp only
  rw [if_pos l, e3]
  rfl
/-! try -/
theorem we_xf {a dd : PySem.Addr} {f : PySem.Str} {Q : T → Sl → Prop} (h : We m ρ (Fd fun d ρ1 => ∃ ns fs v, d = .exn a dd ns fs ∧ idxOf f ns fs = some v ∧ Q (.dat v) ρ1)) : We (eXf a dd f m) ρ Q := by
  obtain ⟨x, r1, e1, b1, ns, fs, v, e2, e3, q⟩ := h
  refine ⟨.dat v, r1, ?_, q⟩
  unfold eXf
  rw [e_bnd, e1]; dsimp only
  rw [e_opM, fz_one b1]; dsimp only
  rw [e2]
  unfold one
  dsimp only
  rw [if_pos ⟨rfl, rfl⟩, e3]
  rfl
theorem op_isX {b : Bool} {a dd : PySem.Addr} {ns : List PySem.Str} {fs : List D} {Q : T → Prop} (q : Q (.dat (.bl b))) : Op (isXF b a dd (.exn a dd ns fs)) Q := ⟨.dt (.bl b), by unfold isXF; dsimp only; rw [if_pos ⟨rfl, rfl⟩], q⟩
theorem we_idxd {Q : T → Sl → Prop} (h : ρ[i]? = some (some (.dat (.lst xs)))) (q : We mb ρ (Fd fun e ρ1 => ρ1[i]? = some (some (.dat (.lst xs))) ∧ Op (idxF (.lst xs) e) fun t => Q t ρ1)) : We (sIdx i mb) ρ Q := by
  obtain ⟨t, r, e, q⟩ := we_s2d h q
  refine ⟨t, r, ?_, q⟩
  unfold sIdx
  rw [atS_of h]
  dsimp only
  rw [if_pos (show isLstD (T.dat (.lst xs)).fz = true from rfl)]
  exact e
theorem we_idxl {Q : T → Sl → Prop} {bb : Bool} (h : ρ[i]? = some (some (.lst bb xs))) (q : We mb ρ (Fd fun e ρ1 => ρ1[i]? = some (some (.lst bb xs)) ∧ Op (idxF (.lst xs) e) fun t => Q t ρ1)) : We (sIdx i mb) ρ Q := by
  obtain ⟨t, r, e, q⟩ := we_s2l h q
  refine ⟨t, r, ?_, q⟩
  unfold sIdx
  rw [atS_of h]
  dsimp only
  rw [if_pos (show isLstD (T.lst bb xs).fz = true from rfl)]
  exact e
/-! calls of instances that let exceptions pass -/
theorem we_calX {C : PySem.Str} {a : Nat} {f : FnD} {Q : T → Sl → Prop} (h : We mo ρ (Fd fun d ρ1 => ∃ ns fs, d = .obj C ns fs ∧ We n ρ1 (Fds fun ds ρ2 => (d :: ds).length = a ∧ Cl (f (d :: ds)) fun t => Q t ρ2))) : We (eCalX C a f mo n) ρ Q := by
  obtain ⟨x, r1, e1, b1, ns, fs, e0, ts, r2, e2, ds, e3, l, t, e4, b, q⟩ := h
  refine ⟨t, r2, ?_, q⟩
  unfold eCalX
  rw [e_bnd, e1]; dsimp only
  have hr : refM x r1 = some (.ok x, r1) := by unfold refM; rw [if_pos (by rw [e0]; rfl)]; rfl
  rw [e_bnd, hr]; dsimp only
  rw [e_bnd, e2]; dsimp only
  unfold calMX
  rw [fz_cons b1 e3]; dsimp only
  rw [if_pos (by rw [e0]; simp [hdObj]), e_callM_ok (fz_cons b1 e3) (by simpa using l) (by simpa using e4) b]
theorem we_dic0 {Q : T → Sl → Prop} (q : Q (.dat (.dic [] [])) ρ) : We eDic0 ρ Q := ⟨_, _, rfl, q⟩
/-! a method whose self is lent -/
/-! texts -/
section
theorem we_ch {f g : D → D → Option Out} {ma mb mc : Mo T} {ρ : Sl} {Q : T → Sl → Prop} (h : We ma ρ fun t ρ1 => ∃ d, t = .dat d ∧ We mb ρ1 fun u ρ2 => ∃ e b, u = .dat e ∧ f d e = some (.dt (.bl b)) ∧ (vOf e).isSome = true ∧ Bt b (We mc ρ2 (Fd fun w ρ3 => Op (g e w) fun t => Q t ρ3)) (Q (.dat (.bl false)) ρ2)) : We (eCh f g ma mb mc) ρ Q := by
  obtain ⟨_, r1, e1, d, rfl, _, r2, e2, e, b, rfl, ef, ev, h1, h2⟩ := h
  cases b with
  | false =>
    refine ⟨_, r2, ?_, h2 rfl⟩
    unfold eCh
    rw [e_bnd, e1]; dsimp only
    rw [e_bnd, e2]; dsimp only
    unfold chM
    dsimp only
    rw [ef]
  | true =>
    obtain ⟨w, r3, e3, b3, o, e4, q⟩ := h1 rfl
    refine ⟨outT o, r3, ?_, q⟩
    unfold eCh
    rw [e_bnd, e1]; dsimp only
    rw [e_bnd, e2]; dsimp only
    unfold chM
    dsimp only
    rw [ef]
    cases hv : vOf e with
    | none => rw [hv] at ev; cases ev
    | some v =>
      dsimp only
      rw [e_bnd, e3]; dsimp only
      rw [e_opM, fz_one b3]
      show outM (g e w.fz) r3 = _
      rw [e4, out_eq]
theorem we_str {f : D → D → Option Out} {mo ma : Mo T} {ρ : Sl} {Q : T → Sl → Prop} (h : We mo ρ fun t ρ1 => ∃ s, t = .dat (.str s) ∧ We ma ρ1 (Fd fun e ρ2 => Op (f (.str s) e) fun t => Q t ρ2)) : We (eStr f mo ma) ρ Q := by
  obtain ⟨_, r1, e1, s, rfl, y, r2, e2, b2, o, e3, q⟩ := h
  refine ⟨outT o, r2, ?_, q⟩
  unfold eStr
  rw [e_bnd, e1]; dsimp only
  rw [e_bnd, show strM (.dat (.str s)) r1 = some (.ok (.dat (.str s)), r1) from rfl]; dsimp only
  rw [e_bnd, e2]; dsimp only
  rw [e_opM, fz_two rfl b2]
  show outM (f (.str s) y.fz) r2 = _
  rw [e3, out_eq]
theorem ex_str {s : PySem.Str} {Q : PySem.Str → Prop} (q : Q s) : ∃ s', T.dat (D.str s) = T.dat (D.str s') ∧ Q s' := ⟨_, rfl, q⟩
theorem wi_chr {m : Mo T} {ρ : Sl} {Q : List D → Sl → Prop} (h : We m ρ fun t ρ1 => ∃ s, t = .dat (.str s) ∧ Q (chrD s) ρ1) : We (iChr m) ρ Q := by
  obtain ⟨_, r, e, s, rfl, q⟩ := h
  exact ⟨_, r, by unfold iChr; rw [e_bnd, e], q⟩
end
/-! enumerate, several clauses, own operators that may raise -/
section
theorem wi_enu {m : Mo T} {ρ : Sl} {Q : List D → Sl → Prop} (h : We m ρ (Fd fun d ρ1 => ∃ xs, enumOf d = some xs ∧ Q xs ρ1)) : We (iEnu m) ρ Q := by
  obtain ⟨x, r, e, b1, xs, e2, q⟩ := h
  exact ⟨xs, r, by unfold iEnu; rw [e_bnd, e]; dsimp only; rw [if_neg (by rw [b1]; decide), e2], q⟩
theorem ex_en_t {xs : List D} {Q : List D → Prop} (q : Q (enumD 0 xs)) : ∃ ys, enumOf (.tup xs) = some ys ∧ Q ys := ⟨_, rfl, q⟩
theorem ex_en_l {xs : List D} {Q : List D → Prop} (q : Q (enumD 0 xs)) : ∃ ys, enumOf (.lst xs) = some ys ∧ Q ys := ⟨_, rfl, q⟩
theorem ex_en_s {z : PySem.Str} {Q : List D → Prop} (q : Q (enumD 0 (chrD z))) : ∃ ys, enumOf (.str z) = some ys ∧ Q ys := ⟨_, rfl, q⟩
theorem we_rev {m : Mo T} {ms : Mo (Option Int)} {ρ : Sl} {Q : T → Sl → Prop} (q : We m ρ (Fd fun d ρ0 => We ms ρ0 fun o ρ1 => Op (revF o d) fun t => Q t ρ1)) : We (eRev m ms) ρ Q := by
  obtain ⟨x, r0, e0, b0, lo, r1, e1, o, e4, q⟩ := q
  refine ⟨outT o, r1, ?_, q⟩
  unfold eRev
  rw [e_bnd, e0]; dsimp only
  rw [e_bnd, e1]; dsimp only
  rw [e_opM, fz_one b0]
  show outM (revF lo x.fz) r1 = _
  rw [e4, out_eq]
theorem op_rev {xs : List D} {Q : T → Prop} (q : Q (.lst false xs.reverse)) : Op (revF (some (-1)) (.lst xs)) Q := ⟨.nl xs.reverse, rfl, q⟩
theorem ws_setL {mo mb : Mo T} {i : Nat} {ρ : Sl} {ys : List D} {Q : Fl → Sl → Prop} {bb : Bool} (h0 : ρ[i]? = some (some (.lst bb ys))) (h : We mo ρ (Fd fun d ρ1 => ρ1[i]? = some (some (.lst bb ys)) ∧ We mb ρ1 fun w ρ2 => ∃ q jj, w = .dat (.int q) ∧ ρ2[i]? = some (some (.lst bb ys)) ∧ L2.ixN ys.length q = some jj ∧ St' ρ2 i (.lst bb (ys.set jj d)) fun r => Q .next r)) : Ws (sSetI i mo mb) ρ Q := by
  obtain ⟨t, r, e, b, h1, w, r2, e2, q, jj, rfl, e3, e4, hq⟩ := h
  exact ws_setI ⟨t, r, e, b, h1, _, r2, e2, q, ys, jj, rfl, e3, e4, hq⟩
end
end SL
namespace SL
/-! outcomes: values or exceptions -/
end SL

set_option Elab.async false
set_option linter.all false
set_option maxRecDepth 100000
set_option maxHeartbeats 1000000
/-! draws: the texts of E5, E8, E14, W12 that laws without tables want -/
namespace SL
def dnB (r : Option (Fl × Sl)) : Option (Rs D × T) := match r with
  | some (.next, ρ) => finB (.ok .non) ρ
  | some (.ret u, ρ) => if u.brw = true then none else finB (.ok u.fz) ρ
  | some (.exc x, ρ) => finB (.exc x) ρ
  | _ => none
theorem e_bodyB (m : Nat) (s : So) (t : T) (ds : List D) : bodyB m s t ds = dnB (s (some t :: (ds.map (fun d => some (T.dat d)) ++ List.replicate m none))) := rfl
theorem setI_run {i : Nat} {mv mi : Mo T} {ρ ρ1 ρ2 : Sl} {u t0 : T} {b : Bool} {xs : List D} {q : Int} {jj : Nat} (h1 : mv ρ = some (.ok u, ρ1)) (hu : u.brw = false) (h0 : atS i ρ1 = some t0) (h2 : mi ρ1 = some (.ok (.dat (.int q)), ρ2)) (h3 : atS i ρ2 = some (.lst b xs)) (h4 : L2.ixN xs.length q = some jj) :
    sSetI i mv mi ρ = some (.next, ρ2.set i (some (.lst b (xs.set jj u.fz)))) := by
  unfold sSetI toS
  rw [h1]
  dsimp only
  rw [hu, if_neg (by decide), h0]
  dsimp only
  rw [h2]
  dsimp only
  rw [h3]
  dsimp only
  rw [h4]
theorem ix30 (a b c : D) : L2.atI [a, b, c] 0 = some a := rfl
theorem ix31 (a b c : D) : L2.atI [a, b, c] 1 = some b := rfl
theorem ix32 (a b c : D) : L2.atI [a, b, c] 2 = some c := rfl
end SL
namespace NF
open SL PM
theorem int_i (i : Int) : intF [.int i] = some (.dt (.int i)) := rfl
structure Sr where
  a : Int
  b : Int
  c : Int
abbrev sD (s : Sr) : List D := [.int s.a, .int s.b, .int s.c]
theorem pick_ok (s : Sr) {m : Int} (hm : 0 < m) (hm2 : m < 4611686018427387904) : ∃ (d : Int) (s' : Sr), f__law_pick (.lst true (sD s)) [.int m] = some (.ok (.int d), .lst true (sD s')) ∧ 0 ≤ d ∧ d < m := by
  obtain ⟨a, b, c⟩ := s
  show ∃ (d : Int) (s' : Sr), bodyB 2 b__law_pick _ _ = _ ∧ _
  simp only [e_bodyB, List.map_cons, List.map_nil, rp2, List.cons_append, List.nil_append]
  unfold b__law_pick
  by_cases ha : 0 < a
  · refine ⟨a % m, ⟨a / m, b, c⟩, ?_, Int.emod_nonneg _ (by omega), Int.emod_lt_of_pos _ hm⟩
    have c0 : tst (SL.bin gtF (s2M ixF 0 (eC (.int 0))) (eC (.int 0))) [some (.lst true [.int a, .int b, .int c]), some (.dat (.int m)), none, none] = some (.ok true, [some (.lst true [.int a, .int b, .int c]), some (.dat (.int m)), none, none]) := by
      simp only [e_ret, e_nop, e_bnd, e_ite, e_opM, e_out0, e_outd, e_outn, fz0, fzd, fzl, fzi, bd, bl_, bi, zd, zl, zi, o1, o2, e_var, e_atS, e_s1, e_s2, e_sl, e_toS, e_seq, e_next, e_no, e_drop, e_sret, e_if, e_asg, e_asgp, p_nm, p_tp, p_nil, p_cons, a_bl, a_int, e_noX, e_callM, e_bodyD, dn_next, dn_ret, rp0, rp1, rp2, rp3, rp4, rp5, rp6, rp7, rp8, rp9, rp10, rp11, eq_ii, ne_ii, len_t, len_l, ix_t, ix_l, add_ii, sub_ii, neg_i, lt_ii, le_ii, gt_ii, ge_ii, isN_i, isN_n, notN_i, notN_n, notN_t, e_bin, e_una, e_tst, e_cand, e_cor, e_cnot, e_and, e_or, e_not, e_eif, e_acons, e_tup, e_lst, e_c, e_osome, e_B, e_call0, e_prp, e_met, e_fld, e_mak, e_makM, mkR_ok, e_calO, List.map_cons, List.map_nil, List.cons_append, List.nil_append, List.append_nil, List.getElem?_cons_zero, List.getElem?_cons_succ, List.set_cons_zero, List.set_cons_succ, List.length_cons, List.length_nil, List.length_map, Option.map_some, Option.map_none, reduceIte, Bool.false_eq_true, Bool.not_true, Bool.not_false, decide_true, decide_false, Nat.reduceAdd, Nat.reduceLT, Nat.reduceEqDiff, Nat.zero_add, Nat.lt_add_left_iff_pos, Nat.succ_pos, Nat.zero_lt_succ, few0, few1, few2, few3, ix30, ha]
    have c1 : sAsg 2 (SL.bin modF (eB intF (aCons (s2M ixF 0 (eC (.int 0))) (ret []))) (eVar 1)) [some (.lst true [.int a, .int b, .int c]), some (.dat (.int m)), none, none] = some (.next, [some (.lst true [.int a, .int b, .int c]), some (.dat (.int m)), some (.dat (.int (a % m))), none]) := by
      simp only [e_ret, e_nop, e_bnd, e_ite, e_opM, e_out0, e_outd, e_outn, fz0, fzd, fzl, fzi, bd, bl_, bi, zd, zl, zi, o1, o2, e_var, e_atS, e_s1, e_s2, e_sl, e_toS, e_seq, e_next, e_no, e_drop, e_sret, e_if, e_asg, e_asgp, p_nm, p_tp, p_nil, p_cons, a_bl, a_int, e_noX, e_callM, e_bodyD, dn_next, dn_ret, rp0, rp1, rp2, rp3, rp4, rp5, rp6, rp7, rp8, rp9, rp10, rp11, eq_ii, ne_ii, len_t, len_l, ix_t, ix_l, add_ii, sub_ii, neg_i, lt_ii, le_ii, gt_ii, ge_ii, isN_i, isN_n, notN_i, notN_n, notN_t, e_bin, e_una, e_tst, e_cand, e_cor, e_cnot, e_and, e_or, e_not, e_eif, e_acons, e_tup, e_lst, e_c, e_osome, e_B, e_call0, e_prp, e_met, e_fld, e_mak, e_makM, mkR_ok, e_calO, List.map_cons, List.map_nil, List.cons_append, List.nil_append, List.append_nil, List.getElem?_cons_zero, List.getElem?_cons_succ, List.set_cons_zero, List.set_cons_succ, List.length_cons, List.length_nil, List.length_map, Option.map_some, Option.map_none, reduceIte, Bool.false_eq_true, Bool.not_true, Bool.not_false, decide_true, decide_false, Nat.reduceAdd, Nat.reduceLT, Nat.reduceEqDiff, Nat.zero_add, Nat.lt_add_left_iff_pos, Nat.succ_pos, Nat.zero_lt_succ, few0, few1, few2, few3, ix30, int_i, mod_ii hm]
    have c2 : sSetI 0 (SL.bin divF (s2M ixF 0 (eC (.int 0))) (eVar 1)) (eC (.int 0)) [some (.lst true [.int a, .int b, .int c]), some (.dat (.int m)), some (.dat (.int (a % m))), none] = some (.next, [some (.lst true [.int (a / m), .int b, .int c]), some (.dat (.int m)), some (.dat (.int (a % m))), none]) :=
      setI_run (mv := SL.bin divF (s2M ixF 0 (eC (.int 0))) (eVar 1)) (mi := eC (.int 0)) (i := 0) (ρ := [some (.lst true [.int a, .int b, .int c]), some (.dat (.int m)), some (.dat (.int (a % m))), none]) (u := .dat (.int (a / m))) (ρ1 := [some (.lst true [.int a, .int b, .int c]), some (.dat (.int m)), some (.dat (.int (a % m))), none]) (jj := 0) (b := true) (xs := [.int a, .int b, .int c]) (q := 0) (by simp only [e_ret, e_nop, e_bnd, e_ite, e_opM, e_out0, e_outd, e_outn, fz0, fzd, fzl, fzi, bd, bl_, bi, zd, zl, zi, o1, o2, e_var, e_atS, e_s1, e_s2, e_sl, e_toS, e_seq, e_next, e_no, e_drop, e_sret, e_if, e_asg, e_asgp, p_nm, p_tp, p_nil, p_cons, a_bl, a_int, e_noX, e_callM, e_bodyD, dn_next, dn_ret, rp0, rp1, rp2, rp3, rp4, rp5, rp6, rp7, rp8, rp9, rp10, rp11, eq_ii, ne_ii, len_t, len_l, ix_t, ix_l, add_ii, sub_ii, neg_i, lt_ii, le_ii, gt_ii, ge_ii, isN_i, isN_n, notN_i, notN_n, notN_t, e_bin, e_una, e_tst, e_cand, e_cor, e_cnot, e_and, e_or, e_not, e_eif, e_acons, e_tup, e_lst, e_c, e_osome, e_B, e_call0, e_prp, e_met, e_fld, e_mak, e_makM, mkR_ok, e_calO, List.map_cons, List.map_nil, List.cons_append, List.nil_append, List.append_nil, List.getElem?_cons_zero, List.getElem?_cons_succ, List.set_cons_zero, List.set_cons_succ, List.length_cons, List.length_nil, List.length_map, Option.map_some, Option.map_none, reduceIte, Bool.false_eq_true, Bool.not_true, Bool.not_false, decide_true, decide_false, Nat.reduceAdd, Nat.reduceLT, Nat.reduceEqDiff, Nat.zero_add, Nat.lt_add_left_iff_pos, Nat.succ_pos, Nat.zero_lt_succ, few0, few1, few2, few3, ix30, div_ii ⟨hm, hm2⟩]) rfl rfl rfl rfl rfl
    have c3 : sRet (eVar 2) [some (.lst true [.int (a / m), .int b, .int c]), some (.dat (.int m)), some (.dat (.int (a % m))), none] = some (.ret (.dat (.int (a % m))), [some (.lst true [.int (a / m), .int b, .int c]), some (.dat (.int m)), some (.dat (.int (a % m))), none]) := by
      simp only [e_ret, e_nop, e_bnd, e_ite, e_opM, e_out0, e_outd, e_outn, fz0, fzd, fzl, fzi, bd, bl_, bi, zd, zl, zi, o1, o2, e_var, e_atS, e_s1, e_s2, e_sl, e_toS, e_seq, e_next, e_no, e_drop, e_sret, e_if, e_asg, e_asgp, p_nm, p_tp, p_nil, p_cons, a_bl, a_int, e_noX, e_callM, e_bodyD, dn_next, dn_ret, rp0, rp1, rp2, rp3, rp4, rp5, rp6, rp7, rp8, rp9, rp10, rp11, eq_ii, ne_ii, len_t, len_l, ix_t, ix_l, add_ii, sub_ii, neg_i, lt_ii, le_ii, gt_ii, ge_ii, isN_i, isN_n, notN_i, notN_n, notN_t, e_bin, e_una, e_tst, e_cand, e_cor, e_cnot, e_and, e_or, e_not, e_eif, e_acons, e_tup, e_lst, e_c, e_osome, e_B, e_call0, e_prp, e_met, e_fld, e_mak, e_makM, mkR_ok, e_calO, List.map_cons, List.map_nil, List.cons_append, List.nil_append, List.append_nil, List.getElem?_cons_zero, List.getElem?_cons_succ, List.set_cons_zero, List.set_cons_succ, List.length_cons, List.length_nil, List.length_map, Option.map_some, Option.map_none, reduceIte, Bool.false_eq_true, Bool.not_true, Bool.not_false, decide_true, decide_false, Nat.reduceAdd, Nat.reduceLT, Nat.reduceEqDiff, Nat.zero_add, Nat.lt_add_left_iff_pos, Nat.succ_pos, Nat.zero_lt_succ, few0, few1, few2, few3]
    rw [seq_ret ((if_t c0).trans ((seq_next c1).trans ((seq_next c2).trans c3)))]
    rfl
  · have c0 : tst (SL.bin gtF (s2M ixF 0 (eC (.int 0))) (eC (.int 0))) [some (.lst true [.int a, .int b, .int c]), some (.dat (.int m)), none, none] = some (.ok false, [some (.lst true [.int a, .int b, .int c]), some (.dat (.int m)), none, none]) := by
      simp only [e_ret, e_nop, e_bnd, e_ite, e_opM, e_out0, e_outd, e_outn, fz0, fzd, fzl, fzi, bd, bl_, bi, zd, zl, zi, o1, o2, e_var, e_atS, e_s1, e_s2, e_sl, e_toS, e_seq, e_next, e_no, e_drop, e_sret, e_if, e_asg, e_asgp, p_nm, p_tp, p_nil, p_cons, a_bl, a_int, e_noX, e_callM, e_bodyD, dn_next, dn_ret, rp0, rp1, rp2, rp3, rp4, rp5, rp6, rp7, rp8, rp9, rp10, rp11, eq_ii, ne_ii, len_t, len_l, ix_t, ix_l, add_ii, sub_ii, neg_i, lt_ii, le_ii, gt_ii, ge_ii, isN_i, isN_n, notN_i, notN_n, notN_t, e_bin, e_una, e_tst, e_cand, e_cor, e_cnot, e_and, e_or, e_not, e_eif, e_acons, e_tup, e_lst, e_c, e_osome, e_B, e_call0, e_prp, e_met, e_fld, e_mak, e_makM, mkR_ok, e_calO, List.map_cons, List.map_nil, List.cons_append, List.nil_append, List.append_nil, List.getElem?_cons_zero, List.getElem?_cons_succ, List.set_cons_zero, List.set_cons_succ, List.length_cons, List.length_nil, List.length_map, Option.map_some, Option.map_none, reduceIte, Bool.false_eq_true, Bool.not_true, Bool.not_false, decide_true, decide_false, Nat.reduceAdd, Nat.reduceLT, Nat.reduceEqDiff, Nat.zero_add, Nat.lt_add_left_iff_pos, Nat.succ_pos, Nat.zero_lt_succ, few0, few1, few2, few3, ix30, ha]
    have c1 : sSetI 0 (SL.bin addF (s2M ixF 0 (eC (.int 2))) (eC (.int 1))) (eC (.int 2)) [some (.lst true [.int a, .int b, .int c]), some (.dat (.int m)), none, none] = some (.next, [some (.lst true [.int a, .int b, .int (c + 1)]), some (.dat (.int m)), none, none]) :=
      setI_run (mv := SL.bin addF (s2M ixF 0 (eC (.int 2))) (eC (.int 1))) (mi := eC (.int 2)) (i := 0) (ρ := [some (.lst true [.int a, .int b, .int c]), some (.dat (.int m)), none, none]) (u := .dat (.int (c + 1))) (ρ1 := [some (.lst true [.int a, .int b, .int c]), some (.dat (.int m)), none, none]) (jj := 2) (b := true) (xs := [.int a, .int b, .int c]) (q := 2) (by simp only [e_ret, e_nop, e_bnd, e_ite, e_opM, e_out0, e_outd, e_outn, fz0, fzd, fzl, fzi, bd, bl_, bi, zd, zl, zi, o1, o2, e_var, e_atS, e_s1, e_s2, e_sl, e_toS, e_seq, e_next, e_no, e_drop, e_sret, e_if, e_asg, e_asgp, p_nm, p_tp, p_nil, p_cons, a_bl, a_int, e_noX, e_callM, e_bodyD, dn_next, dn_ret, rp0, rp1, rp2, rp3, rp4, rp5, rp6, rp7, rp8, rp9, rp10, rp11, eq_ii, ne_ii, len_t, len_l, ix_t, ix_l, add_ii, sub_ii, neg_i, lt_ii, le_ii, gt_ii, ge_ii, isN_i, isN_n, notN_i, notN_n, notN_t, e_bin, e_una, e_tst, e_cand, e_cor, e_cnot, e_and, e_or, e_not, e_eif, e_acons, e_tup, e_lst, e_c, e_osome, e_B, e_call0, e_prp, e_met, e_fld, e_mak, e_makM, mkR_ok, e_calO, List.map_cons, List.map_nil, List.cons_append, List.nil_append, List.append_nil, List.getElem?_cons_zero, List.getElem?_cons_succ, List.set_cons_zero, List.set_cons_succ, List.length_cons, List.length_nil, List.length_map, Option.map_some, Option.map_none, reduceIte, Bool.false_eq_true, Bool.not_true, Bool.not_false, decide_true, decide_false, Nat.reduceAdd, Nat.reduceLT, Nat.reduceEqDiff, Nat.zero_add, Nat.lt_add_left_iff_pos, Nat.succ_pos, Nat.zero_lt_succ, few0, few1, few2, few3, ix32]) rfl rfl rfl rfl rfl
    have st (v w : Int) (e : Mo T) (x : Option T) (he : e [some (.lst true [.int a, .int b, .int (c + 1)]), some (.dat (.int m)), none, x] = some (.ok (.dat (.int v)), [some (.lst true [.int a, .int b, .int (c + 1)]), some (.dat (.int m)), none, x])) (w0 : 0 < w) (ew : Mo T) (hw : ∀ ρ, ew ρ = some (.ok (.dat (.int w)), ρ)) :
        sAsg 3 (SL.bin modF (eB intF (aCons e (ret []))) ew) [some (.lst true [.int a, .int b, .int (c + 1)]), some (.dat (.int m)), none, x] = some (.next, [some (.lst true [.int a, .int b, .int (c + 1)]), some (.dat (.int m)), none, some (.dat (.int (v % w)))]) := by
      simp only [e_ret, e_nop, e_bnd, e_ite, e_opM, e_out0, e_outd, e_outn, fz0, fzd, fzl, fzi, bd, bl_, bi, zd, zl, zi, o1, o2, e_var, e_atS, e_s1, e_s2, e_sl, e_toS, e_seq, e_next, e_no, e_drop, e_sret, e_if, e_asg, e_asgp, p_nm, p_tp, p_nil, p_cons, a_bl, a_int, e_noX, e_callM, e_bodyD, dn_next, dn_ret, rp0, rp1, rp2, rp3, rp4, rp5, rp6, rp7, rp8, rp9, rp10, rp11, eq_ii, ne_ii, len_t, len_l, ix_t, ix_l, add_ii, sub_ii, neg_i, lt_ii, le_ii, gt_ii, ge_ii, isN_i, isN_n, notN_i, notN_n, notN_t, e_bin, e_una, e_tst, e_cand, e_cor, e_cnot, e_and, e_or, e_not, e_eif, e_acons, e_tup, e_lst, e_c, e_osome, e_B, e_call0, e_prp, e_met, e_fld, e_mak, e_makM, mkR_ok, e_calO, List.map_cons, List.map_nil, List.cons_append, List.nil_append, List.append_nil, List.getElem?_cons_zero, List.getElem?_cons_succ, List.set_cons_zero, List.set_cons_succ, List.length_cons, List.length_nil, List.length_map, Option.map_some, Option.map_none, reduceIte, Bool.false_eq_true, Bool.not_true, Bool.not_false, decide_true, decide_false, Nat.reduceAdd, Nat.reduceLT, Nat.reduceEqDiff, Nat.zero_add, Nat.lt_add_left_iff_pos, Nat.succ_pos, Nat.zero_lt_succ, few0, few1, few2, few3, he, hw, int_i, mod_ii w0]
    have sq1 (v : Int) : sml (v % 2147483647) := by
      have := Int.emod_nonneg v (show (2147483647 : Int) ≠ 0 by decide)
      have := Int.emod_lt_of_pos v (show (0 : Int) < 2147483647 by decide)
      unfold sml; omega
    have k1 : sml (48271 : Int) := by unfold sml; omega
    have k2 : sml (104729 : Int) := by unfold sml; omega
    have k3 : sml (7 : Int) := by unfold sml; omega
    have k4 : sml (69621 : Int) := by unfold sml; omega
    have c2 := st ((b + 104729 * (c + 1)) * 48271) 2147483647 (SL.bin mulF (SL.bin addF (s2M ixF 0 (eC (.int 1))) (SL.bin mulF (eC (.int 104729)) (s2M ixF 0 (eC (.int 2))))) (eC (.int 48271))) none
      (by simp only [e_ret, e_nop, e_bnd, e_ite, e_opM, e_out0, e_outd, e_outn, fz0, fzd, fzl, fzi, bd, bl_, bi, zd, zl, zi, o1, o2, e_var, e_atS, e_s1, e_s2, e_sl, e_toS, e_seq, e_next, e_no, e_drop, e_sret, e_if, e_asg, e_asgp, p_nm, p_tp, p_nil, p_cons, a_bl, a_int, e_noX, e_callM, e_bodyD, dn_next, dn_ret, rp0, rp1, rp2, rp3, rp4, rp5, rp6, rp7, rp8, rp9, rp10, rp11, eq_ii, ne_ii, len_t, len_l, ix_t, ix_l, add_ii, sub_ii, neg_i, lt_ii, le_ii, gt_ii, ge_ii, isN_i, isN_n, notN_i, notN_n, notN_t, e_bin, e_una, e_tst, e_cand, e_cor, e_cnot, e_and, e_or, e_not, e_eif, e_acons, e_tup, e_lst, e_c, e_osome, e_B, e_call0, e_prp, e_met, e_fld, e_mak, e_makM, mkR_ok, e_calO, List.map_cons, List.map_nil, List.cons_append, List.nil_append, List.append_nil, List.getElem?_cons_zero, List.getElem?_cons_succ, List.set_cons_zero, List.set_cons_succ, List.length_cons, List.length_nil, List.length_map, Option.map_some, Option.map_none, reduceIte, Bool.false_eq_true, Bool.not_true, Bool.not_false, decide_true, decide_false, Nat.reduceAdd, Nat.reduceLT, Nat.reduceEqDiff, Nat.zero_add, Nat.lt_add_left_iff_pos, Nat.succ_pos, Nat.zero_lt_succ, few0, few1, few2, few3, ix31, ix32, mul_ii (i := 104729) (.inl k2), mul_ii (j := 48271) (.inr k1)]) (by decide) (eC (.int 2147483647)) (fun _ => rfl)
    generalize hv1 : (b + 104729 * (c + 1)) * 48271 % 2147483647 = v1 at c2
    have s1 : sml v1 := hv1 ▸ sq1 _
    have c3 := st (v1 * v1 + 7 * (c + 1) + b) 2147483629 (SL.bin addF (SL.bin addF (SL.bin mulF (eVar 3) (eVar 3)) (SL.bin mulF (eC (.int 7)) (s2M ixF 0 (eC (.int 2))))) (s2M ixF 0 (eC (.int 1)))) (some (.dat (.int v1)))
      (by simp only [e_ret, e_nop, e_bnd, e_ite, e_opM, e_out0, e_outd, e_outn, fz0, fzd, fzl, fzi, bd, bl_, bi, zd, zl, zi, o1, o2, e_var, e_atS, e_s1, e_s2, e_sl, e_toS, e_seq, e_next, e_no, e_drop, e_sret, e_if, e_asg, e_asgp, p_nm, p_tp, p_nil, p_cons, a_bl, a_int, e_noX, e_callM, e_bodyD, dn_next, dn_ret, rp0, rp1, rp2, rp3, rp4, rp5, rp6, rp7, rp8, rp9, rp10, rp11, eq_ii, ne_ii, len_t, len_l, ix_t, ix_l, add_ii, sub_ii, neg_i, lt_ii, le_ii, gt_ii, ge_ii, isN_i, isN_n, notN_i, notN_n, notN_t, e_bin, e_una, e_tst, e_cand, e_cor, e_cnot, e_and, e_or, e_not, e_eif, e_acons, e_tup, e_lst, e_c, e_osome, e_B, e_call0, e_prp, e_met, e_fld, e_mak, e_makM, mkR_ok, e_calO, List.map_cons, List.map_nil, List.cons_append, List.nil_append, List.append_nil, List.getElem?_cons_zero, List.getElem?_cons_succ, List.set_cons_zero, List.set_cons_succ, List.length_cons, List.length_nil, List.length_map, Option.map_some, Option.map_none, reduceIte, Bool.false_eq_true, Bool.not_true, Bool.not_false, decide_true, decide_false, Nat.reduceAdd, Nat.reduceLT, Nat.reduceEqDiff, Nat.zero_add, Nat.lt_add_left_iff_pos, Nat.succ_pos, Nat.zero_lt_succ, few0, few1, few2, few3, ix31, ix32, mul_ii (i := v1) (.inl s1), mul_ii (i := 7) (.inl k3)]) (by decide) (eC (.int 2147483629)) (fun _ => rfl)
    generalize (v1 * v1 + 7 * (c + 1) + b) % 2147483629 = v2 at c3
    have c4 := st (v2 * 69621 + 5) 2147483647 (SL.bin addF (SL.bin mulF (eVar 3) (eC (.int 69621))) (eC (.int 5))) (some (.dat (.int v2)))
      (by simp only [e_ret, e_nop, e_bnd, e_ite, e_opM, e_out0, e_outd, e_outn, fz0, fzd, fzl, fzi, bd, bl_, bi, zd, zl, zi, o1, o2, e_var, e_atS, e_s1, e_s2, e_sl, e_toS, e_seq, e_next, e_no, e_drop, e_sret, e_if, e_asg, e_asgp, p_nm, p_tp, p_nil, p_cons, a_bl, a_int, e_noX, e_callM, e_bodyD, dn_next, dn_ret, rp0, rp1, rp2, rp3, rp4, rp5, rp6, rp7, rp8, rp9, rp10, rp11, eq_ii, ne_ii, len_t, len_l, ix_t, ix_l, add_ii, sub_ii, neg_i, lt_ii, le_ii, gt_ii, ge_ii, isN_i, isN_n, notN_i, notN_n, notN_t, e_bin, e_una, e_tst, e_cand, e_cor, e_cnot, e_and, e_or, e_not, e_eif, e_acons, e_tup, e_lst, e_c, e_osome, e_B, e_call0, e_prp, e_met, e_fld, e_mak, e_makM, mkR_ok, e_calO, List.map_cons, List.map_nil, List.cons_append, List.nil_append, List.append_nil, List.getElem?_cons_zero, List.getElem?_cons_succ, List.set_cons_zero, List.set_cons_succ, List.length_cons, List.length_nil, List.length_map, Option.map_some, Option.map_none, reduceIte, Bool.false_eq_true, Bool.not_true, Bool.not_false, decide_true, decide_false, Nat.reduceAdd, Nat.reduceLT, Nat.reduceEqDiff, Nat.zero_add, Nat.lt_add_left_iff_pos, Nat.succ_pos, Nat.zero_lt_succ, few0, few1, few2, few3, mul_ii (j := 69621) (.inr k4)]) (by decide) (eC (.int 2147483647)) (fun _ => rfl)
    generalize hv3 : (v2 * 69621 + 5) % 2147483647 = v3 at c4
    have s3 : sml v3 := hv3 ▸ sq1 _
    have c5 := st (v3 * v3 + v3) 2147483587 (SL.bin addF (SL.bin mulF (eVar 3) (eVar 3)) (eVar 3)) (some (.dat (.int v3)))
      (by simp only [e_ret, e_nop, e_bnd, e_ite, e_opM, e_out0, e_outd, e_outn, fz0, fzd, fzl, fzi, bd, bl_, bi, zd, zl, zi, o1, o2, e_var, e_atS, e_s1, e_s2, e_sl, e_toS, e_seq, e_next, e_no, e_drop, e_sret, e_if, e_asg, e_asgp, p_nm, p_tp, p_nil, p_cons, a_bl, a_int, e_noX, e_callM, e_bodyD, dn_next, dn_ret, rp0, rp1, rp2, rp3, rp4, rp5, rp6, rp7, rp8, rp9, rp10, rp11, eq_ii, ne_ii, len_t, len_l, ix_t, ix_l, add_ii, sub_ii, neg_i, lt_ii, le_ii, gt_ii, ge_ii, isN_i, isN_n, notN_i, notN_n, notN_t, e_bin, e_una, e_tst, e_cand, e_cor, e_cnot, e_and, e_or, e_not, e_eif, e_acons, e_tup, e_lst, e_c, e_osome, e_B, e_call0, e_prp, e_met, e_fld, e_mak, e_makM, mkR_ok, e_calO, List.map_cons, List.map_nil, List.cons_append, List.nil_append, List.append_nil, List.getElem?_cons_zero, List.getElem?_cons_succ, List.set_cons_zero, List.set_cons_succ, List.length_cons, List.length_nil, List.length_map, Option.map_some, Option.map_none, reduceIte, Bool.false_eq_true, Bool.not_true, Bool.not_false, decide_true, decide_false, Nat.reduceAdd, Nat.reduceLT, Nat.reduceEqDiff, Nat.zero_add, Nat.lt_add_left_iff_pos, Nat.succ_pos, Nat.zero_lt_succ, few0, few1, few2, few3, mul_ii (i := v3) (.inl s3)]) (by decide) (eC (.int 2147483587)) (fun _ => rfl)
    generalize (v3 * v3 + v3) % 2147483587 = v4 at c5
    refine ⟨v4 / 5 % m, ⟨a, b, c + 1⟩, ?_, Int.emod_nonneg _ (by omega), Int.emod_lt_of_pos _ hm⟩
    have c6 : sRet (SL.bin modF (eB intF (aCons (SL.bin divF (eVar 3) (eC (.int 5))) (ret []))) (eVar 1)) [some (.lst true [.int a, .int b, .int (c + 1)]), some (.dat (.int m)), none, some (.dat (.int v4))] = some (.ret (.dat (.int (v4 / 5 % m))), [some (.lst true [.int a, .int b, .int (c + 1)]), some (.dat (.int m)), none, some (.dat (.int v4))]) := by
      simp only [e_ret, e_nop, e_bnd, e_ite, e_opM, e_out0, e_outd, e_outn, fz0, fzd, fzl, fzi, bd, bl_, bi, zd, zl, zi, o1, o2, e_var, e_atS, e_s1, e_s2, e_sl, e_toS, e_seq, e_next, e_no, e_drop, e_sret, e_if, e_asg, e_asgp, p_nm, p_tp, p_nil, p_cons, a_bl, a_int, e_noX, e_callM, e_bodyD, dn_next, dn_ret, rp0, rp1, rp2, rp3, rp4, rp5, rp6, rp7, rp8, rp9, rp10, rp11, eq_ii, ne_ii, len_t, len_l, ix_t, ix_l, add_ii, sub_ii, neg_i, lt_ii, le_ii, gt_ii, ge_ii, isN_i, isN_n, notN_i, notN_n, notN_t, e_bin, e_una, e_tst, e_cand, e_cor, e_cnot, e_and, e_or, e_not, e_eif, e_acons, e_tup, e_lst, e_c, e_osome, e_B, e_call0, e_prp, e_met, e_fld, e_mak, e_makM, mkR_ok, e_calO, List.map_cons, List.map_nil, List.cons_append, List.nil_append, List.append_nil, List.getElem?_cons_zero, List.getElem?_cons_succ, List.set_cons_zero, List.set_cons_succ, List.length_cons, List.length_nil, List.length_map, Option.map_some, Option.map_none, reduceIte, Bool.false_eq_true, Bool.not_true, Bool.not_false, decide_true, decide_false, Nat.reduceAdd, Nat.reduceLT, Nat.reduceEqDiff, Nat.zero_add, Nat.lt_add_left_iff_pos, Nat.succ_pos, Nat.zero_lt_succ, few0, few1, few2, few3, int_i, div_ii (j := 5) ⟨by decide, by decide⟩, mod_ii hm]
    have c7 := (seq_next c1).trans ((seq_next c2).trans ((seq_next c3).trans ((seq_next c4).trans ((seq_next c5).trans c6))))
    have c8 : sIf (tst (SL.bin gtF (s2M ixF 0 (eC (.int 0))) (eC (.int 0)))) (sSeq (sAsg 2 (SL.bin modF (eB intF (aCons (s2M ixF 0 (eC (.int 0))) (ret []))) (eVar 1)))
  (sSeq (sSetI 0 (SL.bin divF (s2M ixF 0 (eC (.int 0))) (eVar 1)) (eC (.int 0)))
  (sRet (eVar 2)))) (sNext) [some (.lst true [.int a, .int b, .int c]), some (.dat (.int m)), none, none] = some (.next, [some (.lst true [.int a, .int b, .int c]), some (.dat (.int m)), none, none]) := (if_f c0).trans rfl
    rw [(seq_next c8).trans c7]
    rfl
theorem bits_self (b : Int) : b.natAbs < 2 ^ PySem.Builtin.Int.intBits b := by
  unfold PySem.Builtin.Int.intBits
  by_cases z : b = 0
  · subst z; simp
  · have : (b == 0) = false := by simpa using z
    rw [this]
    simp only [Bool.false_eq_true, if_false]
    exact Nat.lt_log2_self
theorem bits_mono {a b : Int} (h : a.natAbs ≤ b.natAbs) : PySem.Builtin.Int.intBits a ≤ PySem.Builtin.Int.intBits b := PyProof.Rows.intBits_le (Nat.lt_of_le_of_lt h (bits_self b))
theorem shr_ex (i : Int) (k : Nat) (h0 : 0 ≤ i) : ∃ q : Int, shrF (.int i) (.int (k : Nat)) = some (.dt (.int q)) ∧ q.natAbs ≤ i.natAbs := by
  refine ⟨i / 2 ^ k, ?_, ?_⟩
  · show (if (0 : Int) ≤ (k : Int) then some (Out.dt (D.int (i / 2 ^ (k : Int).toNat))) else none) = _
    rw [if_pos (Int.natCast_nonneg k), Int.toNat_natCast]
  · obtain ⟨n, rfl⟩ : ∃ n : Nat, i = n := ⟨i.toNat, by omega⟩
    have e : ((n : Int) / 2 ^ k) = ((n / 2 ^ k : Nat) : Int) := by
      rw [Int.natCast_ediv, Int.natCast_pow]; rfl
    rw [e]
    exact Nat.div_le_self _ _
theorem shl_ex (q : Int) (k : Nat) (hk : k ≤ 5000) (hb : PySem.Builtin.Int.intBits q ≤ 60000000) : ∃ z : Int, shlF (.int q) (.int (k : Nat)) = some (.dt (.int z)) := by
  refine ⟨q * 2 ^ k, ?_⟩
  show (if (0 : Int) ≤ (k : Int) ∧ (k : Int) ≤ 5000 ∧ PySem.Builtin.Int.intBits q ≤ 60000000 then some (Out.dt (D.int (q * 2 ^ (k : Int).toNat))) else none) = _
  rw [if_pos ⟨Int.natCast_nonneg k, by omega, hb⟩, Int.toNat_natCast]
theorem abs_ex (c : Int) : ∃ n : Int, absF [.int c] = some (.dt (.int n)) ∧ 0 ≤ n ∧ n.natAbs = c.natAbs := by
  by_cases z : c < 0
  · exact ⟨-c, by show some (Out.dt (D.int (if c < 0 then -c else c))) = _; rw [if_pos z], by omega, by omega⟩
  · exact ⟨c, by show some (Out.dt (D.int (if c < 0 then -c else c))) = _; rw [if_neg z], by omega, rfl⟩
theorem source_ok (ns : List Int) (hb : ∀ k ∈ ns, PySem.Builtin.Int.intBits k ≤ 1048576) (p : Nat) (hp : p ≤ 10) : ∃ s : Sr, f__law_source [.scr ns, .int (p : Nat)] = some (.ok (.lst false (sD s))) := by
  obtain ⟨c, hc, cb⟩ : ∃ c : Int, sAsg 2 (eIf (tst (SL.bin ltF (eVar 1) (s1M lenF 0))) (s2M ixF 0 (eVar 1)) (SL.bin addF (SL.bin mulF (eC (.int 3)) (eVar 1)) (eC (.int 1)))) [some (.dat (.scr ns)), some (.dat (.int (p : Nat))), none, none, none, none] =
      some (.next, [some (.dat (.scr ns)), some (.dat (.int (p : Nat))), some (.dat (.int c)), none, none, none]) ∧ PySem.Builtin.Int.intBits c ≤ 1048576 := by
    have lf : lenF (.scr ns) = some (.dt (.int (ns.length : Nat))) := rfl
    by_cases q : (p : Int) < (ns.length : Int)
    · have hq : p < ns.length := by omega
      have ix : ixF (.scr ns) (.int (p : Nat)) = some (.dt (.int ns[p])) := by
        show (L2.atI ns (p : Int)).map (fun n => Out.dt (D.int n)) = _
        rw [atI_nat hq]
        simp [hq]
      exact ⟨ns[p], by simp only [e_ret, e_nop, e_bnd, e_ite, e_opM, e_out0, e_outd, e_outn, fz0, fzd, fzl, fzi, bd, bl_, bi, zd, zl, zi, o1, o2, e_var, e_atS, e_s1, e_s2, e_sl, e_toS, e_seq, e_next, e_no, e_drop, e_sret, e_if, e_asg, e_asgp, p_nm, p_tp, p_nil, p_cons, a_bl, a_int, e_noX, e_callM, e_bodyD, dn_next, dn_ret, rp0, rp1, rp2, rp3, rp4, rp5, rp6, rp7, rp8, rp9, rp10, rp11, eq_ii, ne_ii, len_t, len_l, ix_t, ix_l, add_ii, sub_ii, neg_i, lt_ii, le_ii, gt_ii, ge_ii, isN_i, isN_n, notN_i, notN_n, notN_t, e_bin, e_una, e_tst, e_cand, e_cor, e_cnot, e_and, e_or, e_not, e_eif, e_acons, e_tup, e_lst, e_c, e_osome, e_B, e_call0, e_prp, e_met, e_fld, e_mak, e_makM, mkR_ok, e_calO, List.map_cons, List.map_nil, List.cons_append, List.nil_append, List.append_nil, List.getElem?_cons_zero, List.getElem?_cons_succ, List.set_cons_zero, List.set_cons_succ, List.length_cons, List.length_nil, List.length_map, Option.map_some, Option.map_none, reduceIte, Bool.false_eq_true, Bool.not_true, Bool.not_false, decide_true, decide_false, Nat.reduceAdd, Nat.reduceLT, Nat.reduceEqDiff, Nat.zero_add, Nat.lt_add_left_iff_pos, Nat.succ_pos, Nat.zero_lt_succ, few0, few1, few2, few3, lf, q, ix], hb _ (List.getElem_mem hq)⟩
    · have k3 : sml (3 : Int) := by unfold sml; omega
      refine ⟨3 * (p : Int) + 1, by simp only [e_ret, e_nop, e_bnd, e_ite, e_opM, e_out0, e_outd, e_outn, fz0, fzd, fzl, fzi, bd, bl_, bi, zd, zl, zi, o1, o2, e_var, e_atS, e_s1, e_s2, e_sl, e_toS, e_seq, e_next, e_no, e_drop, e_sret, e_if, e_asg, e_asgp, p_nm, p_tp, p_nil, p_cons, a_bl, a_int, e_noX, e_callM, e_bodyD, dn_next, dn_ret, rp0, rp1, rp2, rp3, rp4, rp5, rp6, rp7, rp8, rp9, rp10, rp11, eq_ii, ne_ii, len_t, len_l, ix_t, ix_l, add_ii, sub_ii, neg_i, lt_ii, le_ii, gt_ii, ge_ii, isN_i, isN_n, notN_i, notN_n, notN_t, e_bin, e_una, e_tst, e_cand, e_cor, e_cnot, e_and, e_or, e_not, e_eif, e_acons, e_tup, e_lst, e_c, e_osome, e_B, e_call0, e_prp, e_met, e_fld, e_mak, e_makM, mkR_ok, e_calO, List.map_cons, List.map_nil, List.cons_append, List.nil_append, List.append_nil, List.getElem?_cons_zero, List.getElem?_cons_succ, List.set_cons_zero, List.set_cons_succ, List.length_cons, List.length_nil, List.length_map, Option.map_some, Option.map_none, reduceIte, Bool.false_eq_true, Bool.not_true, Bool.not_false, decide_true, decide_false, Nat.reduceAdd, Nat.reduceLT, Nat.reduceEqDiff, Nat.zero_add, Nat.lt_add_left_iff_pos, Nat.succ_pos, Nat.zero_lt_succ, few0, few1, few2, few3, lf, q, mul_ii (i := 3) (.inl k3)], ?_⟩
      exact Nat.le_trans (PyProof.Rows.intBits_le (k := 10) (by omega)) (by decide)
  have st (x0 x1 x2 x4 x5 : Option T) (v w : Int) (e : Mo T) (x : Option T) (he : e [x0, x1, x2, x, x4, x5] = some (.ok (.dat (.int v)), [x0, x1, x2, x, x4, x5])) (w0 : 0 < w) (ew : Mo T) (hw : ∀ ρ, ew ρ = some (.ok (.dat (.int w)), ρ)) :
      sAsg 3 (SL.bin modF (eB intF (aCons e (ret []))) ew) [x0, x1, x2, x, x4, x5] = some (.next, [x0, x1, x2, some (.dat (.int (v % w))), x4, x5]) := by
    simp only [e_ret, e_nop, e_bnd, e_ite, e_opM, e_out0, e_outd, e_outn, fz0, fzd, fzl, fzi, bd, bl_, bi, zd, zl, zi, o1, o2, e_var, e_atS, e_s1, e_s2, e_sl, e_toS, e_seq, e_next, e_no, e_drop, e_sret, e_if, e_asg, e_asgp, p_nm, p_tp, p_nil, p_cons, a_bl, a_int, e_noX, e_callM, e_bodyD, dn_next, dn_ret, rp0, rp1, rp2, rp3, rp4, rp5, rp6, rp7, rp8, rp9, rp10, rp11, eq_ii, ne_ii, len_t, len_l, ix_t, ix_l, add_ii, sub_ii, neg_i, lt_ii, le_ii, gt_ii, ge_ii, isN_i, isN_n, notN_i, notN_n, notN_t, e_bin, e_una, e_tst, e_cand, e_cor, e_cnot, e_and, e_or, e_not, e_eif, e_acons, e_tup, e_lst, e_c, e_osome, e_B, e_call0, e_prp, e_met, e_fld, e_mak, e_makM, mkR_ok, e_calO, List.map_cons, List.map_nil, List.cons_append, List.nil_append, List.append_nil, List.getElem?_cons_zero, List.getElem?_cons_succ, List.set_cons_zero, List.set_cons_succ, List.length_cons, List.length_nil, List.length_map, Option.map_some, Option.map_none, reduceIte, Bool.false_eq_true, Bool.not_true, Bool.not_false, decide_true, decide_false, Nat.reduceAdd, Nat.reduceLT, Nat.reduceEqDiff, Nat.zero_add, Nat.lt_add_left_iff_pos, Nat.succ_pos, Nat.zero_lt_succ, few0, few1, few2, few3, he, hw, int_i, mod_ii w0]
  have m1 : (0 : Int) < 2147483629 := by decide
  have k1 : sml (40503 : Int) := by unfold sml; omega
  have k2 : sml (69069 : Int) := by unfold sml; omega
  have c2 := st (some (.dat (.scr ns))) (some (.dat (.int (p : Nat)))) (some (.dat (.int c))) none none (c % 2147483629 + 40503 * (p : Int)) 2147483629 (SL.bin addF (SL.bin modF (eB intF (aCons (eVar 2) (ret []))) (eC (.int 2147483629))) (SL.bin mulF (eC (.int 40503)) (eVar 1))) none
    (by simp only [e_ret, e_nop, e_bnd, e_ite, e_opM, e_out0, e_outd, e_outn, fz0, fzd, fzl, fzi, bd, bl_, bi, zd, zl, zi, o1, o2, e_var, e_atS, e_s1, e_s2, e_sl, e_toS, e_seq, e_next, e_no, e_drop, e_sret, e_if, e_asg, e_asgp, p_nm, p_tp, p_nil, p_cons, a_bl, a_int, e_noX, e_callM, e_bodyD, dn_next, dn_ret, rp0, rp1, rp2, rp3, rp4, rp5, rp6, rp7, rp8, rp9, rp10, rp11, eq_ii, ne_ii, len_t, len_l, ix_t, ix_l, add_ii, sub_ii, neg_i, lt_ii, le_ii, gt_ii, ge_ii, isN_i, isN_n, notN_i, notN_n, notN_t, e_bin, e_una, e_tst, e_cand, e_cor, e_cnot, e_and, e_or, e_not, e_eif, e_acons, e_tup, e_lst, e_c, e_osome, e_B, e_call0, e_prp, e_met, e_fld, e_mak, e_makM, mkR_ok, e_calO, List.map_cons, List.map_nil, List.cons_append, List.nil_append, List.append_nil, List.getElem?_cons_zero, List.getElem?_cons_succ, List.set_cons_zero, List.set_cons_succ, List.length_cons, List.length_nil, List.length_map, Option.map_some, Option.map_none, reduceIte, Bool.false_eq_true, Bool.not_true, Bool.not_false, decide_true, decide_false, Nat.reduceAdd, Nat.reduceLT, Nat.reduceEqDiff, Nat.zero_add, Nat.lt_add_left_iff_pos, Nat.succ_pos, Nat.zero_lt_succ, few0, few1, few2, few3, int_i, mod_ii m1, mul_ii (i := 40503) (.inl k1)]) m1 (eC (.int 2147483629)) (fun _ => rfl)
  generalize (c % 2147483629 + 40503 * (p : Int)) % 2147483629 = v0 at c2
  have cs : iSeq (sSlM slF 0 (ret none) (oSome (eC (.int 2)))) [some (.dat (.scr ns)), some (.dat (.int (p : Nat))), some (.dat (.int c)), some (.dat (.int v0)), none, none] =
      some (.ok ((ns.take 2).map .int), [some (.dat (.scr ns)), some (.dat (.int (p : Nat))), some (.dat (.int c)), some (.dat (.int v0)), none, none]) := by
    have sl : slF (.scr ns) none (some 2) = some (.nl ((ns.take 2).map .int)) := by
      show some (Out.nl (cut (ns.map D.int) none (some ((2 : Nat) : Int)))) = _
      rw [cut_to, List.map_take]
    simp only [e_ret, e_nop, e_bnd, e_ite, e_opM, e_out0, e_outd, e_outn, fz0, fzd, fzl, fzi, bd, bl_, bi, zd, zl, zi, o1, o2, e_var, e_atS, e_s1, e_s2, e_sl, e_toS, e_seq, e_next, e_no, e_drop, e_sret, e_if, e_asg, e_asgp, p_nm, p_tp, p_nil, p_cons, a_bl, a_int, e_noX, e_callM, e_bodyD, dn_next, dn_ret, rp0, rp1, rp2, rp3, rp4, rp5, rp6, rp7, rp8, rp9, rp10, rp11, eq_ii, ne_ii, len_t, len_l, ix_t, ix_l, add_ii, sub_ii, neg_i, lt_ii, le_ii, gt_ii, ge_ii, isN_i, isN_n, notN_i, notN_n, notN_t, e_bin, e_una, e_tst, e_cand, e_cor, e_cnot, e_and, e_or, e_not, e_eif, e_acons, e_tup, e_lst, e_c, e_osome, e_B, e_call0, e_prp, e_met, e_fld, e_mak, e_makM, mkR_ok, e_calO, List.map_cons, List.map_nil, List.cons_append, List.nil_append, List.append_nil, List.getElem?_cons_zero, List.getElem?_cons_succ, List.set_cons_zero, List.set_cons_succ, List.length_cons, List.length_nil, List.length_map, Option.map_some, Option.map_none, reduceIte, Bool.false_eq_true, Bool.not_true, Bool.not_false, decide_true, decide_false, Nat.reduceAdd, Nat.reduceLT, Nat.reduceEqDiff, Nat.zero_add, Nat.lt_add_left_iff_pos, Nat.succ_pos, Nat.zero_lt_succ, few0, few1, few2, few3, e_iseq, sl, it_l]
  obtain ⟨ρ', e1, v, x4, rfl⟩ := for_inv (b := sAsg 3 (SL.bin modF (eB intF (aCons (SL.bin addF (SL.bin mulF (eVar 3) (eC (.int 69069))) (SL.bin modF (eB intF (aCons (eVar 4) (ret []))) (eC (.int 1000003)))) (ret []))) (eC (.int 2147483629)))) (p := .nm 4) ((ns.take 2).map .int)
    (fun i ρ => ∃ (v : Int) (x4 : Option T), ρ = [some (.dat (.scr ns)), some (.dat (.int (p : Nat))), some (.dat (.int c)), some (.dat (.int v)), x4, none]) [some (.dat (.scr ns)), some (.dat (.int (p : Nat))), some (.dat (.int c)), some (.dat (.int v0)), none, none]
    (by
      rintro i d ρ hd ⟨v, x4, rfl⟩
      obtain ⟨y, _, rfl⟩ := List.mem_map.mp (List.mem_of_getElem? hd)
      have m2 : (0 : Int) < 1000003 := by decide
      have e := st (some (.dat (.scr ns))) (some (.dat (.int (p : Nat)))) (some (.dat (.int c))) (some (.dat (.int y))) none (v * 69069 + y % 1000003) 2147483629 (SL.bin addF (SL.bin mulF (eVar 3) (eC (.int 69069))) (SL.bin modF (eB intF (aCons (eVar 4) (ret []))) (eC (.int 1000003)))) (some (.dat (.int v)))
        (by simp only [e_ret, e_nop, e_bnd, e_ite, e_opM, e_out0, e_outd, e_outn, fz0, fzd, fzl, fzi, bd, bl_, bi, zd, zl, zi, o1, o2, e_var, e_atS, e_s1, e_s2, e_sl, e_toS, e_seq, e_next, e_no, e_drop, e_sret, e_if, e_asg, e_asgp, p_nm, p_tp, p_nil, p_cons, a_bl, a_int, e_noX, e_callM, e_bodyD, dn_next, dn_ret, rp0, rp1, rp2, rp3, rp4, rp5, rp6, rp7, rp8, rp9, rp10, rp11, eq_ii, ne_ii, len_t, len_l, ix_t, ix_l, add_ii, sub_ii, neg_i, lt_ii, le_ii, gt_ii, ge_ii, isN_i, isN_n, notN_i, notN_n, notN_t, e_bin, e_una, e_tst, e_cand, e_cor, e_cnot, e_and, e_or, e_not, e_eif, e_acons, e_tup, e_lst, e_c, e_osome, e_B, e_call0, e_prp, e_met, e_fld, e_mak, e_makM, mkR_ok, e_calO, List.map_cons, List.map_nil, List.cons_append, List.nil_append, List.append_nil, List.getElem?_cons_zero, List.getElem?_cons_succ, List.set_cons_zero, List.set_cons_succ, List.length_cons, List.length_nil, List.length_map, Option.map_some, Option.map_none, reduceIte, Bool.false_eq_true, Bool.not_true, Bool.not_false, decide_true, decide_false, Nat.reduceAdd, Nat.reduceLT, Nat.reduceEqDiff, Nat.zero_add, Nat.lt_add_left_iff_pos, Nat.succ_pos, Nat.zero_lt_succ, few0, few1, few2, few3, int_i, mod_ii m2, mul_ii (j := 69069) (.inr k2)]) m1 (eC (.int 2147483629)) (fun _ => rfl)
      exact ⟨_, _, by simp only [e_ret, e_nop, e_bnd, e_ite, e_opM, e_out0, e_outd, e_outn, fz0, fzd, fzl, fzi, bd, bl_, bi, zd, zl, zi, o1, o2, e_var, e_atS, e_s1, e_s2, e_sl, e_toS, e_seq, e_next, e_no, e_drop, e_sret, e_if, e_asg, e_asgp, p_nm, p_tp, p_nil, p_cons, a_bl, a_int, e_noX, e_callM, e_bodyD, dn_next, dn_ret, rp0, rp1, rp2, rp3, rp4, rp5, rp6, rp7, rp8, rp9, rp10, rp11, eq_ii, ne_ii, len_t, len_l, ix_t, ix_l, add_ii, sub_ii, neg_i, lt_ii, le_ii, gt_ii, ge_ii, isN_i, isN_n, notN_i, notN_n, notN_t, e_bin, e_una, e_tst, e_cand, e_cor, e_cnot, e_and, e_or, e_not, e_eif, e_acons, e_tup, e_lst, e_c, e_osome, e_B, e_call0, e_prp, e_met, e_fld, e_mak, e_makM, mkR_ok, e_calO, List.map_cons, List.map_nil, List.cons_append, List.nil_append, List.append_nil, List.getElem?_cons_zero, List.getElem?_cons_succ, List.set_cons_zero, List.set_cons_succ, List.length_cons, List.length_nil, List.length_map, Option.map_some, Option.map_none, reduceIte, Bool.false_eq_true, Bool.not_true, Bool.not_false, decide_true, decide_false, Nat.reduceAdd, Nat.reduceLT, Nat.reduceEqDiff, Nat.zero_add, Nat.lt_add_left_iff_pos, Nat.succ_pos, Nat.zero_lt_succ, few0, few1, few2, few3], .inl e, _, _, rfl⟩)
    ⟨v0, none, rfl⟩
  have c3 : sFor (iSeq (sSlM slF 0 (ret none) (oSome (eC (.int 2))))) (.nm 4) (sAsg 3 (SL.bin modF (eB intF (aCons (SL.bin addF (SL.bin mulF (eVar 3) (eC (.int 69069))) (SL.bin modF (eB intF (aCons (eVar 4) (ret []))) (eC (.int 1000003)))) (ret []))) (eC (.int 2147483629)))) [some (.dat (.scr ns)), some (.dat (.int (p : Nat))), some (.dat (.int c)), some (.dat (.int v0)), none, none] =
      some (.next, [some (.dat (.scr ns)), some (.dat (.int (p : Nat))), some (.dat (.int c)), some (.dat (.int v)), x4, none]) := by
    rw [e_for, cs]; exact e1
  obtain ⟨n, ha, n0, nb⟩ := abs_ex c
  have c4 : sAsg 5 (eB absF (aCons (eVar 2) (ret []))) [some (.dat (.scr ns)), some (.dat (.int (p : Nat))), some (.dat (.int c)), some (.dat (.int v)), x4, none] = some (.next, [some (.dat (.scr ns)), some (.dat (.int (p : Nat))), some (.dat (.int c)), some (.dat (.int v)), x4, some (.dat (.int n))]) := by
    simp only [e_ret, e_nop, e_bnd, e_ite, e_opM, e_out0, e_outd, e_outn, fz0, fzd, fzl, fzi, bd, bl_, bi, zd, zl, zi, o1, o2, e_var, e_atS, e_s1, e_s2, e_sl, e_toS, e_seq, e_next, e_no, e_drop, e_sret, e_if, e_asg, e_asgp, p_nm, p_tp, p_nil, p_cons, a_bl, a_int, e_noX, e_callM, e_bodyD, dn_next, dn_ret, rp0, rp1, rp2, rp3, rp4, rp5, rp6, rp7, rp8, rp9, rp10, rp11, eq_ii, ne_ii, len_t, len_l, ix_t, ix_l, add_ii, sub_ii, neg_i, lt_ii, le_ii, gt_ii, ge_ii, isN_i, isN_n, notN_i, notN_n, notN_t, e_bin, e_una, e_tst, e_cand, e_cor, e_cnot, e_and, e_or, e_not, e_eif, e_acons, e_tup, e_lst, e_c, e_osome, e_B, e_call0, e_prp, e_met, e_fld, e_mak, e_makM, mkR_ok, e_calO, List.map_cons, List.map_nil, List.cons_append, List.nil_append, List.append_nil, List.getElem?_cons_zero, List.getElem?_cons_succ, List.set_cons_zero, List.set_cons_succ, List.length_cons, List.length_nil, List.length_map, Option.map_some, Option.map_none, reduceIte, Bool.false_eq_true, Bool.not_true, Bool.not_false, decide_true, decide_false, Nat.reduceAdd, Nat.reduceLT, Nat.reduceEqDiff, Nat.zero_add, Nat.lt_add_left_iff_pos, Nat.succ_pos, Nat.zero_lt_succ, few0, few1, few2, few3, ha]
  have k10 : sml (10 : Int) := by unfold sml; omega
  have w18 : powF (.int 10) (.int 18) = some (.dt (.int (10 ^ 18))) := pow_ii (n := 18) ⟨by decide, k10⟩
  have fin : ∀ {s : Sr} {ρ' : Sl}, b__law_source [some (.dat (.scr ns)), some (.dat (.int (p : Nat))), none, none, none, none] = some (.ret (.lst false (sD s)), ρ') → f__law_source [.scr ns, .int (p : Nat)] = some (.ok (.lst false (sD s))) := by
    intro s ρ' e
    show bodyD 4 b__law_source _ = _
    simp only [e_bodyD, List.map_cons, List.map_nil, rp4, List.cons_append, List.nil_append]
    rw [e]
    rfl
  by_cases q : n < 10 ^ 18
  · refine ⟨⟨0, v, 0⟩, fin (ρ' := [some (.dat (.scr ns)), some (.dat (.int (p : Nat))), some (.dat (.int c)), some (.dat (.int v)), x4, some (.dat (.int n))]) ?_⟩
    have c5 : sIf (tst (SL.bin ltF (eVar 5) (SL.bin powF (eC (.int 10)) (eC (.int 18))))) (sRet (eLst (aCons (eC (.int 0)) (aCons (eVar 3) (aCons (eC (.int 0)) (ret [])))))) (sNext) [some (.dat (.scr ns)), some (.dat (.int (p : Nat))), some (.dat (.int c)), some (.dat (.int v)), x4, some (.dat (.int n))] =
        some (.ret (.lst false [.int 0, .int v, .int 0]), [some (.dat (.scr ns)), some (.dat (.int (p : Nat))), some (.dat (.int c)), some (.dat (.int v)), x4, some (.dat (.int n))]) := by
      simp only [e_ret, e_nop, e_bnd, e_ite, e_opM, e_out0, e_outd, e_outn, fz0, fzd, fzl, fzi, bd, bl_, bi, zd, zl, zi, o1, o2, e_var, e_atS, e_s1, e_s2, e_sl, e_toS, e_seq, e_next, e_no, e_drop, e_sret, e_if, e_asg, e_asgp, p_nm, p_tp, p_nil, p_cons, a_bl, a_int, e_noX, e_callM, e_bodyD, dn_next, dn_ret, rp0, rp1, rp2, rp3, rp4, rp5, rp6, rp7, rp8, rp9, rp10, rp11, eq_ii, ne_ii, len_t, len_l, ix_t, ix_l, add_ii, sub_ii, neg_i, lt_ii, le_ii, gt_ii, ge_ii, isN_i, isN_n, notN_i, notN_n, notN_t, e_bin, e_una, e_tst, e_cand, e_cor, e_cnot, e_and, e_or, e_not, e_eif, e_acons, e_tup, e_lst, e_c, e_osome, e_B, e_call0, e_prp, e_met, e_fld, e_mak, e_makM, mkR_ok, e_calO, List.map_cons, List.map_nil, List.cons_append, List.nil_append, List.append_nil, List.getElem?_cons_zero, List.getElem?_cons_succ, List.set_cons_zero, List.set_cons_succ, List.length_cons, List.length_nil, List.length_map, Option.map_some, Option.map_none, reduceIte, Bool.false_eq_true, Bool.not_true, Bool.not_false, decide_true, decide_false, Nat.reduceAdd, Nat.reduceLT, Nat.reduceEqDiff, Nat.zero_add, Nat.lt_add_left_iff_pos, Nat.succ_pos, Nat.zero_lt_succ, few0, few1, few2, few3, w18, q]
    unfold b__law_source
    exact (seq_next hc).trans ((seq_next c2).trans ((seq_next c3).trans ((seq_next c4).trans (seq_ret c5))))
  · have c5 : sIf (tst (SL.bin ltF (eVar 5) (SL.bin powF (eC (.int 10)) (eC (.int 18))))) (sRet (eLst (aCons (eC (.int 0)) (aCons (eVar 3) (aCons (eC (.int 0)) (ret [])))))) (sNext) [some (.dat (.scr ns)), some (.dat (.int (p : Nat))), some (.dat (.int c)), some (.dat (.int v)), x4, some (.dat (.int n))] =
        some (.next, [some (.dat (.scr ns)), some (.dat (.int (p : Nat))), some (.dat (.int c)), some (.dat (.int v)), x4, some (.dat (.int n))]) := by
      simp only [e_ret, e_nop, e_bnd, e_ite, e_opM, e_out0, e_outd, e_outn, fz0, fzd, fzl, fzi, bd, bl_, bi, zd, zl, zi, o1, o2, e_var, e_atS, e_s1, e_s2, e_sl, e_toS, e_seq, e_next, e_no, e_drop, e_sret, e_if, e_asg, e_asgp, p_nm, p_tp, p_nil, p_cons, a_bl, a_int, e_noX, e_callM, e_bodyD, dn_next, dn_ret, rp0, rp1, rp2, rp3, rp4, rp5, rp6, rp7, rp8, rp9, rp10, rp11, eq_ii, ne_ii, len_t, len_l, ix_t, ix_l, add_ii, sub_ii, neg_i, lt_ii, le_ii, gt_ii, ge_ii, isN_i, isN_n, notN_i, notN_n, notN_t, e_bin, e_una, e_tst, e_cand, e_cor, e_cnot, e_and, e_or, e_not, e_eif, e_acons, e_tup, e_lst, e_c, e_osome, e_B, e_call0, e_prp, e_met, e_fld, e_mak, e_makM, mkR_ok, e_calO, List.map_cons, List.map_nil, List.cons_append, List.nil_append, List.append_nil, List.getElem?_cons_zero, List.getElem?_cons_succ, List.set_cons_zero, List.set_cons_succ, List.length_cons, List.length_nil, List.length_map, Option.map_some, Option.map_none, reduceIte, Bool.false_eq_true, Bool.not_true, Bool.not_false, decide_true, decide_false, Nat.reduceAdd, Nat.reduceLT, Nat.reduceEqDiff, Nat.zero_add, Nat.lt_add_left_iff_pos, Nat.succ_pos, Nat.zero_lt_succ, few0, few1, few2, few3, w18, q]
    obtain ⟨y, hy, yb⟩ := shr_ex n 4000 n0
    obtain ⟨z, hz⟩ := shl_ex y 4000 (by decide) (Nat.le_trans (bits_mono (b := c) (by omega)) (Nat.le_trans cb (by decide)))
    have hy' : shrF (.int n) (.int 4000) = some (.dt (.int y)) := hy
    have hz' : shlF (.int y) (.int 4000) = some (.dt (.int z)) := hz
    obtain ⟨n', c6⟩ : ∃ n' : Int, sIf (tst (SL.bin gtF (SL.bin shrF (eVar 5) (eC (.int 4000))) (eC (.int 0)))) (sAsg 5 (SL.bin subF (eVar 5) (SL.bin shlF (SL.bin shrF (eVar 5) (eC (.int 4000))) (eC (.int 4000))))) (sNext) [some (.dat (.scr ns)), some (.dat (.int (p : Nat))), some (.dat (.int c)), some (.dat (.int v)), x4, some (.dat (.int n))] =
        some (.next, [some (.dat (.scr ns)), some (.dat (.int (p : Nat))), some (.dat (.int c)), some (.dat (.int v)), x4, some (.dat (.int n'))]) := by
      by_cases t : 0 < y
      · exact ⟨n - z, by simp only [e_ret, e_nop, e_bnd, e_ite, e_opM, e_out0, e_outd, e_outn, fz0, fzd, fzl, fzi, bd, bl_, bi, zd, zl, zi, o1, o2, e_var, e_atS, e_s1, e_s2, e_sl, e_toS, e_seq, e_next, e_no, e_drop, e_sret, e_if, e_asg, e_asgp, p_nm, p_tp, p_nil, p_cons, a_bl, a_int, e_noX, e_callM, e_bodyD, dn_next, dn_ret, rp0, rp1, rp2, rp3, rp4, rp5, rp6, rp7, rp8, rp9, rp10, rp11, eq_ii, ne_ii, len_t, len_l, ix_t, ix_l, add_ii, sub_ii, neg_i, lt_ii, le_ii, gt_ii, ge_ii, isN_i, isN_n, notN_i, notN_n, notN_t, e_bin, e_una, e_tst, e_cand, e_cor, e_cnot, e_and, e_or, e_not, e_eif, e_acons, e_tup, e_lst, e_c, e_osome, e_B, e_call0, e_prp, e_met, e_fld, e_mak, e_makM, mkR_ok, e_calO, List.map_cons, List.map_nil, List.cons_append, List.nil_append, List.append_nil, List.getElem?_cons_zero, List.getElem?_cons_succ, List.set_cons_zero, List.set_cons_succ, List.length_cons, List.length_nil, List.length_map, Option.map_some, Option.map_none, reduceIte, Bool.false_eq_true, Bool.not_true, Bool.not_false, decide_true, decide_false, Nat.reduceAdd, Nat.reduceLT, Nat.reduceEqDiff, Nat.zero_add, Nat.lt_add_left_iff_pos, Nat.succ_pos, Nat.zero_lt_succ, few0, few1, few2, few3, hy', hz', t]⟩
      · exact ⟨n, by simp only [e_ret, e_nop, e_bnd, e_ite, e_opM, e_out0, e_outd, e_outn, fz0, fzd, fzl, fzi, bd, bl_, bi, zd, zl, zi, o1, o2, e_var, e_atS, e_s1, e_s2, e_sl, e_toS, e_seq, e_next, e_no, e_drop, e_sret, e_if, e_asg, e_asgp, p_nm, p_tp, p_nil, p_cons, a_bl, a_int, e_noX, e_callM, e_bodyD, dn_next, dn_ret, rp0, rp1, rp2, rp3, rp4, rp5, rp6, rp7, rp8, rp9, rp10, rp11, eq_ii, ne_ii, len_t, len_l, ix_t, ix_l, add_ii, sub_ii, neg_i, lt_ii, le_ii, gt_ii, ge_ii, isN_i, isN_n, notN_i, notN_n, notN_t, e_bin, e_una, e_tst, e_cand, e_cor, e_cnot, e_and, e_or, e_not, e_eif, e_acons, e_tup, e_lst, e_c, e_osome, e_B, e_call0, e_prp, e_met, e_fld, e_mak, e_makM, mkR_ok, e_calO, List.map_cons, List.map_nil, List.cons_append, List.nil_append, List.append_nil, List.getElem?_cons_zero, List.getElem?_cons_succ, List.set_cons_zero, List.set_cons_succ, List.length_cons, List.length_nil, List.length_map, Option.map_some, Option.map_none, reduceIte, Bool.false_eq_true, Bool.not_true, Bool.not_false, decide_true, decide_false, Nat.reduceAdd, Nat.reduceLT, Nat.reduceEqDiff, Nat.zero_add, Nat.lt_add_left_iff_pos, Nat.succ_pos, Nat.zero_lt_succ, few0, few1, few2, few3, hy', t]⟩
    refine ⟨⟨n', v, 0⟩, fin (ρ' := [some (.dat (.scr ns)), some (.dat (.int (p : Nat))), some (.dat (.int c)), some (.dat (.int v)), x4, some (.dat (.int n'))]) ?_⟩
    have c7 : sRet (eLst (aCons (eVar 5) (aCons (eVar 3) (aCons (eC (.int 0)) (ret []))))) [some (.dat (.scr ns)), some (.dat (.int (p : Nat))), some (.dat (.int c)), some (.dat (.int v)), x4, some (.dat (.int n'))] =
        some (.ret (.lst false [.int n', .int v, .int 0]), [some (.dat (.scr ns)), some (.dat (.int (p : Nat))), some (.dat (.int c)), some (.dat (.int v)), x4, some (.dat (.int n'))]) := by
      simp only [e_ret, e_nop, e_bnd, e_ite, e_opM, e_out0, e_outd, e_outn, fz0, fzd, fzl, fzi, bd, bl_, bi, zd, zl, zi, o1, o2, e_var, e_atS, e_s1, e_s2, e_sl, e_toS, e_seq, e_next, e_no, e_drop, e_sret, e_if, e_asg, e_asgp, p_nm, p_tp, p_nil, p_cons, a_bl, a_int, e_noX, e_callM, e_bodyD, dn_next, dn_ret, rp0, rp1, rp2, rp3, rp4, rp5, rp6, rp7, rp8, rp9, rp10, rp11, eq_ii, ne_ii, len_t, len_l, ix_t, ix_l, add_ii, sub_ii, neg_i, lt_ii, le_ii, gt_ii, ge_ii, isN_i, isN_n, notN_i, notN_n, notN_t, e_bin, e_una, e_tst, e_cand, e_cor, e_cnot, e_and, e_or, e_not, e_eif, e_acons, e_tup, e_lst, e_c, e_osome, e_B, e_call0, e_prp, e_met, e_fld, e_mak, e_makM, mkR_ok, e_calO, List.map_cons, List.map_nil, List.cons_append, List.nil_append, List.append_nil, List.getElem?_cons_zero, List.getElem?_cons_succ, List.set_cons_zero, List.set_cons_succ, List.length_cons, List.length_nil, List.length_map, Option.map_some, Option.map_none, reduceIte, Bool.false_eq_true, Bool.not_true, Bool.not_false, decide_true, decide_false, Nat.reduceAdd, Nat.reduceLT, Nat.reduceEqDiff, Nat.zero_add, Nat.lt_add_left_iff_pos, Nat.succ_pos, Nat.zero_lt_succ, few0, few1, few2, few3]
    unfold b__law_source
    exact (seq_next hc).trans ((seq_next c2).trans ((seq_next c3).trans ((seq_next c4).trans ((seq_next c5).trans ((seq_next c6).trans c7)))))
variable {Q : T → Prop}
theorem w_pick {s : Sr} {k : Int} (h0 : 0 < k) (h1 : k < 4611686018427387904) {Q : D → List D → Prop} (q : ∀ (d : Int) (s' : Sr), 0 ≤ d → d < k → Q (.int d) (sD s')) : ClL (f__law_pick (.lst true (sD s)) [.int k]) Q := by
  obtain ⟨d, s', e, a, b⟩ := pick_ok s h0 h1
  exact ⟨_, _, e, q d s' a b⟩
theorem w_source {ns : List Int} (hb : ∀ k ∈ ns, PySem.Builtin.Int.intBits k ≤ 1048576) (p : Nat) (hp : p ≤ 10) (q : ∀ s : Sr, Q (.lst false (sD s))) : Cl (f__law_source [.scr ns, .int (p : Nat)]) Q := by
  obtain ⟨s, e⟩ := source_ok ns hb p hp
  exact cl_l e (q s)
end NF

set_option Elab.async false
set_option linter.all false
set_option maxRecDepth 100000
set_option maxHeartbeats 4000000
/-! k54: what each way makes -/
namespace NF
open SL PM
def th : Nat → D
  | 0 => .str "f"
  | 1 => .int 7
  | 2 => .int (-1)
  | 3 => .non
  | 4 => .tup [.str "x", .int 1]
  | 5 => .str ""
  | _ => .int (10 ^ 20)
def er (d : D) : Nat → D
  | 0 => .exi "BadText" ["place"] [d]
  | 1 => .exi "BadLine" ["line"] [d]
  | 2 => .exi "AtOdds" ["thing"] [d]
  | 3 => .exi "NoPace" ["stage"] [d]
  | 4 => .exi "NoHole" [] []
  | 5 => .exi "NoWay" ["thing"] [d]
  | 6 => .exi "NotShift" ["row"] [d]
  | 7 => .exi "NotWhole" ["row"] [d]
  | 8 => .exi "Ringed" ["row"] [d]
  | 9 => .exi "Unseen" ["number"] [d]
  | 10 => .exi "NothingDone" [] []
  | 11 => .exi "TooMany" ["word"] [d]
  | 12 => .exi "BadCount" ["thing"] [d]
  | 13 => .exi "BadTerm" ["thing"] [d]
  | 14 => .exi "BadSaying" ["thing"] [d]
  | 15 => .exi "BadInlet" ["thing"] [d]
  | 16 => .exi "BadCourse" ["thing"] [d]
  | 17 => .exi "Lacking" ["thing"] [d]
  | 18 => .exi "BadClaim" ["thing"] [d]
  | 19 => .exi "BadTable" ["word"] [d]
  | 20 => .exi "BadMaker" ["word"] [d]
  | 21 => .exi "BadBound" ["word"] [d]
  | 22 => .exi "BadTables" ["number"] [d]
  | 23 => .exi "BadFact" ["number"] [d]
  | 24 => .exi "BadName" ["number"] [d]
  | 25 => .exi "BadRow" ["number"] [d]
  | 26 => .exi "BadMakers" ["number"] [d]
  | 27 => .exi "BadCounts" ["number"] [d]
  | 28 => .exi "BadCourses" ["number"] [d]
  | 29 => .exi "BadPaces" ["number"] [d]
  | 30 => .exi "BadPlan" ["number"] [d]
  | 31 => .exi "BadSight" ["number"] [d]
  | 32 => .exi "BadDeed" ["number"] [d]
  | 33 => .exi "NoClaim" ["number"] [d]
  | 34 => .exi "Missing" ["name"] [d]
  | 35 => .exi "Twice" ["name"] [d]
  | 36 => .exi "Open" ["name"] [d]
  | 37 => .exi "BadPace" [] []
  | _ => .exi "NoWeb" [] []
def kd (w : Nat) : List D := (List.range 39).map fun k => .bl (decide (k = w))
def bare (w : Nat) : Bool := [4, 10, 37, 38].contains w
theorem lk {k : Nat} (h : k < 7) : k = 0 ∨ k = 1 ∨ k = 2 ∨ k = 3 ∨ k = 4 ∨ k = 5 ∨ k = 6 := by omega
theorem no39 {n : Nat} {P : Prop} (h : n + 39 < 39) : P := absurd h (by omega)
theorem one_ok : ∀ (w : Nat), w < 39 → ∀ k, k < 7 → f__law_one [.int (w : Nat), th k] = some (.ok (.dat (er (th k) w)))
  | 0, _ => fun k hk => by
    obtain rfl | rfl | rfl | rfl | rfl | rfl | rfl := lk hk
    all_goals kernel_rfl
  | 1, _ => fun k hk => by
    obtain rfl | rfl | rfl | rfl | rfl | rfl | rfl := lk hk
    all_goals kernel_rfl
  | 2, _ => fun k hk => by
    obtain rfl | rfl | rfl | rfl | rfl | rfl | rfl := lk hk
    all_goals kernel_rfl
  | 3, _ => fun k hk => by
    obtain rfl | rfl | rfl | rfl | rfl | rfl | rfl := lk hk
    all_goals kernel_rfl
  | 4, _ => fun k hk => by
    obtain rfl | rfl | rfl | rfl | rfl | rfl | rfl := lk hk
    all_goals kernel_rfl
  | 5, _ => fun k hk => by
    obtain rfl | rfl | rfl | rfl | rfl | rfl | rfl := lk hk
    all_goals kernel_rfl
  | 6, _ => fun k hk => by
    obtain rfl | rfl | rfl | rfl | rfl | rfl | rfl := lk hk
    all_goals kernel_rfl
  | 7, _ => fun k hk => by
    obtain rfl | rfl | rfl | rfl | rfl | rfl | rfl := lk hk
    all_goals kernel_rfl
  | 8, _ => fun k hk => by
    obtain rfl | rfl | rfl | rfl | rfl | rfl | rfl := lk hk
    all_goals kernel_rfl
  | 9, _ => fun k hk => by
    obtain rfl | rfl | rfl | rfl | rfl | rfl | rfl := lk hk
    all_goals kernel_rfl
  | 10, _ => fun k hk => by
    obtain rfl | rfl | rfl | rfl | rfl | rfl | rfl := lk hk
    all_goals kernel_rfl
  | 11, _ => fun k hk => by
    obtain rfl | rfl | rfl | rfl | rfl | rfl | rfl := lk hk
    all_goals kernel_rfl
  | 12, _ => fun k hk => by
    obtain rfl | rfl | rfl | rfl | rfl | rfl | rfl := lk hk
    all_goals kernel_rfl
  | 13, _ => fun k hk => by
    obtain rfl | rfl | rfl | rfl | rfl | rfl | rfl := lk hk
    all_goals kernel_rfl
  | 14, _ => fun k hk => by
    obtain rfl | rfl | rfl | rfl | rfl | rfl | rfl := lk hk
    all_goals kernel_rfl
  | 15, _ => fun k hk => by
    obtain rfl | rfl | rfl | rfl | rfl | rfl | rfl := lk hk
    all_goals kernel_rfl
  | 16, _ => fun k hk => by
    obtain rfl | rfl | rfl | rfl | rfl | rfl | rfl := lk hk
    all_goals kernel_rfl
  | 17, _ => fun k hk => by
    obtain rfl | rfl | rfl | rfl | rfl | rfl | rfl := lk hk
    all_goals kernel_rfl
  | 18, _ => fun k hk => by
    obtain rfl | rfl | rfl | rfl | rfl | rfl | rfl := lk hk
    all_goals kernel_rfl
  | 19, _ => fun k hk => by
    obtain rfl | rfl | rfl | rfl | rfl | rfl | rfl := lk hk
    all_goals kernel_rfl
  | 20, _ => fun k hk => by
    obtain rfl | rfl | rfl | rfl | rfl | rfl | rfl := lk hk
    all_goals kernel_rfl
  | 21, _ => fun k hk => by
    obtain rfl | rfl | rfl | rfl | rfl | rfl | rfl := lk hk
    all_goals kernel_rfl
  | 22, _ => fun k hk => by
    obtain rfl | rfl | rfl | rfl | rfl | rfl | rfl := lk hk
    all_goals kernel_rfl
  | 23, _ => fun k hk => by
    obtain rfl | rfl | rfl | rfl | rfl | rfl | rfl := lk hk
    all_goals kernel_rfl
  | 24, _ => fun k hk => by
    obtain rfl | rfl | rfl | rfl | rfl | rfl | rfl := lk hk
    all_goals kernel_rfl
  | 25, _ => fun k hk => by
    obtain rfl | rfl | rfl | rfl | rfl | rfl | rfl := lk hk
    all_goals kernel_rfl
  | 26, _ => fun k hk => by
    obtain rfl | rfl | rfl | rfl | rfl | rfl | rfl := lk hk
    all_goals kernel_rfl
  | 27, _ => fun k hk => by
    obtain rfl | rfl | rfl | rfl | rfl | rfl | rfl := lk hk
    all_goals kernel_rfl
  | 28, _ => fun k hk => by
    obtain rfl | rfl | rfl | rfl | rfl | rfl | rfl := lk hk
    all_goals kernel_rfl
  | 29, _ => fun k hk => by
    obtain rfl | rfl | rfl | rfl | rfl | rfl | rfl := lk hk
    all_goals kernel_rfl
  | 30, _ => fun k hk => by
    obtain rfl | rfl | rfl | rfl | rfl | rfl | rfl := lk hk
    all_goals kernel_rfl
  | 31, _ => fun k hk => by
    obtain rfl | rfl | rfl | rfl | rfl | rfl | rfl := lk hk
    all_goals kernel_rfl
  | 32, _ => fun k hk => by
    obtain rfl | rfl | rfl | rfl | rfl | rfl | rfl := lk hk
    all_goals kernel_rfl
  | 33, _ => fun k hk => by
    obtain rfl | rfl | rfl | rfl | rfl | rfl | rfl := lk hk
    all_goals kernel_rfl
  | 34, _ => fun k hk => by
    obtain rfl | rfl | rfl | rfl | rfl | rfl | rfl := lk hk
    all_goals kernel_rfl
  | 35, _ => fun k hk => by
    obtain rfl | rfl | rfl | rfl | rfl | rfl | rfl := lk hk
    all_goals kernel_rfl
  | 36, _ => fun k hk => by
    obtain rfl | rfl | rfl | rfl | rfl | rfl | rfl := lk hk
    all_goals kernel_rfl
  | 37, _ => fun k hk => by
    obtain rfl | rfl | rfl | rfl | rfl | rfl | rfl := lk hk
    all_goals kernel_rfl
  | 38, _ => fun k hk => by
    obtain rfl | rfl | rfl | rfl | rfl | rfl | rfl := lk hk
    all_goals kernel_rfl
  | n + 39, h => no39 h
theorem kinds_ok : ∀ (w : Nat), w < 39 → ∀ d, f__law_kinds [er d w] = some (.ok (.dat (.lst (kd w))))
  | 0, _ => fun d => by kernel_rfl
  | 1, _ => fun d => by kernel_rfl
  | 2, _ => fun d => by kernel_rfl
  | 3, _ => fun d => by kernel_rfl
  | 4, _ => fun d => by kernel_rfl
  | 5, _ => fun d => by kernel_rfl
  | 6, _ => fun d => by kernel_rfl
  | 7, _ => fun d => by kernel_rfl
  | 8, _ => fun d => by kernel_rfl
  | 9, _ => fun d => by kernel_rfl
  | 10, _ => fun d => by kernel_rfl
  | 11, _ => fun d => by kernel_rfl
  | 12, _ => fun d => by kernel_rfl
  | 13, _ => fun d => by kernel_rfl
  | 14, _ => fun d => by kernel_rfl
  | 15, _ => fun d => by kernel_rfl
  | 16, _ => fun d => by kernel_rfl
  | 17, _ => fun d => by kernel_rfl
  | 18, _ => fun d => by kernel_rfl
  | 19, _ => fun d => by kernel_rfl
  | 20, _ => fun d => by kernel_rfl
  | 21, _ => fun d => by kernel_rfl
  | 22, _ => fun d => by kernel_rfl
  | 23, _ => fun d => by kernel_rfl
  | 24, _ => fun d => by kernel_rfl
  | 25, _ => fun d => by kernel_rfl
  | 26, _ => fun d => by kernel_rfl
  | 27, _ => fun d => by kernel_rfl
  | 28, _ => fun d => by kernel_rfl
  | 29, _ => fun d => by kernel_rfl
  | 30, _ => fun d => by kernel_rfl
  | 31, _ => fun d => by kernel_rfl
  | 32, _ => fun d => by kernel_rfl
  | 33, _ => fun d => by kernel_rfl
  | 34, _ => fun d => by kernel_rfl
  | 35, _ => fun d => by kernel_rfl
  | 36, _ => fun d => by kernel_rfl
  | 37, _ => fun d => by kernel_rfl
  | 38, _ => fun d => by kernel_rfl
  | n + 39, h => no39 h
theorem borne_ok : ∀ (w : Nat), w < 39 → ∀ d, bare w = false → f__law_borne [.int (w : Nat), er d w] = some (.ok (.dat d))
  | 0, _ => fun d _ => by kernel_rfl
  | 1, _ => fun d _ => by kernel_rfl
  | 2, _ => fun d _ => by kernel_rfl
  | 3, _ => fun d _ => by kernel_rfl
  | 4, _ => fun d h => absurd h (by decide)
  | 5, _ => fun d _ => by kernel_rfl
  | 6, _ => fun d _ => by kernel_rfl
  | 7, _ => fun d _ => by kernel_rfl
  | 8, _ => fun d _ => by kernel_rfl
  | 9, _ => fun d _ => by kernel_rfl
  | 10, _ => fun d h => absurd h (by decide)
  | 11, _ => fun d _ => by kernel_rfl
  | 12, _ => fun d _ => by kernel_rfl
  | 13, _ => fun d _ => by kernel_rfl
  | 14, _ => fun d _ => by kernel_rfl
  | 15, _ => fun d _ => by kernel_rfl
  | 16, _ => fun d _ => by kernel_rfl
  | 17, _ => fun d _ => by kernel_rfl
  | 18, _ => fun d _ => by kernel_rfl
  | 19, _ => fun d _ => by kernel_rfl
  | 20, _ => fun d _ => by kernel_rfl
  | 21, _ => fun d _ => by kernel_rfl
  | 22, _ => fun d _ => by kernel_rfl
  | 23, _ => fun d _ => by kernel_rfl
  | 24, _ => fun d _ => by kernel_rfl
  | 25, _ => fun d _ => by kernel_rfl
  | 26, _ => fun d _ => by kernel_rfl
  | 27, _ => fun d _ => by kernel_rfl
  | 28, _ => fun d _ => by kernel_rfl
  | 29, _ => fun d _ => by kernel_rfl
  | 30, _ => fun d _ => by kernel_rfl
  | 31, _ => fun d _ => by kernel_rfl
  | 32, _ => fun d _ => by kernel_rfl
  | 33, _ => fun d _ => by kernel_rfl
  | 34, _ => fun d _ => by kernel_rfl
  | 35, _ => fun d _ => by kernel_rfl
  | 36, _ => fun d _ => by kernel_rfl
  | 37, _ => fun d h => absurd h (by decide)
  | 38, _ => fun d h => absurd h (by decide)
  | n + 39, h => no39 h
theorem isv_ok : ∀ (w : Nat), w < 39 → ∀ d, isIF xy_ValueError xall (er d w) = some (.dt (.bl true))
  | 0, _ => fun d => by kernel_rfl
  | 1, _ => fun d => by kernel_rfl
  | 2, _ => fun d => by kernel_rfl
  | 3, _ => fun d => by kernel_rfl
  | 4, _ => fun d => by kernel_rfl
  | 5, _ => fun d => by kernel_rfl
  | 6, _ => fun d => by kernel_rfl
  | 7, _ => fun d => by kernel_rfl
  | 8, _ => fun d => by kernel_rfl
  | 9, _ => fun d => by kernel_rfl
  | 10, _ => fun d => by kernel_rfl
  | 11, _ => fun d => by kernel_rfl
  | 12, _ => fun d => by kernel_rfl
  | 13, _ => fun d => by kernel_rfl
  | 14, _ => fun d => by kernel_rfl
  | 15, _ => fun d => by kernel_rfl
  | 16, _ => fun d => by kernel_rfl
  | 17, _ => fun d => by kernel_rfl
  | 18, _ => fun d => by kernel_rfl
  | 19, _ => fun d => by kernel_rfl
  | 20, _ => fun d => by kernel_rfl
  | 21, _ => fun d => by kernel_rfl
  | 22, _ => fun d => by kernel_rfl
  | 23, _ => fun d => by kernel_rfl
  | 24, _ => fun d => by kernel_rfl
  | 25, _ => fun d => by kernel_rfl
  | 26, _ => fun d => by kernel_rfl
  | 27, _ => fun d => by kernel_rfl
  | 28, _ => fun d => by kernel_rfl
  | 29, _ => fun d => by kernel_rfl
  | 30, _ => fun d => by kernel_rfl
  | 31, _ => fun d => by kernel_rfl
  | 32, _ => fun d => by kernel_rfl
  | 33, _ => fun d => by kernel_rfl
  | 34, _ => fun d => by kernel_rfl
  | 35, _ => fun d => by kernel_rfl
  | 36, _ => fun d => by kernel_rfl
  | 37, _ => fun d => by kernel_rfl
  | 38, _ => fun d => by kernel_rfl
  | n + 39, h => no39 h
theorem isn_ok : ∀ (w : Nat), w < 39 → ∀ d, isIF xy_NeedforthError xall (er d w) = some (.dt (.bl true))
  | 0, _ => fun d => by kernel_rfl
  | 1, _ => fun d => by kernel_rfl
  | 2, _ => fun d => by kernel_rfl
  | 3, _ => fun d => by kernel_rfl
  | 4, _ => fun d => by kernel_rfl
  | 5, _ => fun d => by kernel_rfl
  | 6, _ => fun d => by kernel_rfl
  | 7, _ => fun d => by kernel_rfl
  | 8, _ => fun d => by kernel_rfl
  | 9, _ => fun d => by kernel_rfl
  | 10, _ => fun d => by kernel_rfl
  | 11, _ => fun d => by kernel_rfl
  | 12, _ => fun d => by kernel_rfl
  | 13, _ => fun d => by kernel_rfl
  | 14, _ => fun d => by kernel_rfl
  | 15, _ => fun d => by kernel_rfl
  | 16, _ => fun d => by kernel_rfl
  | 17, _ => fun d => by kernel_rfl
  | 18, _ => fun d => by kernel_rfl
  | 19, _ => fun d => by kernel_rfl
  | 20, _ => fun d => by kernel_rfl
  | 21, _ => fun d => by kernel_rfl
  | 22, _ => fun d => by kernel_rfl
  | 23, _ => fun d => by kernel_rfl
  | 24, _ => fun d => by kernel_rfl
  | 25, _ => fun d => by kernel_rfl
  | 26, _ => fun d => by kernel_rfl
  | 27, _ => fun d => by kernel_rfl
  | 28, _ => fun d => by kernel_rfl
  | 29, _ => fun d => by kernel_rfl
  | 30, _ => fun d => by kernel_rfl
  | 31, _ => fun d => by kernel_rfl
  | 32, _ => fun d => by kernel_rfl
  | 33, _ => fun d => by kernel_rfl
  | 34, _ => fun d => by kernel_rfl
  | 35, _ => fun d => by kernel_rfl
  | 36, _ => fun d => by kernel_rfl
  | 37, _ => fun d => by kernel_rfl
  | 38, _ => fun d => by kernel_rfl
  | n + 39, h => no39 h
theorem isu_ok : ∀ (w : Nat), w < 39 → ∀ d, isIF xy_Unreadable xall (er d w) = some (.dt (.bl (decide ((w : Int) < 2))))
  | 0, _ => fun d => by kernel_rfl
  | 1, _ => fun d => by kernel_rfl
  | 2, _ => fun d => by kernel_rfl
  | 3, _ => fun d => by kernel_rfl
  | 4, _ => fun d => by kernel_rfl
  | 5, _ => fun d => by kernel_rfl
  | 6, _ => fun d => by kernel_rfl
  | 7, _ => fun d => by kernel_rfl
  | 8, _ => fun d => by kernel_rfl
  | 9, _ => fun d => by kernel_rfl
  | 10, _ => fun d => by kernel_rfl
  | 11, _ => fun d => by kernel_rfl
  | 12, _ => fun d => by kernel_rfl
  | 13, _ => fun d => by kernel_rfl
  | 14, _ => fun d => by kernel_rfl
  | 15, _ => fun d => by kernel_rfl
  | 16, _ => fun d => by kernel_rfl
  | 17, _ => fun d => by kernel_rfl
  | 18, _ => fun d => by kernel_rfl
  | 19, _ => fun d => by kernel_rfl
  | 20, _ => fun d => by kernel_rfl
  | 21, _ => fun d => by kernel_rfl
  | 22, _ => fun d => by kernel_rfl
  | 23, _ => fun d => by kernel_rfl
  | 24, _ => fun d => by kernel_rfl
  | 25, _ => fun d => by kernel_rfl
  | 26, _ => fun d => by kernel_rfl
  | 27, _ => fun d => by kernel_rfl
  | 28, _ => fun d => by kernel_rfl
  | 29, _ => fun d => by kernel_rfl
  | 30, _ => fun d => by kernel_rfl
  | 31, _ => fun d => by kernel_rfl
  | 32, _ => fun d => by kernel_rfl
  | 33, _ => fun d => by kernel_rfl
  | 34, _ => fun d => by kernel_rfl
  | 35, _ => fun d => by kernel_rfl
  | 36, _ => fun d => by kernel_rfl
  | 37, _ => fun d => by kernel_rfl
  | 38, _ => fun d => by kernel_rfl
  | n + 39, h => no39 h
theorem isi_ok : ∀ (w : Nat), w < 39 → ∀ d, isIF xy_Impossible xall (er d w) = some (.dt (.bl (decide (2 ≤ (w : Int)) && decide ((w : Int) < 11))))
  | 0, _ => fun d => by kernel_rfl
  | 1, _ => fun d => by kernel_rfl
  | 2, _ => fun d => by kernel_rfl
  | 3, _ => fun d => by kernel_rfl
  | 4, _ => fun d => by kernel_rfl
  | 5, _ => fun d => by kernel_rfl
  | 6, _ => fun d => by kernel_rfl
  | 7, _ => fun d => by kernel_rfl
  | 8, _ => fun d => by kernel_rfl
  | 9, _ => fun d => by kernel_rfl
  | 10, _ => fun d => by kernel_rfl
  | 11, _ => fun d => by kernel_rfl
  | 12, _ => fun d => by kernel_rfl
  | 13, _ => fun d => by kernel_rfl
  | 14, _ => fun d => by kernel_rfl
  | 15, _ => fun d => by kernel_rfl
  | 16, _ => fun d => by kernel_rfl
  | 17, _ => fun d => by kernel_rfl
  | 18, _ => fun d => by kernel_rfl
  | 19, _ => fun d => by kernel_rfl
  | 20, _ => fun d => by kernel_rfl
  | 21, _ => fun d => by kernel_rfl
  | 22, _ => fun d => by kernel_rfl
  | 23, _ => fun d => by kernel_rfl
  | 24, _ => fun d => by kernel_rfl
  | 25, _ => fun d => by kernel_rfl
  | 26, _ => fun d => by kernel_rfl
  | 27, _ => fun d => by kernel_rfl
  | 28, _ => fun d => by kernel_rfl
  | 29, _ => fun d => by kernel_rfl
  | 30, _ => fun d => by kernel_rfl
  | 31, _ => fun d => by kernel_rfl
  | 32, _ => fun d => by kernel_rfl
  | 33, _ => fun d => by kernel_rfl
  | 34, _ => fun d => by kernel_rfl
  | 35, _ => fun d => by kernel_rfl
  | 36, _ => fun d => by kernel_rfl
  | 37, _ => fun d => by kernel_rfl
  | 38, _ => fun d => by kernel_rfl
  | n + 39, h => no39 h
theorem nin_ok : ∀ (w : Nat), w < 39 → inD (.int (w : Nat)) [.int 4, .int 10, .int 37, .int 38] = bare w
  | 0, _ => by kernel_rfl
  | 1, _ => by kernel_rfl
  | 2, _ => by kernel_rfl
  | 3, _ => by kernel_rfl
  | 4, _ => by kernel_rfl
  | 5, _ => by kernel_rfl
  | 6, _ => by kernel_rfl
  | 7, _ => by kernel_rfl
  | 8, _ => by kernel_rfl
  | 9, _ => by kernel_rfl
  | 10, _ => by kernel_rfl
  | 11, _ => by kernel_rfl
  | 12, _ => by kernel_rfl
  | 13, _ => by kernel_rfl
  | 14, _ => by kernel_rfl
  | 15, _ => by kernel_rfl
  | 16, _ => by kernel_rfl
  | 17, _ => by kernel_rfl
  | 18, _ => by kernel_rfl
  | 19, _ => by kernel_rfl
  | 20, _ => by kernel_rfl
  | 21, _ => by kernel_rfl
  | 22, _ => by kernel_rfl
  | 23, _ => by kernel_rfl
  | 24, _ => by kernel_rfl
  | 25, _ => by kernel_rfl
  | 26, _ => by kernel_rfl
  | 27, _ => by kernel_rfl
  | 28, _ => by kernel_rfl
  | 29, _ => by kernel_rfl
  | 30, _ => by kernel_rfl
  | 31, _ => by kernel_rfl
  | 32, _ => by kernel_rfl
  | 33, _ => by kernel_rfl
  | 34, _ => by kernel_rfl
  | 35, _ => by kernel_rfl
  | 36, _ => by kernel_rfl
  | 37, _ => by kernel_rfl
  | 38, _ => by kernel_rfl
  | n + 39, h => no39 h
theorem ne_th {k : Nat} (hk : k < 7) : neF (th k) (th k) = some (.dt (.bl false)) := by
  obtain rfl | rfl | rfl | rfl | rfl | rfl | rfl := lk hk
  all_goals kernel_rfl
theorem truth_ok (b : Bool) : f__law_truth [.bl b, .bl b] = some (.ok (.dat (.bl true))) := by
  cases b
  all_goals kernel_rfl
end NF

section
open SL PM
local macro_rules | `(tactic| and_intros) => `(tactic| repeat (first
  | (with_reducible first
    | refine ws_seq ?_ | refine ws_asg ?_ | refine ws_if ?_ | refine ws_ret ?_ | refine ws_next ?_ | refine ws_asgp ?_ | refine ws_par ?_ | refine ws_par3 ?_ | refine ws_drop ?_ | refine ws_for ?_ | refine ws_setI ?_ | refine ws_fset ?_
    | refine we_c ?_ | refine we_bin ?_ | refine we_tst ?_ | refine wa_nil ?_ | refine wa_cons ?_ | refine we_call0 ?_ | refine fd_d ?_ | refine bl_i ?_
    | refine we_una ?_ | refine we_cand ?_ | refine we_cor ?_ | refine we_cnot ?_ | refine we_and ?_ | refine we_or ?_ | refine we_not ?_ | refine we_if ?_ | refine we_tup0 ?_ | refine we_lst0 ?_ | refine we_tup ?_ | refine we_lst ?_ | refine we_B ?_
    | refine we_eSl ?_ | refine we_rev ?_ | refine op_rev ?_ | refine wo_none ?_ | refine wo_some ?_ | refine we_callT ?_ | refine we_mak ?_ | refine we_met ?_ | refine we_prp ?_ | refine we_fld ?_ | refine we_cal ?_ | refine we_metX ?_ | refine we_callX ?_ | refine we_makX ?_ | refine we_xf ?_ | refine we_ch ?_ | refine we_str ?_ | refine wi_chr ?_ | refine ex_str ?_ | refine we_calX ?_ | refine we_dic0 ?_ | refine op_isX ?_ | refine wi_seq ?_ | refine wi_enu ?_ | refine wi_of ?_ | refine wt_nil ?_ | refine wt_cons ?_
    | refine fd_l ?_ | refine fd_i ?_
    | refine sq_next ?_ | refine sq_ret ?_ | refine sq_brk ?_ | refine sq_cont ?_ | refine lq_next ?_ | refine lq_ret ?_ | refine lq_brk ?_ | refine lq_cont ?_ | refine rq_d ?_ | refine rq_l ?_ | refine rq_i ?_ | refine rq_n ?_
    | refine br_true ?_ | refine br_false ?_ | refine br_not ?_ | refine br_or_t ?_ | refine br_or_f ?_ | refine br_and_t ?_ | refine br_and_f ?_
    | refine op_all2 ?_ | refine op_any2 ?_ | refine op_len1 ?_ | refine op_len2 ?_ | refine op_len3 ?_ | refine op_len4 ?_ | refine op_eqb ?_ | refine op_add ?_ | refine op_sub' ?_ | refine op_eqi ?_ | refine op_lt' ?_ | refine op_le' ?_ | refine op_gt' ?_ | refine op_ge' ?_ | refine op_nei ?_ | refine op_isi ?_ | refine op_isn ?_ | refine op_noi ?_ | refine op_non ?_ | refine op_neg ?_
    | refine ap_nm ?_ | refine ap_tp ?_ | refine aps_nil ?_ | refine aps_cons ?_ | refine ws_brk ?_ | refine ws_cont ?_ | refine ws_retN ?_)
  | ((with_reducible apply we_var); exact rfl) | ((with_reducible apply we_s2d); exact rfl) | ((with_reducible apply we_s1d); exact rfl) | ((with_reducible apply we_s2l); exact rfl) | ((with_reducible apply we_s1l); exact rfl)
  | ((with_reducible apply we_sSld); exact rfl) | ((with_reducible apply we_sSll); exact rfl) | ((with_reducible apply we_callBl); exact rfl) | ((with_reducible apply ws_appl); exact rfl) | ((with_reducible apply ws_aug); exact rfl) | ((with_reducible apply ws_setL); exact rfl)
  | ((with_reducible apply st_i); (simp only [List.set_cons_succ, List.set_cons_zero]; exact rfl); (simp only [List.length_cons, List.length_nil]; decide))
  | ((with_reducible apply rl_d); exact rfl) | ((with_reducible apply rl_l); exact rfl)
  | ((with_reducible refine br_dt ?_ ?_); with_reducible assumption) | ((with_reducible refine br_df ?_ ?_); with_reducible assumption)
  | ((with_reducible refine op_mul' ?_ ?_); first | (with_reducible assumption) | (left; with_reducible assumption) | (right; with_reducible assumption) | skip) | ((with_reducible refine op_div' ?_ ?_); first | (with_reducible assumption) | omega | skip) | ((with_reducible refine op_mod' ?_ ?_); first | (with_reducible assumption) | omega | skip)
  | ((with_reducible refine op_lrgz ?_ ?_); first | decide | omega | skip) | ((with_reducible refine op_addl ?_ ?_); first | (simp only [rngD_length, List.length_map, List.length_cons, List.length_nil]; first | done | decide | omega) | skip) | ((with_reducible refine op_addt ?_ ?_); first | (simp only [rngD_length, List.length_map, List.length_cons, List.length_nil]; first | done | decide | omega) | skip)
  | ((with_reducible apply op_dt); exact rfl) | ((with_reducible apply op_nl); exact rfl)
  | ((with_reducible apply we_varl); exact rfl; (simp only [List.set_cons_succ, List.set_cons_zero]; exact rfl)) | ((with_reducible apply we_s1i); exact rfl) | ((with_reducible apply we_idxd); exact rfl) | ((with_reducible apply we_idxl); exact rfl) | ((with_reducible apply we_vari); exact rfl; (simp only [List.set_cons_succ, List.set_cons_zero]; exact rfl))
  | ((with_reducible refine ob_i ?_ ?_); decide)
  | ((with_reducible refine And.intro ?_ ?_); exact rfl) | ((with_reducible refine And.intro ?_ ?_); (simp only [List.length_cons, List.length_nil]; decide))
  | (with_reducible first | refine ex_it_t ?_ | refine ex_en_t ?_ | refine ex_en_l ?_ | refine ex_en_s ?_ | refine ex_it_l ?_ | refine ex_it_s ?_ | refine ex_int ?_ | refine ex_tint ?_ | refine ex_lst ?_ | refine ex_obj ?_ | refine ex_three ?_ | rfl)))
local macro_rules | `(tactic| infer_instance) => `(tactic| repeat (first
  | (with_reducible first
    | refine ws_asg ?_ | refine ws_if ?_ | refine ws_ret ?_ | refine ws_next ?_ | refine ws_asgp ?_ | refine ws_par ?_ | refine ws_par3 ?_ | refine ws_drop ?_ | refine ws_for ?_ | refine ws_setI ?_ | refine ws_fset ?_
    | refine we_c ?_ | refine we_bin ?_ | refine we_tst ?_ | refine wa_nil ?_ | refine wa_cons ?_ | refine we_call0 ?_ | refine fd_d ?_ | refine bl_i ?_
    | refine we_una ?_ | refine we_cand ?_ | refine we_cor ?_ | refine we_cnot ?_ | refine we_and ?_ | refine we_or ?_ | refine we_not ?_ | refine we_if ?_ | refine we_tup0 ?_ | refine we_lst0 ?_ | refine we_tup ?_ | refine we_lst ?_ | refine we_B ?_
    | refine we_eSl ?_ | refine we_rev ?_ | refine op_rev ?_ | refine wo_none ?_ | refine wo_some ?_ | refine we_callT ?_ | refine we_mak ?_ | refine we_met ?_ | refine we_prp ?_ | refine we_fld ?_ | refine we_cal ?_ | refine we_metX ?_ | refine we_callX ?_ | refine we_makX ?_ | refine we_xf ?_ | refine we_ch ?_ | refine we_str ?_ | refine wi_chr ?_ | refine ex_str ?_ | refine we_calX ?_ | refine we_dic0 ?_ | refine op_isX ?_ | refine wi_seq ?_ | refine wi_enu ?_ | refine wi_of ?_ | refine wt_nil ?_ | refine wt_cons ?_
    | refine fd_l ?_ | refine fd_i ?_
    | refine sq_next ?_ | refine sq_ret ?_ | refine sq_brk ?_ | refine sq_cont ?_ | refine lq_next ?_ | refine lq_ret ?_ | refine lq_brk ?_ | refine lq_cont ?_ | refine rq_d ?_ | refine rq_l ?_ | refine rq_i ?_ | refine rq_n ?_
    | refine br_true ?_ | refine br_false ?_ | refine br_not ?_ | refine br_or_t ?_ | refine br_or_f ?_ | refine br_and_t ?_ | refine br_and_f ?_
    | refine op_all2 ?_ | refine op_any2 ?_ | refine op_len1 ?_ | refine op_len2 ?_ | refine op_len3 ?_ | refine op_len4 ?_ | refine op_eqb ?_ | refine op_add ?_ | refine op_sub' ?_ | refine op_eqi ?_ | refine op_lt' ?_ | refine op_le' ?_ | refine op_gt' ?_ | refine op_ge' ?_ | refine op_nei ?_ | refine op_isi ?_ | refine op_isn ?_ | refine op_noi ?_ | refine op_non ?_ | refine op_neg ?_
    | refine ap_nm ?_ | refine ap_tp ?_ | refine aps_nil ?_ | refine aps_cons ?_ | refine ws_brk ?_ | refine ws_cont ?_ | refine ws_retN ?_)
  | ((with_reducible apply we_var); exact rfl) | ((with_reducible apply we_s2d); exact rfl) | ((with_reducible apply we_s1d); exact rfl) | ((with_reducible apply we_s2l); exact rfl) | ((with_reducible apply we_s1l); exact rfl)
  | ((with_reducible apply we_sSld); exact rfl) | ((with_reducible apply we_sSll); exact rfl) | ((with_reducible apply we_callBl); exact rfl) | ((with_reducible apply ws_appl); exact rfl) | ((with_reducible apply ws_aug); exact rfl) | ((with_reducible apply ws_setL); exact rfl)
  | ((with_reducible apply st_i); (simp only [List.set_cons_succ, List.set_cons_zero]; exact rfl); (simp only [List.length_cons, List.length_nil]; decide))
  | ((with_reducible apply rl_d); exact rfl) | ((with_reducible apply rl_l); exact rfl)
  | ((with_reducible refine br_dt ?_ ?_); with_reducible assumption) | ((with_reducible refine br_df ?_ ?_); with_reducible assumption)
  | ((with_reducible refine op_mul' ?_ ?_); first | (with_reducible assumption) | (left; with_reducible assumption) | (right; with_reducible assumption) | skip) | ((with_reducible refine op_div' ?_ ?_); first | (with_reducible assumption) | omega | skip) | ((with_reducible refine op_mod' ?_ ?_); first | (with_reducible assumption) | omega | skip)
  | ((with_reducible refine op_lrgz ?_ ?_); first | decide | omega | skip) | ((with_reducible refine op_addl ?_ ?_); first | (simp only [rngD_length, List.length_map, List.length_cons, List.length_nil]; first | done | decide | omega) | skip) | ((with_reducible refine op_addt ?_ ?_); first | (simp only [rngD_length, List.length_map, List.length_cons, List.length_nil]; first | done | decide | omega) | skip)
  | ((with_reducible apply op_dt); exact rfl) | ((with_reducible apply op_nl); exact rfl)
  | ((with_reducible apply we_varl); exact rfl; (simp only [List.set_cons_succ, List.set_cons_zero]; exact rfl)) | ((with_reducible apply we_s1i); exact rfl) | ((with_reducible apply we_idxd); exact rfl) | ((with_reducible apply we_idxl); exact rfl) | ((with_reducible apply we_vari); exact rfl; (simp only [List.set_cons_succ, List.set_cons_zero]; exact rfl))
  | ((with_reducible refine ob_i ?_ ?_); decide)
  | ((with_reducible refine And.intro ?_ ?_); exact rfl) | ((with_reducible refine And.intro ?_ ?_); (simp only [List.length_cons, List.length_nil]; decide))
  | (with_reducible first | refine ex_it_t ?_ | refine ex_en_t ?_ | refine ex_en_l ?_ | refine ex_en_s ?_ | refine ex_it_l ?_ | refine ex_it_s ?_ | refine ex_int ?_ | refine ex_tint ?_ | refine ex_lst ?_ | refine ex_obj ?_ | refine ex_three ?_ | rfl)))

set_option Elab.async false
set_option linter.all false
set_option maxRecDepth 100000
set_option maxHeartbeats 4000000
/-! k54's law -/
namespace NF
open SL PM

theorem thing_ix {d : Int} (h0 : 0 ≤ d) (h7 : d < 7) : ∃ k, k < 7 ∧ ixF (.lst [.str "f", .int 7, .int (-1), .non, .tup [.str "x", .int 1], .str "", .int (10 ^ Int.toNat 20)]) (.int d) = some (.dt (th k)) := by
  obtain rfl | rfl | rfl | rfl | rfl | rfl | rfl : d = 0 ∨ d = 1 ∨ d = 2 ∨ d = 3 ∨ d = 4 ∨ d = 5 ∨ d = 6 := by omega
  · exact ⟨0, by decide, by kernel_rfl⟩
  · exact ⟨1, by decide, by kernel_rfl⟩
  · exact ⟨2, by decide, by kernel_rfl⟩
  · exact ⟨3, by decide, by kernel_rfl⟩
  · exact ⟨4, by decide, by kernel_rfl⟩
  · exact ⟨5, by decide, by kernel_rfl⟩
  · exact ⟨6, by decide, by kernel_rfl⟩
theorem kd_at {i k : Nat} (hk : k < 39) : L2.atI (kd i) (k : Int) = some (.bl (decide (k = i))) := by
  have hl : (kd i).length = 39 := by unfold kd; rw [List.length_map, List.length_range]
  rw [atI_nat (by omega)]
  unfold kd
  rw [List.getElem?_map, List.getElem?_range hk]
  rfl
theorem all_k {a0 a1 a2 a4 a5 : Option T} {i : Nat} (hi : i < 39) {Q : T → Sl → Prop} (q : Q (.lst false (List.replicate 39 (.bl true))) [a0, a1, a2, some (.dat (.int (i : Nat))), a4, a5, some (.dat (.lst (kd i))), none]) :
    We (eLc (iOf rng1 (aCons (eC (.int 39)) (ret []))) (.nm 7) (ret true) (eCall0 2 f__law_truth [] (aCons (s2M ixF 6 (eVar 7)) (aCons (SL.bin eqF (eVar 7) (eVar 3)) (ret []))))) [a0, a1, a2, some (.dat (.int (i : Nat))), a4, a5, some (.dat (.lst (kd i))), none] Q := by
  refine we_lc (List.range 39) (fun k => .int (k : Nat)) (fun _ => .bl true) ?_
  and_intros
  refine ⟨_, rng1_z (n := 39) rfl (by decide), ?_⟩
  and_intros
  refine ⟨by decide, fun k hk => ?_, ?_⟩
  · have hk := List.mem_range.mp hk
    show We _ [a0, a1, a2, some (.dat (.int (i : Nat))), a4, a5, some (.dat (.lst (kd i))), some (.dat (.int (k : Nat)))] _
    and_intros
    refine op_dt (z := .bl (decide (k = i))) (by rw [ix_l, kd_at hk]; rfl) ?_
    and_intros
    rw [show decide ((k : Int) = (i : Int)) = decide (k = i) from decide_eq_decide.mpr (by omega)]
    refine cl_d (truth_ok _) ?_
    and_intros
    all_goals rfl
  · exact q
theorem law_true (ns : List Int) (hn : ns.length ≤ 63) (hb : ∀ k ∈ ns, PySem.Builtin.Int.intBits k ≤ 1048576) : f_law [.scr ns] = some (.ok (.dat (.bl true))) := by
  refine cl_eq ?_
  refine cl_body (by simp only [List.map_cons, List.map_nil, List.cons_append, List.nil_append, List.append_nil, rp0, rp1, rp2, rp3, rp4, rp5, rp6, rp7, rp8, rp9, rp10, rp11, rp12, rp13, rp14, rp15, rp16, rp17, rp18, rp19]; exact rfl) ?_
  unfold b_law
  and_intros
  refine w_source hb 0 (by decide) (fun s => ?_)
  and_intros
  refine ⟨_, rng1_z (n := 39) rfl (by decide), ?_⟩
  refine wf_inv (fun i ρ => ∃ (s : Sr) (x3 x4 x5 x6 : Option T), ρ = [some (.dat (.scr ns)), some (.lst false (sD s)), some (.dat (.tup [.int 4, .int 10, .int 37, .int 38])), x3, x4, x5, x6, none]) ⟨s, none, none, none, none, rfl⟩ (fun i d ρ hd hP => ?_) (fun ρ hP => ?_)
  · obtain ⟨s, x3, x4, x5, x6, rfl⟩ := hP
    obtain ⟨hi, rfl⟩ := rngD_get hd
    rw [Int.zero_add]
    and_intros
    refine w_pick (by decide) (by decide) (fun q s7 q0 q1 => ?_)
    obtain ⟨k, hk, ek⟩ := thing_ix q0 q1
    and_intros
    refine op_dt ek ?_
    and_intros
    refine cl_d (one_ok i hi k hk) ?_
    and_intros
    refine op_dt (isv_ok i hi _) ?_
    and_intros
    refine op_dt (isn_ok i hi _) ?_
    and_intros
    rw [nin_ok i hi]
    refine br_s (fun hba => ?_) (fun hba => ?_)
    · and_intros
      refine cl_d (kinds_ok i hi _) ?_
      and_intros
      refine all_k hi ?_
      and_intros
      refine br_t (by rfl) ?_
      and_intros
      refine op_dt (isu_ok i hi _) ?_
      and_intros
      refine cl_d (truth_ok _) ?_
      and_intros
      refine op_dt (isi_ok i hi _) ?_
      and_intros
      refine ⟨_, rfl, ?_⟩
      and_intros
      refine ⟨.int (i : Nat), decide (2 ≤ (i : Int)), rfl, rfl, rfl, ?_⟩
      refine br_ds (fun h2 => ?_) (fun h2 => ?_)
      · and_intros
        rw [decide_eq_true h2, Bool.true_and]
        refine cl_d (truth_ok _) ?_
        and_intros
        exact ⟨_, _, _, _, _, rfl⟩
      · and_intros
        rw [decide_eq_false h2, Bool.false_and]
        refine cl_d (truth_ok _) ?_
        and_intros
        exact ⟨_, _, _, _, _, rfl⟩
    · and_intros
      refine cl_d (borne_ok i hi _ hba) ?_
      and_intros
      refine op_dt (ne_th hk) ?_
      and_intros
      refine cl_d (kinds_ok i hi _) ?_
      and_intros
      refine all_k hi ?_
      and_intros
      refine br_t (by rfl) ?_
      and_intros
      refine op_dt (isu_ok i hi _) ?_
      and_intros
      refine cl_d (truth_ok _) ?_
      and_intros
      refine op_dt (isi_ok i hi _) ?_
      and_intros
      refine ⟨_, rfl, ?_⟩
      and_intros
      refine ⟨.int (i : Nat), decide (2 ≤ (i : Int)), rfl, rfl, rfl, ?_⟩
      refine br_ds (fun h2 => ?_) (fun h2 => ?_)
      · and_intros
        rw [decide_eq_true h2, Bool.true_and]
        refine cl_d (truth_ok _) ?_
        and_intros
        exact ⟨_, _, _, _, _, rfl⟩
      · and_intros
        rw [decide_eq_false h2, Bool.false_and]
        refine cl_d (truth_ok _) ?_
        and_intros
        exact ⟨_, _, _, _, _, rfl⟩
  · obtain ⟨s, x3, x4, x5, x6, rfl⟩ := hP
    and_intros
    refine we_eq rfl ?_
    and_intros
    refine br_f (by kernel_rfl) ?_
    and_intros
    refine we_eq rfl ?_
    and_intros
    kernel_rfl
end NF

end
theorem PySem.Challenge.cw_needforth_k54_whole_errors_apart_holds : PySem.Challenge.rw_needforth_k54_whole_errors_apart.Holds :=
  NF.cls NF.law_true

