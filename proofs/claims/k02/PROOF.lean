import PyProof.Rows.All
import Wide.All
import OpenK.AllK
import Wide.FinOn
import KE.KStateDown
import Lean
import HandS.ForMost
import HandS.Exc
import HandS.ExcOwn
import HandS.TryOnly
import HandS.WordsExc
import HandS.Defaults
import HandS.Wide
import HandS.WideBits
import HandS.IsInst
import HandS.TupAny
import HandS.TupMul
import HandS.Property
import HandS.OwnEq
import HandS.Flow
import HandS.Star
import HandS.CallSlots
import HandS.HeadEnd
import HandS.HeadHook1
import HandS.HeadHook2
import HandS.Conv
import HandS.Style
import HandS.Iter
import HandS.Head0
import HandS.Head1
import HandS.Head2
import HandS.EndBits
import KE.KSuper
import HandS.ClsMeth
import HandS.Flt
import KE.KExcSuper
import HandS.ExcInit
import HandS.ExcField
import KE.KExcIs
import HandS.ExcIs
import HandS.FStr
import PySem.Challenge.RW_needforth_k02_whole_bad_tables
set_option Elab.async false
set_option linter.all false
set_option maxRecDepth 100000
set_option maxHeartbeats 4000000
/-! S-layer 1: data, trees, what a heap holds of them -/
namespace SL
open PySem L2

inductive D where
  | non | bl (b : Bool) | int (i : Int) | str (s : Str) | tup (xs : List D) | lst (xs : List D) | scr (ns : List Int)
  | obj (C : Str) (ns : List Str) (fs : List D) | exn (a d : Addr) (ns : List Str) (fs : List D) | dic (ks : List L2.Key) (xs : List D)

def Ex (H H' : Hp) : Prop := ∀ a o, H a = some o → H' a = some o
theorem Ex.rfl {H : Hp} : Ex H H := fun _ _ h => h
theorem Ex.trans {H H1 H2 : Hp} (a : Ex H H1) (b : Ex H1 H2) : Ex H H2 := fun x o h => b x o (a x o h)
theorem Ex.new {H : Hp} {p : Addr} {o : HO} (h : H p = none) : Ex H (upd H p o) := fun a u e => by
  rw [upd_ne (ne_of_none e h)]
  exact e
theorem Ex.back {H H' : Hp} {p : Addr} (e : Ex H H') (h : H' p = none) : H p = none := by
  cases h1 : H p with
  | none => rfl
  | some o => rw [e p o h1] at h; cases h
theorem Ex.rd {H H' : Hp} {a : Addr} {u : HO} (e : Ex H H') (h : Rd H a u) : Rd H' a u := by
  rcases h with h | ⟨o, h⟩
  · exact Or.inl (e a _ h)
  · exact Or.inr ⟨o, e a _ h⟩
theorem Ex.l {K : PySem.W.Frag} {H H' : Hp} {a : Addr} {xs : List V} (e : Ex H H') (h : SqL K H a xs) : SqL K H' a xs := by
  rcases h with h | h
  · exact Or.inl (e.rd h)
  · exact Or.inr h
theorem Ex.t {K : PySem.W.Frag} {H H' : Hp} {a : Addr} {xs : List V} (e : Ex H H') (h : SqT K H a xs) : SqT K H' a xs := by
  rcases h with h | h
  · exact Or.inl (e.rd h)
  · exact Or.inr h

mutual
def Rep (K : PySem.W.Frag) (F : Hp) : D → V → Prop
  | .non, v => v = .non
  | .bl b, v => v = .bl b
  | .int i, v => v = .int i
  | .str s, v => v = .str s
  | .tup xs, v => ∃ a vs, v = .ref a ∧ SqT K F a vs ∧ Reps K F xs vs
  | .lst xs, v => ∃ a vs, v = .ref a ∧ F a = some (.lst vs) ∧ Reps K F xs vs
  | .scr ns, v => ∃ a, v = .ref a ∧ SqL K F a (ns.map V.int)
  | .obj C ns xs, v => ∃ a dx vs, v = .ref a ∧ F a = some (.ins (He.ga K C) dx (ns.zip vs)) ∧ ns.length = xs.length ∧ Reps K F xs vs
  | .exn a d ns xs, v => ∃ vs, v = .ref a ∧ F d = some (.xd (ns.zip vs)) ∧ ns.length = xs.length ∧ Reps K F xs vs
  | .dic ks xs, v => ∃ a vs, v = .ref a ∧ F a = some (.dK (ks.zip vs)) ∧ ks.length = xs.length ∧ Reps K F xs vs
def Reps (K : PySem.W.Frag) (F : Hp) : List D → List V → Prop
  | [], vs => vs = []
  | x :: xs, vs => ∃ v r, vs = v :: r ∧ Rep K F x v ∧ Reps K F xs r
end

mutual
theorem Rep.mono {K : PySem.W.Frag} {F F' : Hp} (e : Ex F F') : ∀ (d : D) (v : V), Rep K F d v → Rep K F' d v
  | .non, _, h => h
  | .bl _, _, h => h
  | .int _, _, h => h
  | .str _, _, h => h
  | .tup xs, v, h => by
    unfold Rep at h ⊢
    obtain ⟨a, vs, e1, e2, e3⟩ := h
    exact ⟨a, vs, e1, e.t e2, Reps.mono e xs vs e3⟩
  | .lst xs, v, h => by
    unfold Rep at h ⊢
    obtain ⟨a, vs, e1, e2, e3⟩ := h
    exact ⟨a, vs, e1, e _ _ e2, Reps.mono e xs vs e3⟩
  | .scr ns, v, h => by
    unfold Rep at h ⊢
    obtain ⟨a, e1, e2⟩ := h
    exact ⟨a, e1, e.l e2⟩
  | .obj C ns xs, v, h => by
    unfold Rep at h ⊢
    obtain ⟨a, dx, vs, e1, e2, e3, e4⟩ := h
    exact ⟨a, dx, vs, e1, e _ _ e2, e3, Reps.mono e xs vs e4⟩
  | .exn a d ns xs, v, h => by
    unfold Rep at h ⊢
    obtain ⟨vs, e1, e2, e3, e4⟩ := h
    exact ⟨vs, e1, e _ _ e2, e3, Reps.mono e xs vs e4⟩
  | .dic ks xs, v, h => by
    unfold Rep at h ⊢
    obtain ⟨a, vs, e1, e2, e3, e4⟩ := h
    exact ⟨a, vs, e1, e _ _ e2, e3, Reps.mono e xs vs e4⟩
theorem Reps.mono {K : PySem.W.Frag} {F F' : Hp} (e : Ex F F') : ∀ (xs : List D) (vs : List V), Reps K F xs vs → Reps K F' xs vs
  | [], _, h => by unfold Reps at h ⊢; exact h
  | x :: xs, vs, h => by
    unfold Reps at h ⊢
    obtain ⟨v, r, e1, e2, e3⟩ := h
    exact ⟨v, r, e1, Rep.mono e x v e2, Reps.mono e xs r e3⟩
end
section
variable {K : PySem.W.Frag} {F : Hp}
theorem reps_nil : Reps K F [] [] := by unfold Reps; rfl
theorem reps_cons {x : D} {v : V} {xs : List D} {vs : List V} (h : Rep K F x v) (t : Reps K F xs vs) : Reps K F (x :: xs) (v :: vs) := by
  unfold Reps; exact ⟨v, vs, rfl, h, t⟩
theorem Reps.len : ∀ {xs : List D} {vs : List V}, Reps K F xs vs → vs.length = xs.length
  | [], vs, h => by unfold Reps at h; subst h; rfl
  | x :: xs, vs, h => by
    unfold Reps at h
    obtain ⟨v, r, rfl, _, t⟩ := h
    simp [Reps.len t]
theorem Reps.app : ∀ {xs : List D} {vs : List V} {ys : List D} {us : List V}, Reps K F xs vs → Reps K F ys us → Reps K F (xs ++ ys) (vs ++ us)
  | [], vs, ys, us, h, g => by unfold Reps at h; subst h; exact g
  | x :: xs, vs, ys, us, h, g => by
    unfold Reps at h
    obtain ⟨v, r, rfl, a, t⟩ := h
    exact reps_cons a (Reps.app t g)
theorem Reps.get : ∀ {xs : List D} {vs : List V} {i : Nat} {x : D}, Reps K F xs vs → xs[i]? = some x → ∃ v, vs[i]? = some v ∧ Rep K F x v
  | [], vs, i, x, h, e => by simp at e
  | y :: xs, vs, i, x, h, e => by
    unfold Reps at h
    obtain ⟨v, r, rfl, a, t⟩ := h
    cases i with
    | zero => simp at e; subst e; exact ⟨v, by simp, a⟩
    | succ i => simp at e; obtain ⟨u, hu, ru⟩ := Reps.get t e; exact ⟨u, by simpa using hu, ru⟩
theorem Reps.getV : ∀ {xs : List D} {vs : List V} {i : Nat} {v : V}, Reps K F xs vs → vs[i]? = some v → ∃ x, xs[i]? = some x ∧ Rep K F x v
  | [], vs, i, v, h, e => by unfold Reps at h; subst h; simp at e
  | y :: xs, vs, i, v, h, e => by
    unfold Reps at h
    obtain ⟨w, r, rfl, a, t⟩ := h
    cases i with
    | zero => simp at e; subst e; exact ⟨y, by simp, a⟩
    | succ i => simp at e; obtain ⟨u, hu, ru⟩ := Reps.getV t e; exact ⟨u, by simpa using hu, ru⟩
theorem Reps.take : ∀ {xs : List D} {vs : List V} (n : Nat), Reps K F xs vs → Reps K F (xs.take n) (vs.take n)
  | xs, vs, 0, h => by simp; exact reps_nil
  | [], vs, n + 1, h => by unfold Reps at h; subst h; simp; exact reps_nil
  | x :: xs, vs, n + 1, h => by
    unfold Reps at h
    obtain ⟨v, r, rfl, a, t⟩ := h
    exact reps_cons a (Reps.take n t)
theorem Reps.drop : ∀ {xs : List D} {vs : List V} (n : Nat), Reps K F xs vs → Reps K F (xs.drop n) (vs.drop n)
  | xs, vs, 0, h => h
  | [], vs, n + 1, h => by unfold Reps at h; subst h; simp; exact reps_nil
  | x :: xs, vs, n + 1, h => by
    unfold Reps at h
    obtain ⟨v, r, rfl, a, t⟩ := h
    exact Reps.drop n t
theorem Reps.set : ∀ {xs : List D} {vs : List V} (n : Nat) {x : D} {v : V}, Reps K F xs vs → Rep K F x v → Reps K F (xs.set n x) (vs.set n v)
  | [], vs, n, x, v, h, g => by unfold Reps at h; subst h; simp; exact reps_nil
  | y :: xs, vs, 0, x, v, h, g => by
    unfold Reps at h
    obtain ⟨w, r, rfl, a, t⟩ := h
    exact reps_cons g t
  | y :: xs, vs, n + 1, x, v, h, g => by
    unfold Reps at h
    obtain ⟨w, r, rfl, a, t⟩ := h
    exact reps_cons a (Reps.set n t g)
theorem Reps.flat : ∀ (k : Nat) {xs : List D} {vs : List V}, Reps K F xs vs → Reps K F (List.replicate k xs).flatten (List.replicate k vs).flatten
  | 0, xs, vs, h => by simp; exact reps_nil
  | k + 1, xs, vs, h => by simp only [List.replicate_succ, List.flatten_cons]; exact Reps.app h (Reps.flat k h)
theorem reps_ints : ∀ (ns : List Int), Reps K F (ns.map D.int) (ns.map V.int)
  | [] => reps_nil
  | n :: ns => reps_cons (by unfold Rep; rfl) (reps_ints ns)
theorem rep_int {i : Int} : Rep K F (.int i) (.int i) := by unfold Rep; rfl
theorem rep_bl {i : Bool} : Rep K F (.bl i) (.bl i) := by unfold Rep; rfl
theorem rep_str {i : Str} : Rep K F (.str i) (.str i) := by unfold Rep; rfl
theorem rep_non : Rep K F .non .non := by unfold Rep; rfl
theorem rep_tup {a : Addr} {xs : List D} {vs : List V} (h : SqT K F a vs) (r : Reps K F xs vs) : Rep K F (.tup xs) (.ref a) := by unfold Rep; exact ⟨a, vs, rfl, h, r⟩
theorem rep_lst {a : Addr} {xs : List D} {vs : List V} (h : F a = some (.lst vs)) (r : Reps K F xs vs) : Rep K F (.lst xs) (.ref a) := by unfold Rep; exact ⟨a, vs, rfl, h, r⟩
end

/-! ### trees: data, a list or an instance that one slot alone holds (b: lent by the caller) -/
inductive T where
  | dat (d : D) | lst (b : Bool) (xs : List D) | ins (b : Bool) (C : Str) (ns : List Str) (xs : List D)
def T.own : T → Bool
  | .dat _ => false
  | _ => true
def T.brw : T → Bool
  | .dat _ => false
  | .lst b _ => b
  | .ins b _ _ _ => b
def T.fz : T → D
  | .dat d => d
  | .lst _ xs => .lst xs
  | .ins _ C ns xs => .obj C ns xs
def Hold (K : PySem.W.Frag) (F H : Hp) : T → V → Prop
  | .dat d, v => Rep K F d v
  | .lst _ xs, v => ∃ a vs, v = .ref a ∧ F a = none ∧ H a = some (.lst vs) ∧ Reps K F xs vs
  | .ins _ C ns xs, v => ∃ a dx vs, v = .ref a ∧ F a = none ∧ H a = some (.ins (He.ga K C) dx (ns.zip vs)) ∧ ns.length = xs.length ∧ Reps K F xs vs
theorem Hold.adr {K : PySem.W.Frag} {F H : Hp} {t : T} {v : V} (h : Hold K F H t v) (o : t.own = true) : ∃ a u, v = .ref a ∧ F a = none ∧ H a = some u := by
  cases t with
  | dat d => cases o
  | lst b xs => obtain ⟨a, vs, e1, e2, e3, _⟩ := h; exact ⟨a, _, e1, e2, e3⟩
  | ins b C ns xs => obtain ⟨a, dx, vs, e1, e2, e3, _⟩ := h; exact ⟨a, _, e1, e2, e3⟩
/-- F grows where the tree is not, H stays where it is -/
theorem Hold.mono {K : PySem.W.Frag} {F F' H H' : Hp} {t : T} {v : V} (h : Hold K F H t v) (e : Ex F F') (hF : t.own = true → ∀ a, v = .ref a → F' a = none) (hH : t.own = true → ∀ a, v = .ref a → H' a = H a) : Hold K F' H' t v := by
  cases t with
  | dat d => exact Rep.mono e d v h
  | lst b xs =>
    obtain ⟨a, vs, e1, e2, e3, e4⟩ := h
    exact ⟨a, vs, e1, hF rfl a e1, (hH rfl a e1).trans e3, Reps.mono e _ _ e4⟩
  | ins b C ns xs =>
    obtain ⟨a, dx, vs, e1, e2, e3, e4, e5⟩ := h
    exact ⟨a, dx, vs, e1, hF rfl a e1, (hH rfl a e1).trans e3, e4, Reps.mono e _ _ e5⟩

/-- a frame's entry: what is told there as data, the heap, what is lent -/
structure Gm where
  F0 : Hp
  H0 : Hp
  B : Addr → Prop
def Br (G : Gm) (t : T) (v : V) : Prop := t.own = true → ∀ a, v = .ref a → if t.brw = true then G.B a else (G.H0 a = none ∧ ¬ G.B a)

abbrev Sl := List (Option T)
structure J (K : PySem.W.Frag) (G : Gm) (F H : Hp) (L : Sl) (M : St) : Prop where
  ex : Ex F H
  len : L.length = M.length
  ok : ∀ (i : Nat) (t : T), L[i]? = some (some t) → ∃ v, M[i]? = some (some v) ∧ Hold K F H t v ∧ Br G t v
  ne : ∀ (i j : Nat) (t t' : T) (v : V), i ≠ j → L[i]? = some (some t) → L[j]? = some (some t') → t.own = true → t'.own = true → M[i]? = some (some v) → M[j]? = some (some v) → False
  base : ∀ a o, G.H0 a = some o → ¬ G.B a → H a = some o
  frs : ∀ a o, F a = some o → G.F0 a = some o ∨ G.H0 a = none
  f0 : Ex G.F0 F
  bal : ∀ a, G.B a → ∃ o, H a = some o
section
variable {K : PySem.W.Frag} {G : Gm} {F F' H H' : Hp} {L : Sl} {M : St}
theorem J.fresh (j : J K G F H L M) {p : Addr} (h : H p = none) : F p = none ∧ G.H0 p = none ∧ ¬ G.B p := by
  refine ⟨j.ex.back h, ?_, ?_⟩
  · cases e : G.H0 p with
    | none => rfl
    | some o =>
      by_cases b : G.B p
      · obtain ⟨u, hu⟩ := j.bal p b; rw [h] at hu; cases hu
      · rw [j.base p o e b] at h; cases h
  · intro b; obtain ⟨u, hu⟩ := j.bal p b; rw [h] at hu; cases hu
/-- a new data value -/
theorem J.dat (j : J K G F H L M) {d : D} {v : V} (r : Rep K F d v) : J K G F H (L ++ [some (.dat d)]) (M ++ [some v]) := by
  refine ⟨j.ex, by simp [j.len], fun i t e => ?_, fun i i' t t' v' ni e e' o o' m m' => ?_, j.base, j.frs, j.f0, j.bal⟩
  · by_cases hi : i < L.length
    · rw [List.getElem?_append_left hi] at e
      obtain ⟨u, h1, h2⟩ := j.ok i t e
      exact ⟨u, by rw [List.getElem?_append_left (by rw [← j.len]; exact hi)]; exact h1, h2⟩
    · have hle : L.length ≤ i := Nat.le_of_not_lt hi
      rw [List.getElem?_append_right hle] at e
      have : i - L.length = 0 := by
        by_cases z : i - L.length = 0
        · exact z
        · rw [List.getElem?_singleton, if_neg z] at e; cases e
      rw [List.getElem?_singleton, if_pos this] at e
      cases e
      refine ⟨v, ?_, r, fun o => by cases o⟩
      rw [List.getElem?_append_right (by rw [← j.len]; exact hle), ← j.len, List.getElem?_singleton, if_pos this]
  · have lt : ∀ {k s}, (L ++ [some (T.dat d)])[k]? = some (some s) → s.own = true → k < L.length := fun {k s} ek os => by
      by_cases hk : k < L.length
      · exact hk
      · have hle : L.length ≤ k := Nat.le_of_not_lt hk
        rw [List.getElem?_append_right hle] at ek
        by_cases z : k - L.length = 0
        · rw [List.getElem?_singleton, if_pos z] at ek; cases ek; cases os
        · rw [List.getElem?_singleton, if_neg z] at ek; cases ek
    have h1 := lt e o
    have h2 := lt e' o'
    rw [List.getElem?_append_left h1] at e
    rw [List.getElem?_append_left h2] at e'
    rw [List.getElem?_append_left (by rw [← j.len]; exact h1)] at m
    rw [List.getElem?_append_left (by rw [← j.len]; exact h2)] at m'
    exact j.ne i i' t t' v' ni e e' o o' m m'
/-- the heap and the data grow: nothing held moves -/
theorem J.grow (j : J K G F H L M) (ef : Ex F F') (eh : Ex H H') (ex : Ex F' H') (hf : ∀ a o, F' a = some o → F a = some o ∨ H a = none) : J K G F' H' L M := by
  refine ⟨ex, j.len, fun i t e => ?_, j.ne, fun a o h b => eh a o (j.base a o h b), fun a o h => ?_, j.f0.trans ef, fun a b => let ⟨o, h⟩ := j.bal a b; ⟨o, eh a o h⟩⟩
  · obtain ⟨v, h1, h2, h3⟩ := j.ok i t e
    refine ⟨v, h1, h2.mono ef (fun o a ea => ?_) (fun o a ea => ?_), h3⟩
    · obtain ⟨b, u, e1, e2, e3⟩ := h2.adr o
      rw [ea] at e1; cases e1
      cases q : F' a with
      | none => rfl
      | some x =>
        rcases hf a x q with z | z
        · rw [e2] at z; cases z
        · rw [e3] at z; cases z
    · obtain ⟨b, u, e1, e2, e3⟩ := h2.adr o
      rw [ea] at e1; cases e1
      rw [e3]; exact eh a u e3
  · rcases hf a o h with z | z
    · exact j.frs a o z
    · exact Or.inr (j.fresh z).2.1
/-- a new object that is data from now on -/
theorem J.frz (j : J K G F H L M) {p : Addr} {o : HO} (h : H p = none) : J K G (upd F p o) (upd H p o) L M := by
  refine j.grow (Ex.new (j.ex.back h)) (Ex.new h) (fun a u e => ?_) (fun a u e => ?_)
  · by_cases z : a = p
    · subst z; rw [upd_same] at e ⊢; exact e
    · rw [upd_ne z] at e ⊢; exact j.ex a u e
  · by_cases z : a = p
    · subst z; exact Or.inr h
    · rw [upd_ne z] at e; exact Or.inl e
theorem J.heap (j : J K G F H L M) {p : Addr} {o : HO} (h : H p = none) : J K G F (upd H p o) L M :=
  j.grow Ex.rfl (Ex.new h) (j.ex.trans (Ex.new h)) fun a u e => Or.inl e
/-- a new owned object -/
theorem J.push (j : J K G F H L M) {p : Addr} {o : HO} {t : T} (h : H p = none) (ho : t.own = true) (hb : t.brw = false) (hold : Hold K F (upd H p o) t (.ref p)) : J K G F (upd H p o) (L ++ [some t]) (M ++ [some (.ref p)]) := by
  have j1 : J K G F (upd H p o) L M := j.heap h
  refine ⟨j1.ex, by simp [j.len], fun i s e => ?_, fun i i' s s' v' ni e e' os os' m m' => ?_, j1.base, j1.frs, j1.f0, j1.bal⟩
  · by_cases hi : i < L.length
    · rw [List.getElem?_append_left hi] at e
      obtain ⟨u, h1, h2⟩ := j1.ok i s e
      exact ⟨u, by rw [List.getElem?_append_left (by rw [← j.len]; exact hi)]; exact h1, h2⟩
    · have hle : L.length ≤ i := Nat.le_of_not_lt hi
      rw [List.getElem?_append_right hle] at e
      by_cases z : i - L.length = 0
      · rw [List.getElem?_singleton, if_pos z] at e
        cases e
        refine ⟨.ref p, ?_, hold, fun _ a ea => ?_⟩
        · rw [List.getElem?_append_right (by rw [← j.len]; exact hle), ← j.len, List.getElem?_singleton, if_pos z]
        · cases ea; rw [hb]; exact ⟨(j.fresh h).2.1, (j.fresh h).2.2⟩
      · rw [List.getElem?_singleton, if_neg z] at e; cases e
  · have old : ∀ {k s}, k < L.length → (L ++ [some t])[k]? = some (some s) → s.own = true → (M ++ [some (V.ref p)])[k]? = some (some (V.ref p)) → False := fun {k s} hk ek os mk => by
      rw [List.getElem?_append_left hk] at ek
      rw [List.getElem?_append_left (by rw [← j.len]; exact hk)] at mk
      obtain ⟨u, h1, h2, _⟩ := j.ok k s ek
      rw [mk] at h1; cases h1
      obtain ⟨a, u, e1, e2, e3⟩ := h2.adr os
      cases e1; rw [h] at e3; cases e3
    have big : ∀ {k s}, ¬ k < L.length → (L ++ [some t])[k]? = some (some s) → k = L.length := fun {k s} hk ek => by
      have hle : L.length ≤ k := Nat.le_of_not_lt hk
      rw [List.getElem?_append_right hle] at ek
      by_cases z : k - L.length = 0
      · omega
      · rw [List.getElem?_singleton, if_neg z] at ek; cases ek
    have val : ∀ {k}, k = L.length → (M ++ [some (V.ref p)])[k]? = some (some (V.ref p)) := fun {k} hk => by
      rw [List.getElem?_append_right (by rw [← j.len]; omega), ← j.len, List.getElem?_singleton, if_pos (by omega)]
    by_cases h1 : i < L.length
    · by_cases h2 : i' < L.length
      · rw [List.getElem?_append_left h1] at e
        rw [List.getElem?_append_left h2] at e'
        rw [List.getElem?_append_left (by rw [← j.len]; exact h1)] at m
        rw [List.getElem?_append_left (by rw [← j.len]; exact h2)] at m'
        exact j.ne i i' s s' v' ni e e' os os' m m'
      · have q := val (big h2 e')
        rw [m'] at q; cases q
        exact old h1 e os m
    · have q := val (big h1 e)
      rw [m] at q; cases q
      by_cases h2 : i' < L.length
      · exact old h2 e' os' m'
      · exact ni ((big h1 e).trans (big h2 e').symm)
end
end SL

set_option Elab.async false
set_option linter.all false
set_option maxRecDepth 100000
set_option maxHeartbeats 4000000
namespace SL
open PySem L2
section
variable {K : PySem.W.Frag} {G : Gm} {F F' H H' : Hp} {L : Sl} {M : St}
theorem J.pre {X : Sl} {Y : St} (j : J K G F H (L ++ X) (M ++ Y)) (l : L.length = M.length) : J K G F H L M := by
  have up : ∀ {k : Nat} {s : T}, L[k]? = some (some s) → (L ++ X)[k]? = some (some s) ∧ k < L.length := fun {k s} e => by
    have h : k < L.length := (List.getElem?_eq_some_iff.mp e).1
    exact ⟨by rw [List.getElem?_append_left h]; exact e, h⟩
  refine ⟨j.ex, l, fun i t e => ?_, fun i i' t t' v' ni e e' o o' m m' => ?_, j.base, j.frs, j.f0, j.bal⟩
  · obtain ⟨e1, hi⟩ := up e
    obtain ⟨v, h1, h2⟩ := j.ok i t e1
    exact ⟨v, by rw [List.getElem?_append_left (by rw [← l]; exact hi)] at h1; exact h1, h2⟩
  · obtain ⟨e1, h1⟩ := up e
    obtain ⟨e2, h2⟩ := up e'
    exact j.ne i i' t t' v' ni e1 e2 o o' (by rw [List.getElem?_append_left (by rw [← l]; exact h1)]; exact m) (by rw [List.getElem?_append_left (by rw [← l]; exact h2)]; exact m')
/-- the slot at i takes over what stands last -/
theorem J.take {t : T} {v : V} {i : Nat} (j : J K G F H (L ++ [some t]) (M ++ [some v])) (l : L.length = M.length) : J K G F H (L.set i (some t)) (M.set i (some v)) := by
  have lastL : (L ++ [some t])[L.length]? = some (some t) := by simp
  have lastM : (M ++ [some v])[L.length]? = some (some v) := by rw [l]; simp
  have up : ∀ {k : Nat} {s : T}, k ≠ i → (L.set i (some t))[k]? = some (some s) → (L ++ [some t])[k]? = some (some s) ∧ k < L.length := fun {k s} hk e => by
    rw [List.getElem?_set_ne (Ne.symm hk)] at e
    have h : k < L.length := (List.getElem?_eq_some_iff.mp e).1
    exact ⟨by rw [List.getElem?_append_left h]; exact e, h⟩
  have at_ : ∀ {s : T}, (L.set i (some t))[i]? = some (some s) → s = t ∧ i < L.length := fun {s} e => by
    have h : i < L.length := by
      have := (List.getElem?_eq_some_iff.mp e).1
      simpa using this
    rw [List.getElem?_set_self h] at e; cases e
    exact ⟨rfl, h⟩
  have dn : ∀ {k : Nat} {u : V}, k ≠ i → k < L.length → (M.set i (some v))[k]? = some (some u) → (M ++ [some v])[k]? = some (some u) := fun {k u} hk h e => by
    rw [List.getElem?_set_ne (Ne.symm hk)] at e
    rw [List.getElem?_append_left (by rw [← l]; exact h)]; exact e
  have atM : i < L.length → (M.set i (some v))[i]? = some (some v) := fun h => List.getElem?_set_self (by rw [← l]; exact h)
  refine ⟨j.ex, by simp [l], fun k s e => ?_, fun k k' s s' v' ni e e' o o' m m' => ?_, j.base, j.frs, j.f0, j.bal⟩
  · by_cases hk : k = i
    · subst hk
      obtain ⟨rfl, h⟩ := at_ e
      obtain ⟨u, h1, h2⟩ := j.ok _ _ lastL
      rw [lastM] at h1; cases h1
      exact ⟨v, atM h, h2⟩
    · obtain ⟨e1, h⟩ := up hk e
      obtain ⟨u, h1, h2⟩ := j.ok k s e1
      refine ⟨u, ?_, h2⟩
      rw [List.getElem?_append_left (by rw [← l]; exact h)] at h1
      rw [List.getElem?_set_ne (Ne.symm hk)]; exact h1
  · by_cases hk : k = i
    · by_cases hk' : k' = i
      · exact ni (hk.trans hk'.symm)
      · subst hk
        obtain ⟨rfl, h⟩ := at_ e
        obtain ⟨e2, h2⟩ := up hk' e'
        rw [atM h] at m; cases m
        exact j.ne L.length k' _ _ _ (by omega) lastL e2 o o' lastM (dn hk' h2 m')
    · obtain ⟨e1, h1⟩ := up hk e
      by_cases hk' : k' = i
      · subst hk'
        obtain ⟨rfl, h⟩ := at_ e'
        rw [atM h] at m'; cases m'
        exact j.ne k L.length _ _ _ (by omega) e1 lastL o o' (dn hk h1 m) lastM
      · obtain ⟨e2, h2⟩ := up hk' e'
        exact j.ne k k' _ _ _ ni e1 e2 o o' (dn hk h1 m) (dn hk' h2 m')
/-- a slot is forgotten -/
theorem J.off {i : Nat} {w : Option V} (j : J K G F H L M) : J K G F H (L.set i none) (M.set i w) := by
  have up : ∀ {k : Nat} {s : T}, (L.set i none)[k]? = some (some s) → k ≠ i ∧ L[k]? = some (some s) := fun {k s} e => by
    by_cases hk : k = i
    · subst hk
      have h : k < L.length := by
        have := (List.getElem?_eq_some_iff.mp e).1
        simpa using this
      rw [List.getElem?_set_self h] at e; cases e
    · rw [List.getElem?_set_ne (Ne.symm hk)] at e
      exact ⟨hk, e⟩
  refine ⟨j.ex, by simp [j.len], fun k s e => ?_, fun k k' s s' v' ni e e' o o' m m' => ?_, j.base, j.frs, j.f0, j.bal⟩
  · obtain ⟨hk, e1⟩ := up e
    obtain ⟨u, h1, h2⟩ := j.ok k s e1
    exact ⟨u, by rw [List.getElem?_set_ne (Ne.symm hk)]; exact h1, h2⟩
  · obtain ⟨hk, e1⟩ := up e
    obtain ⟨hk', e2⟩ := up e'
    rw [List.getElem?_set_ne (Ne.symm hk)] at m
    rw [List.getElem?_set_ne (Ne.symm hk')] at m'
    exact j.ne k k' _ _ _ ni e1 e2 o o' m m'
/-- a held thing becomes data -/
theorem J.freeze {t : T} {i : Nat} (j : J K G F H L M) (e : L[i]? = some (some t)) (hb : t.brw = false) :
    ∃ F' v, Ex F F' ∧ M[i]? = some (some v) ∧ Rep K F' t.fz v ∧ J K G F' H (L.set i (some (.dat t.fz))) M := by
  obtain ⟨v, hv, hold, br⟩ := j.ok i t e
  have hi : i < L.length := (List.getElem?_eq_some_iff.mp e).1
  have main : ∀ (a : Addr) (o : HO) (q : t.own = true), v = .ref a → F a = none → H a = some o → Rep K (upd F a o) t.fz v →
      ∃ F' v, Ex F F' ∧ M[i]? = some (some v) ∧ Rep K F' t.fz v ∧ J K G F' H (L.set i (some (.dat t.fz))) M := by
    intro a o q ea fa ha r
    have fr := br q a ea
    rw [hb] at fr
    have g0 : G.H0 a = none ∧ ¬ G.B a := by simpa using fr
    have eF : Ex F (upd F a o) := Ex.new fa
    refine ⟨upd F a o, v, eF, hv, r, ⟨fun b u h => ?_, by simp [j.len], fun k s ek => ?_, fun k k' s s' v' ni ek ek' os os' m m' => ?_, j.base, fun b u h => ?_, j.f0.trans eF, j.bal⟩⟩
    · by_cases z : b = a
      · subst z; rw [upd_same] at h; cases h; exact ha
      · rw [upd_ne z] at h; exact j.ex b u h
    · by_cases hk : k = i
      · subst hk
        rw [List.getElem?_set_self hi] at ek; cases ek
        exact ⟨v, hv, r, fun o => by cases o⟩
      · rw [List.getElem?_set_ne (Ne.symm hk)] at ek
        obtain ⟨u, h1, h2, h3⟩ := j.ok k s ek
        refine ⟨u, h1, h2.mono eF (fun os b eb => ?_) (fun _ _ _ => rfl), h3⟩
        obtain ⟨b', w, e1, e2, e3⟩ := h2.adr os
        rw [eb] at e1; cases e1
        rw [upd_ne]
        · exact e2
        · rintro rfl
          exact j.ne k i s t u hk ek e os q h1 (by rw [hv, ea, eb])
    · have hk : k ≠ i := by
        rintro rfl
        rw [List.getElem?_set_self hi] at ek; cases ek; cases os
      have hk' : k' ≠ i := by
        rintro rfl
        rw [List.getElem?_set_self hi] at ek'; cases ek'; cases os'
      rw [List.getElem?_set_ne (Ne.symm hk)] at ek
      rw [List.getElem?_set_ne (Ne.symm hk')] at ek'
      exact j.ne k k' _ _ _ ni ek ek' os os' m m'
    · by_cases z : b = a
      · subst z; exact Or.inr g0.1
      · rw [upd_ne z] at h; exact j.frs b u h
  cases t with
  | dat d =>
    refine ⟨F, v, Ex.rfl, hv, hold, ?_⟩
    have : L.set i (some (.dat d)) = L := by
      apply List.ext_getElem?
      intro k
      by_cases hk : k = i
      · subst hk; rw [List.getElem?_set_self hi]; exact e.symm
      · rw [List.getElem?_set_ne (Ne.symm hk)]
    show J K G F H (L.set i (some (.dat d))) M
    rw [this]; exact j
  | lst b xs =>
    obtain ⟨a, vs, e1, e2, e3, e4⟩ := hold
    exact main a _ rfl e1 e2 e3 (by rw [e1]; exact rep_lst upd_same (Reps.mono (Ex.new e2) _ _ e4))
  | ins b C ns xs =>
    obtain ⟨a, dx, vs, e1, e2, e3, e4, e5⟩ := hold
    refine main a _ rfl e1 e2 e3 ?_
    show Rep K _ (.obj C ns xs) v
    unfold Rep
    exact ⟨a, dx, vs, e1, upd_same, e4, Reps.mono (Ex.new e2) _ _ e5⟩
/-- a held thing is changed at its place -/
theorem J.mut {t t' : T} {i : Nat} {a : Addr} {o : HO} (j : J K G F H L M) (e : L[i]? = some (some t)) (ho : t.own = true) (ho' : t'.own = true) (hb : t'.brw = t.brw) (hm : M[i]? = some (some (.ref a))) (hold : Hold K F (upd H a o) t' (.ref a)) :
    J K G F (upd H a o) (L.set i (some t')) M := by
  obtain ⟨v, hv, h0, br⟩ := j.ok i t e
  rw [hm] at hv; cases hv
  have hi : i < L.length := (List.getElem?_eq_some_iff.mp e).1
  obtain ⟨a', u, ea, fa, ha⟩ := h0.adr ho
  cases ea
  have fr := br ho a rfl
  refine ⟨fun b w h => ?_, by simp [j.len], fun k s ek => ?_, fun k k' s s' v' ni ek ek' os os' m m' => ?_, fun b w h nb => ?_, j.frs, j.f0, fun b hB => ?_⟩
  · by_cases z : b = a
    · subst z; rw [fa] at h; cases h
    · rw [upd_ne z]; exact j.ex b w h
  · by_cases hk : k = i
    · subst hk
      rw [List.getElem?_set_self hi] at ek; cases ek
      refine ⟨_, hm, hold, fun _ b eb => ?_⟩
      cases eb; rw [hb]; exact fr
    · rw [List.getElem?_set_ne (Ne.symm hk)] at ek
      obtain ⟨w, h1, h2, h3⟩ := j.ok k s ek
      refine ⟨w, h1, h2.mono Ex.rfl (fun os b eb => ?_) (fun os b eb => ?_), h3⟩
      · obtain ⟨b', w, e1, e2, e3⟩ := h2.adr os
        rw [eb] at e1; cases e1; exact e2
      · rw [upd_ne]
        rintro rfl
        exact j.ne k i s t w hk ek e os ho h1 (by rw [hm, eb])
  · by_cases hk : k = i
    · by_cases hk' : k' = i
      · exact ni (hk.trans hk'.symm)
      · subst hk
        rw [List.getElem?_set_ne (Ne.symm hk')] at ek'
        exact j.ne k k' t s' v' ni e ek' ho os' m m'
    · rw [List.getElem?_set_ne (Ne.symm hk)] at ek
      by_cases hk' : k' = i
      · subst hk'
        exact j.ne k k' s t v' ni ek e os ho m m'
      · rw [List.getElem?_set_ne (Ne.symm hk')] at ek'
        exact j.ne k k' _ _ _ ni ek ek' os os' m m'
  · by_cases z : b = a
    · subst z
      cases hq : t.brw with
      | true => rw [hq] at fr; exact absurd (by simpa using fr) nb
      | false => rw [hq] at fr; simp at fr; rw [fr.1] at h; cases h
    · rw [upd_ne z]; exact j.base b w h nb
  · by_cases z : b = a
    · subst z; exact ⟨o, upd_same⟩
    · obtain ⟨w, hw⟩ := j.bal b hB
      exact ⟨w, by rw [upd_ne z]; exact hw⟩
end

/-! ### semantic functions -/
structure Xc where
  cls : Str
  ns : List Str
  ds : List D
inductive Rs (α : Type) where
  | ok (a : α) | exc (x : Xc)
abbrev Mo (α : Type) := Sl → Option (Rs α × Sl)
def ret {α : Type} (a : α) : Mo α := fun ρ => some (.ok a, ρ)
def bnd {α β : Type} (m : Mo α) (f : α → Mo β) : Mo β := fun ρ => match m ρ with
  | none => none
  | some (.exc x, ρ') => some (.exc x, ρ')
  | some (.ok a, ρ') => f a ρ'
def nop {α : Type} : Mo α := fun _ => none
def ExcR (K : PySem.W.Frag) (F : Hp) (x : Xc) (c : Value) (d : Option Addr) : Prop := c = .ref (He.ga K x.cls) ∧ x.ns.length = x.ds.length ∧ (x.ns ≠ [] → ∃ a vs, d = some a ∧ F a = some (.xd (x.ns.zip vs)) ∧ Reps K F x.ds vs)

section
variable {α β α' β' : Type}
/-- a reading t is served by the function m; L0, M0: values that stand ready and are used up -/
def SndX (K : PySem.W.Frag) (W : WX) (L0 : Sl) (M0 : St) (pl : α → Sl) (pm : β → St) (eq : α → β → Prop) (te : St → Hp → (β → Hp → Prop) → Prop) (m : Mo α) : Prop :=
  ∀ (G : Gm) (F H : Hp) (ρ : Sl) (σ : St) (ts : Sl) (vs : St) (Q : β → Hp → Prop) (r : Rs α) (ρ' : Sl), J K G F H (ρ ++ (ts ++ L0)) (σ ++ (vs ++ M0)) → ρ.length = σ.length → ts.length = vs.length → m ρ = some (r, ρ') →
    (match r with
      | .ok a => ∀ b F' H', Ex F F' → ρ'.length = σ.length → eq a b → J K G F' H' (ρ' ++ (ts ++ pl a)) (σ ++ (vs ++ pm b)) → Q b H'
      | .exc x => ∀ c d F' H', Ex F F' → ρ'.length = σ.length → J K G F' H' (ρ' ++ ts) (σ ++ vs) → ExcR K F' x c d → W c d σ H') → te σ H Q
abbrev plT : T → Sl := fun t => [some t]
abbrev pmT : V → St := fun v => [some v]
abbrev SndE (K : PySem.W.Frag) (W : WX) (te : TE) (m : Mo T) : Prop := SndX K W [] [] plT pmT (fun _ _ => True) te m
abbrev SndT (K : PySem.W.Frag) (W : WX) (tt : TT) (m : Mo Bool) : Prop := SndX K W [] [] (fun _ => []) (fun _ => []) (fun a b => b = a) tt m
abbrev SndA (K : PySem.W.Frag) (W : WX) (ta : TA) (m : Mo (List T)) : Prop := SndX K W [] [] (fun ts => ts.map some) (fun vs => vs.map some) (fun a b => b.length = a.length) ta m
abbrev SndO (K : PySem.W.Frag) (W : WX) (to : TO) (m : Mo (Option Int)) : Prop := SndX K W [] [] (fun _ => []) (fun _ => []) (fun a b => b = a) to m
variable {K : PySem.W.Frag} {W : WX} {L0 : Sl} {M0 : St} {pl : α → Sl} {pm : β → St} {eq : α → β → Prop} {pl' : α' → Sl} {pm' : β' → St} {eq' : α' → β' → Prop}
theorem app_pre {X : Sl} {Y : St} {G : Gm} {F H : Hp} {ρ : Sl} {σ : St} {ts : Sl} {vs : St} (j : J K G F H (ρ ++ (ts ++ X)) (σ ++ (vs ++ Y))) (h : ρ.length = σ.length) (h2 : ts.length = vs.length) : J K G F H (ρ ++ ts) (σ ++ vs) := by
  rw [← List.append_assoc, ← List.append_assoc] at j
  exact j.pre (by simp [h, h2])
theorem SndX.bnd {t1 : St → Hp → (β → Hp → Prop) → Prop} {m1 : Mo α} {t2 : β → St → Hp → (β' → Hp → Prop) → Prop} {m2 : α → Mo α'} (hL : L0.length = M0.length) (h1 : SndX K W [] [] pl pm eq t1 m1)
    (h2 : ∀ a b, eq a b → SndX K W (L0 ++ pl a) (M0 ++ pm b) pl' pm' eq' (t2 b) (m2 a)) : SndX K W L0 M0 pl' pm' eq' (fun σ H Q => t1 σ H fun b H1 => t2 b σ H1 Q) (bnd m1 m2) := by
  intro G F H ρ σ ts vs Q r ρ' j hl ht hm k
  unfold SL.bnd at hm
  cases e : m1 ρ with
  | none => rw [e] at hm; cases hm
  | some p =>
    obtain ⟨r1, ρ1⟩ := p
    rw [e] at hm
    refine h1 G F H ρ σ (ts ++ L0) (vs ++ M0) _ r1 ρ1 (by simpa using j) hl (by simp [ht, hL]) e ?_
    cases r1 with
    | exc x =>
      cases hm
      intro c d F' H' e1 l1 j1 x1
      exact k c d F' H' e1 l1 (app_pre j1 l1 ht) x1
    | ok a =>
      intro b F' H' e1 l1 q j1
      refine h2 a b q G F' H' ρ1 σ ts vs Q r ρ' (by simpa [List.append_assoc] using j1) l1 ht hm ?_
      cases r with
      | ok a2 => exact fun b2 F2 H2 e2 l2 q2 j2 => k b2 F2 H2 (e1.trans e2) l2 q2 j2
      | exc x => exact fun c d F2 H2 e2 l2 j2 x2 => k c d F2 H2 (e1.trans e2) l2 j2 x2
end
end SL

set_option Elab.async false
set_option linter.all false
set_option maxRecDepth 100000
set_option maxHeartbeats 4000000
namespace SL
open PySem L2
theorem big_line {n : Nat} (h : n ≤ 100000) : n ≤ sizeLine := Nat.le_trans h (by decide)
theorem lt_line {n : Nat} (h : n < 100000) : n < sizeLine := Nat.lt_of_lt_of_le h (by decide)
def frzs (ts : List T) : Option (List D) := if ts.any T.brw then none else some (ts.map T.fz)
section
variable {K : PySem.W.Frag} {G : Gm} {F F' H H' : Hp}
theorem J.freezes : ∀ {ts : List T} {vs : List V} {P : Sl} {Q : St} {F : Hp}, J K G F H (P ++ ts.map some) (Q ++ vs.map some) → P.length = Q.length → ts.any T.brw = false →
    ∃ F', Ex F F' ∧ J K G F' H (P ++ ts.map fun t => some (.dat t.fz)) (Q ++ vs.map some) ∧ Reps K F' (ts.map T.fz) vs
  | [], vs, P, Q, F, j, l, h => by
    have e := j.len
    simp at e
    have : vs = [] := List.eq_nil_of_length_eq_zero (by omega)
    subst this
    exact ⟨F, Ex.rfl, j, reps_nil⟩
  | t :: ts, vs, P, Q, F, j, l, h => by
    have e := j.len
    simp at e
    cases vs with
    | nil => simp at e; omega
    | cons v vs =>
      simp only [List.any_cons, Bool.or_eq_false_iff] at h
      have e1 : (P ++ (t :: ts).map some)[P.length]? = some (some t) := by simp
      obtain ⟨F1, v1, x1, m1, r1, j1⟩ := j.freeze e1 h.1
      have hv : v1 = v := by
        rw [l] at m1
        simp at m1
        exact m1.symm
      subst hv
      have e2 : (P ++ (t :: ts).map some).set P.length (some (.dat t.fz)) = (P ++ [some (.dat t.fz)]) ++ ts.map some := by simp
      rw [e2] at j1
      have e3 : Q ++ (v1 :: vs).map some = (Q ++ [some v1]) ++ vs.map some := by simp
      rw [e3] at j1
      obtain ⟨F2, x2, j2, r2⟩ := J.freezes j1 (by simp [l]) h.2
      refine ⟨F2, x1.trans x2, ?_, reps_cons (Rep.mono x2 _ _ r1) r2⟩
      have e4 : P ++ (t :: ts).map (fun t => some (T.dat t.fz)) = (P ++ [some (.dat t.fz)]) ++ ts.map (fun t => some (T.dat t.fz)) := by simp
      rw [e4, e3]
      exact j2
end
/-- what an operation hands back: data, or a new list -/
inductive Out where
  | dt (d : D) | nl (xs : List D)
def outM : Option Out → Mo T
  | none => nop
  | some (.dt d) => ret (.dat d)
  | some (.nl xs) => ret (.lst false xs)
def opM (f : List D → Option Out) (ts : List T) : Mo T := match frzs ts with
  | none => nop
  | some ds => outM (f ds)
def OutOk (K : PySem.W.Frag) (F H : Hp) (Q : VK) : Out → Prop
  | .dt d => ∀ v F' H', Ex F F' → Ex H H' → Ex F' H' → (∀ a o, F' a = some o → F a = some o ∨ H a = none) → Rep K F' d v → Q v H'
  | .nl xs => ∀ p vs, H p = none → Reps K F xs vs → Q (.ref p) (upd H p (.lst vs))
section
variable {K : PySem.W.Frag} {F H : Hp} {Q : VK}
theorem OutOk.val {d : D} {v : V} (h : OutOk K F H Q (.dt d)) (e : Ex F H) (r : Rep K F d v) : Q v H := h v F H Ex.rfl Ex.rfl e (fun _ _ z => .inl z) r
theorem OutOk.int {i : Int} (h : OutOk K F H Q (.dt (.int i))) (e : Ex F H) : Q (.int i) H := h.val e rep_int
theorem OutOk.bl {i : Bool} (h : OutOk K F H Q (.dt (.bl i))) (e : Ex F H) : Q (.bl i) H := h.val e rep_bl
theorem OutOk.str {i : Str} (h : OutOk K F H Q (.dt (.str i))) (e : Ex F H) : Q (.str i) H := h.val e rep_str
theorem OutOk.tup {xs : List D} {vs : List V} (h : OutOk K F H Q (.dt (.tup xs))) (e : Ex F H) (r : Reps K F xs vs) {p : Addr} (hp : H p = none) : Q (.ref p) (upd H p (.tup vs)) := by
  have fp : F p = none := e.back hp
  refine h _ (upd F p (.tup vs)) _ (Ex.new fp) (Ex.new hp) (fun a u q => ?_) (fun a u q => ?_) (rep_tup (Or.inl (Or.inl upd_same)) (Reps.mono (Ex.new fp) _ _ r))
  · by_cases z : a = p
    · subst z; rw [upd_same] at q ⊢; exact q
    · rw [upd_ne z] at q ⊢; exact e a u q
  · by_cases z : a = p
    · subst z; exact Or.inr hp
    · rw [upd_ne z] at q; exact Or.inl q
end
section
variable {K : PySem.W.Frag} {W : WX}
theorem snd_out {f : List D → Option Out} {te : St → Hp → VK → Prop} (ts : List T) (vs : List V) (h : ∀ F H σ Q ds o, Ex F H → Reps K F ds vs → f ds = some o → OutOk K F H Q o → te σ H Q) :
    SndX K W (ts.map some) (vs.map some) plT pmT (fun _ _ => True) te (opM f ts) := by
  intro G F H ρ σ us ws Q r ρ' j hl ht hm k
  unfold opM at hm
  cases hf : frzs ts with
  | none => rw [hf] at hm; cases hm
  | some ds =>
    rw [hf] at hm
    unfold frzs at hf
    by_cases hb : ts.any T.brw = true
    · rw [if_pos hb] at hf; cases hf
    · rw [if_neg hb] at hf
      cases hf
      rw [← List.append_assoc, ← List.append_assoc] at j
      obtain ⟨F1, x1, j1, r1⟩ := j.freezes (by simp [hl, ht]) (by simpa using hb)
      have j2 := j1.pre (by simp [hl, ht])
      have hm2 : outM (f (ts.map T.fz)) ρ = some (r, ρ') := hm
      cases hq : f (ts.map T.fz) with
      | none => rw [hq] at hm2; cases hm2
      | some o =>
        rw [hq] at hm2
        refine h F1 H σ Q _ o j2.ex r1 hq ?_
        cases o with
        | dt d =>
          cases hm2
          intro v F' H' e1 e2 e3 e4 rd
          have j3 := j2.grow e1 e2 e3 e4
          exact k v F' H' (x1.trans e1) hl trivial (by rw [← List.append_assoc, ← List.append_assoc]; exact j3.dat rd)
        | nl xs =>
          cases hm2
          intro p vs hp rd
          refine k (.ref p) F1 _ x1 hl trivial ?_
          rw [← List.append_assoc, ← List.append_assoc]
          exact j2.push hp rfl rfl ⟨p, vs, rfl, j2.ex.back hp, upd_same, rd⟩
/-- leaving a value as it is -/
theorem snd_keep {t : T} {v : V} : SndX K W [some t] [some v] plT pmT (fun _ _ => True) (fun σ H Q => Q v H) (ret t) := by
  intro G F H ρ σ us ws Q r ρ' j hl ht hm k
  cases hm
  exact k v F H Ex.rfl hl trivial j
end

/-! ### judgements -/
def SE (X : Cx) (W : WX) (e : Expr) (m : Mo T) : Prop := ∃ te, PE X e te ∧ SndE X.K W te m
def SC (X : Cx) (W : WX) (e : Expr) (m : Mo Bool) : Prop := ∃ tt, PT X e tt ∧ SndT X.K W tt m
def SCw (X : Cx) (W : WX) (e : Expr) (m : Mo Bool) : Prop := ∃ tt, PW X e tt ∧ SndT X.K W tt m
def SA (X : Cx) (W : WX) (es : List Expr) (m : Mo (List T)) : Prop := ∃ ta, PA X es ta ∧ SndA X.K W ta m
def SO (X : Cx) (W : WX) (e : Option Expr) (m : Mo (Option Int)) : Prop := ∃ to, PO X e to ∧ SndO X.K W to m
section
variable {X : Cx} {W : WX} {a b c e : Expr} {es : List Expr} {ma mb mc : Mo T} {pos : Pos}
/-! #### names, constants -/
def eVar (i : Nat) : Mo T := fun ρ => match ρ[i]? with
  | some (some t) => if t.brw = true then none else some (.ok (.dat t.fz), ρ.set i (some (.dat t.fz)))
  | _ => none
theorem snd_var {K : PySem.W.Frag} {i : Nat} : SndE K W (tVar i) (eVar i) := by
  intro G F H ρ σ us ws Q r ρ' j hl ht hm k
  unfold eVar at hm
  cases hq : ρ[i]? with
  | none => rw [hq] at hm; cases hm
  | some ot =>
    cases ot with
    | none => rw [hq] at hm; cases hm
    | some t =>
      rw [hq] at hm
      simp only at hm
      by_cases hb : t.brw = true
      · rw [if_pos hb] at hm; cases hm
      · rw [if_neg hb] at hm
        cases hm
        have hi : i < ρ.length := (List.getElem?_eq_some_iff.mp hq).1
        simp only [List.append_nil] at j
        have hq' : (ρ ++ us)[i]? = some (some t) := by rw [List.getElem?_append_left hi]; exact hq
        obtain ⟨F', v, x1, m1, rd, j1⟩ := j.freeze hq' (by simpa using hb)
        rw [List.getElem?_append_left (by rw [← hl]; exact hi)] at m1
        refine ⟨v, m1, k v F' H x1 (by simpa using hl) trivial ?_⟩
        have e2 : (ρ ++ us).set i (some (.dat t.fz)) = ρ.set i (some (.dat t.fz)) ++ us := List.set_append_left _ _ hi
        rw [e2] at j1
        rw [← List.append_assoc, ← List.append_assoc]
        exact j1.dat rd
theorem se_var (i : Nat) {x : Str} (hN : X.N[i]? = some x := by rfl) (hv : Vis X.env.scope x := by first | exact Or.inl rfl | exact Or.inr (Or.inl rfl) | exact Or.inr (Or.inr rfl)) (hd : (x == ("__debug__" : Str)) = false := by decide)
    (hcd : (x == ("__classdict__" : Str)) = false := by decide) : SE X W (.Name x pos) (eVar i) := ⟨_, pe_var hN hv hd hcd, snd_var⟩
def eC (d : D) : Mo T := ret (.dat d)
theorem snd_c {K : PySem.W.Frag} {d : D} {v : V} (h : ∀ F, Rep K F d v) : SndE K W (tC v) (eC d) := by
  intro G F H ρ σ us ws Q r ρ' j hl ht hm k
  cases hm
  simp only [List.append_nil] at j
  exact k v F H Ex.rfl hl trivial (by rw [← List.append_assoc, ← List.append_assoc]; exact j.dat (h F))
theorem se_int {i j} : SE X W (.Constant (.int i) j pos) (eC (.int i)) := ⟨_, pe_int, snd_c fun _ => rep_int⟩
theorem se_bl {i j} : SE X W (.Constant (.bool i) j pos) (eC (.bl i)) := ⟨_, pe_bl, snd_c fun _ => rep_bl⟩
theorem se_non {j} : SE X W (.Constant .none j pos) (eC .non) := ⟨_, pe_non, snd_c fun _ => rep_non⟩
theorem se_str {x j} : SE X W (.Constant (.str x) j pos) (eC (.str x)) := ⟨_, pe_str, snd_c fun _ => rep_str⟩
/-- a module's name for data -/
structure GlD (X : Cx) (x : Str) (d : D) : Prop where
  ex : ∃ u v, X.mg x = some u ∧ RelV v u ∧ ∀ F, Rep X.K F d v
theorem se_glob {x : Str} {d : D} (h : GlD X x d) (hg : Gl X x := by rfl) (hd : (x == ("__debug__" : Str)) = false := by decide) : SE X W (.Name x pos) (eC d) := by
  obtain ⟨u, v, h1, h2, h3⟩ := h.ex
  exact ⟨_, pe_glob hg h1 h2 hd, snd_c h3⟩

/-! #### two-place operations -/
def two (f : D → D → Option Out) : List D → Option Out
  | [d, e] => f d e
  | _ => none
def one (f : D → Option Out) : List D → Option Out
  | [d] => f d
  | _ => none
def bin (f : D → D → Option Out) (ma mb : Mo T) : Mo T := bnd ma fun x => bnd mb fun y => opM (two f) [x, y]
def una (f : D → Option Out) (ma : Mo T) : Mo T := bnd ma fun x => opM (one f) [x]
def Op2 (K : PySem.W.Frag) (r : R2) (f : D → D → Option Out) : Prop := ∀ F H Q x y d e o, Ex F H → Rep K F d x → Rep K F e y → f d e = some o → OutOk K F H Q o → r x y H Q
def Op1 (K : PySem.W.Frag) (r : V → Hp → VK → Prop) (f : D → Option Out) : Prop := ∀ F H Q x d o, Ex F H → Rep K F d x → f d = some o → OutOk K F H Q o → r x H Q
theorem reps2 {K : PySem.W.Frag} {F : Hp} {ds : List D} {x y : V} (h : Reps K F ds [x, y]) : ∃ d e, ds = [d, e] ∧ Rep K F d x ∧ Rep K F e y := by
  match ds, h with
  | [], h => unfold Reps at h; cases h
  | [d], h => unfold Reps at h; obtain ⟨v, r, e, _, t⟩ := h; cases e; unfold Reps at t; cases t
  | [d, e], h => unfold Reps at h; obtain ⟨v, r, e, a, t⟩ := h; cases e; unfold Reps at t; obtain ⟨v, r, e, b, t⟩ := t; cases e; exact ⟨_, _, rfl, a, b⟩
  | d :: e :: f :: g, h => have := h.len; simp at this
theorem reps1 {K : PySem.W.Frag} {F : Hp} {ds : List D} {x : V} (h : Reps K F ds [x]) : ∃ d, ds = [d] ∧ Rep K F d x := by
  match ds, h with
  | [], h => unfold Reps at h; cases h
  | [d], h => unfold Reps at h; obtain ⟨v, r, e, a, t⟩ := h; cases e; exact ⟨_, rfl, a⟩
  | d :: f :: g, h => have := h.len; simp at this
theorem snd_two {K : PySem.W.Frag} {r : R2} {f : D → D → Option Out} (h : Op2 K r f) {t u : T} {x y : V} : SndX K W [some t, some u] [some x, some y] plT pmT (fun _ _ => True) (fun σ H Q => r x y H Q) (opM (two f) [t, u]) := by
  refine snd_out (f := two f) [t, u] [x, y] fun F H σ Q ds o e rd hf q => ?_
  obtain ⟨d, e', rfl, r1, r2⟩ := reps2 rd
  exact h F H Q x y d e' o e r1 r2 hf q
theorem snd_one {K : PySem.W.Frag} {r : V → Hp → VK → Prop} {f : D → Option Out} (h : Op1 K r f) {t : T} {x : V} : SndX K W [some t] [some x] plT pmT (fun _ _ => True) (fun σ H Q => r x H Q) (opM (one f) [t]) := by
  refine snd_out (f := one f) [t] [x] fun F H σ Q ds o e rd hf q => ?_
  obtain ⟨d, rfl, r1⟩ := reps1 rd
  exact h F H Q x d o e r1 hf q
theorem snd_bin {K : PySem.W.Frag} {r : R2} {f : D → D → Option Out} {ta tb : TE} (h : Op2 K r f) (ha : SndE K W ta ma) (hb : SndE K W tb mb) : SndE K W (tOp r ta tb) (bin f ma mb) :=
  SndX.bnd (t2 := fun x σ H Q => tb σ H fun y H2 => r x y H2 Q) rfl ha fun t x _ => SndX.bnd (L0 := [some t]) (M0 := [some x]) (t2 := fun y σ H Q => r x y H Q) rfl hb fun u y _ => snd_two h
theorem snd_una {K : PySem.W.Frag} {r : V → Hp → VK → Prop} {f : D → Option Out} {ta : TE} (h : Op1 K r f) (ha : SndE K W ta ma) : SndE K W (tUn r ta) (una f ma) :=
  SndX.bnd (t2 := fun x σ H Q => r x H Q) rfl ha fun t x _ => snd_one h
theorem se_bin {op : Operator} {r : R2} {f : D → D → Option Out} (ho : OpR X (binaryOp op) r) (h : Op2 X.K r f) (ha : SE X W a ma) (hb : SE X W b mb) : SE X W (.BinOp a op b pos) (bin f ma mb) := by
  obtain ⟨ta, pa, sa⟩ := ha
  obtain ⟨tb, pb, sb⟩ := hb
  exact ⟨_, pe_op ho pa pb, snd_bin h sa sb⟩
theorem se_un {op : UnaryOp} {r : V → Hp → VK → Prop} {f : D → Option Out} (ho : UnR X (unaryOp op) r) (h : Op1 X.K r f) (ha : SE X W a ma) : SE X W (.UnaryOp op a pos) (una f ma) := by
  obtain ⟨ta, pa, sa⟩ := ha
  exact ⟨_, pe_un ho pa, snd_una h sa⟩
theorem se_cmp {op : CmpOp} {r : R2} {f : D → D → Option Out} (ho : OpR X (compareOp op) r) (h : Op2 X.K r f) (hm : behindInMarks op b = false) (ha : SE X W a ma) (hb : SE X W b mb) : SE X W (.Compare a [op] [b] pos) (bin f ma mb) := by
  obtain ⟨ta, pa, sa⟩ := ha
  obtain ⟨tb, pb, sb⟩ := hb
  exact ⟨_, pe_cmpR ho pa pb hm, snd_bin h sa sb⟩
/-! #### tests -/
def asB : T → Mo Bool
  | .dat (.bl b) => ret b
  | _ => nop
def tst (m : Mo T) : Mo Bool := bnd m asB
theorem snd_asB {K : PySem.W.Frag} {t : T} {x : V} : SndX K W [some t] [some x] (fun _ => []) (fun _ => []) (fun (a b : Bool) => b = a) (fun σ H Q => ∃ c, x = .bl c ∧ Q c H) (asB t) := by
  intro G F H ρ σ us ws Q r ρ' j hl ht hm k
  have hk : ∀ b, t = .dat (.bl b) → (∃ c, x = .bl c ∧ Q c H) := fun b hb => by
    subst hb
    cases hm
    have e1 : (ρ ++ (us ++ [some (T.dat (.bl b))]))[ρ.length + us.length]? = some (some (.dat (.bl b))) := by
      rw [← List.append_assoc, List.getElem?_append_right (by simp)]; simp
    obtain ⟨v, m1, r1, _⟩ := j.ok _ _ e1
    have e2 : (σ ++ (ws ++ [some x]))[ρ.length + us.length]? = some (some x) := by
      rw [← List.append_assoc, List.getElem?_append_right (by simp [hl, ht])]; simp [hl, ht]
    rw [e2] at m1; cases m1
    have r2 : x = .bl b := by
      have : Rep K F (.bl b) x := r1
      unfold Rep at this; exact this
    refine ⟨b, r2, k b F H Ex.rfl hl rfl ?_⟩
    simpa using app_pre j hl ht
  match t with
  | .dat (.bl b) => exact hk b rfl
  | .dat .non => cases hm
  | .dat (.int _) => cases hm
  | .dat (.str _) => cases hm
  | .dat (.tup _) => cases hm
  | .dat (.lst _) => cases hm
  | .dat (.scr _) => cases hm
  | .dat (.obj _ _ _) => cases hm
  | .lst _ _ => cases hm
  | .ins _ _ _ _ => cases hm
theorem snd_tst {K : PySem.W.Frag} {te : TE} (h : SndE K W te ma) : SndT K W (tB te) (tst ma) := SndX.bnd (t2 := fun x σ H Q => ∃ c, x = .bl c ∧ Q c H) rfl h fun t x _ => snd_asB
theorem sc_val (h : SE X W e ma) (he : ∀ whole, isTrue e X.env whole = (do let v ← whole; standAt e.pos; holding [v] (truthy v)) := by intro _; rfl) : SC X W e (tst ma) := by
  obtain ⟨te, pe, se⟩ := h
  exact ⟨_, pt_val pe he, snd_tst se⟩
theorem sc_cmp {op : CmpOp} {r : R2} {f : D → D → Option Out} (ho : OpR X (compareOp op) r) (h : Op2 X.K r f) (hm : behindInMarks op b = false) (ha : SE X W a ma) (hb : SE X W b mb) : SC X W (.Compare a [op] [b] pos) (tst (bin f ma mb)) := by
  obtain ⟨ta, pa, sa⟩ := ha
  obtain ⟨tb, pb, sb⟩ := hb
  exact ⟨_, pt_cmpR ho pa pb hm, snd_tst (snd_bin h sa sb)⟩
def cAnd (m n : Mo Bool) : Mo Bool := bnd m fun b => if b = true then n else ret false
def cOr (m n : Mo Bool) : Mo Bool := bnd m fun b => if b = true then ret true else n
def cNot (m : Mo Bool) : Mo Bool := bnd m fun b => ret (!b)
theorem snd_retB {K : PySem.W.Frag} {b : Bool} : SndT K W (fun σ H Q => Q b H) (ret b) := by
  intro G F H ρ σ us ws Q r ρ' j hl ht hm k
  cases hm
  exact k b F H Ex.rfl hl rfl j
theorem snd_and {K : PySem.W.Frag} {t u : TT} {m n : Mo Bool} (h1 : SndT K W t m) (h2 : SndT K W u n) : SndT K W (tAnd t u) (cAnd m n) :=
  SndX.bnd (t2 := fun c σ H Q => if c = true then u σ H Q else Q false H) rfl h1 fun a b e => by
    subst e
    cases b with
    | true => exact h2
    | false => exact snd_retB
theorem snd_or {K : PySem.W.Frag} {t u : TT} {m n : Mo Bool} (h1 : SndT K W t m) (h2 : SndT K W u n) : SndT K W (tOr t u) (cOr m n) :=
  SndX.bnd (t2 := fun c σ H Q => if c = true then Q true H else u σ H Q) rfl h1 fun a b e => by
    subst e
    cases b with
    | true => exact snd_retB
    | false => exact h2
theorem snd_not {K : PySem.W.Frag} {t : TT} {m : Mo Bool} (h1 : SndT K W t m) : SndT K W (tNot t) (cNot m) :=
  SndX.bnd (t2 := fun c σ H Q => Q (!c) H) rfl h1 fun a b e => by
    subst e
    exact snd_retB
variable {rest : List Expr} {na nb : Mo Bool}
theorem sw_and1 (h : SC X W a na) : SCw X W (.BoolOp .And [a] pos) na := by obtain ⟨t, p, s⟩ := h; exact ⟨_, pw_and1 p, s⟩
theorem sw_or1 (h : SC X W a na) : SCw X W (.BoolOp .Or [a] pos) na := by obtain ⟨t, p, s⟩ := h; exact ⟨_, pw_or1 p, s⟩
theorem sw_and (h : SC X W a na) (g : SCw X W (.BoolOp .And (b :: rest) pos) nb) : SCw X W (.BoolOp .And (a :: b :: rest) pos) (cAnd na nb) := by
  obtain ⟨t, p, s⟩ := h
  obtain ⟨u, q, z⟩ := g
  exact ⟨_, pw_and p q, snd_and s z⟩
theorem sw_or (h : SC X W a na) (g : SCw X W (.BoolOp .Or (b :: rest) pos) nb) : SCw X W (.BoolOp .Or (a :: b :: rest) pos) (cOr na nb) := by
  obtain ⟨t, p, s⟩ := h
  obtain ⟨u, q, z⟩ := g
  exact ⟨_, pw_or p q, snd_or s z⟩
theorem sc_w (h : SCw X W e na) : SC X W e na := by obtain ⟨t, p, s⟩ := h; exact ⟨_, p.pt, s⟩
theorem sc_not (h : SC X W a na) : SC X W (.UnaryOp .Not a pos) (cNot na) := by obtain ⟨t, p, s⟩ := h; exact ⟨_, pt_not p, snd_not s⟩
/-! as values -/
def eAnd (m n : Mo T) : Mo T := bnd m fun t => bnd (asB t) fun b => if b = true then n else ret (.dat (.bl false))
def eOr (m n : Mo T) : Mo T := bnd m fun t => bnd (asB t) fun b => if b = true then ret (.dat (.bl true)) else n
def eNot (m : Mo T) : Mo T := bnd m fun t => bnd (asB t) fun b => ret (.dat (.bl !b))
theorem snd_c0 {K : PySem.W.Frag} {b : Bool} : SndE K W (fun σ H Q => Q (.bl b) H) (ret (.dat (.bl b))) := snd_c (W := W) fun _ => rep_bl
theorem SndX.pre {α β α' β' : Type} {K : PySem.W.Frag} {L0 : Sl} {M0 : St} {pl : α → Sl} {pm : β → St} {eq : α → β → Prop} {pl' : α' → Sl} {pm' : β' → St} {eq' : α' → β' → Prop} {t1 : St → Hp → (β → Hp → Prop) → Prop} {m1 : Mo α}
    {t2 : β → St → Hp → (β' → Hp → Prop) → Prop} {m2 : α → Mo α'} (hL : L0.length = M0.length) (h1 : SndX K W L0 M0 pl pm eq t1 m1)
    (h2 : ∀ a b, eq a b → SndX K W (pl a) (pm b) pl' pm' eq' (t2 b) (m2 a)) : SndX K W L0 M0 pl' pm' eq' (fun σ H Q => t1 σ H fun b H1 => t2 b σ H1 Q) (SL.bnd m1 m2) := by
  intro G F H ρ σ ts vs Q r ρ' j hl ht hm k
  unfold SL.bnd at hm
  cases e : m1 ρ with
  | none => rw [e] at hm; cases hm
  | some p =>
    obtain ⟨r1, ρ1⟩ := p
    rw [e] at hm
    refine h1 G F H ρ σ ts vs _ r1 ρ1 j hl ht e ?_
    cases r1 with
    | exc x =>
      cases hm
      intro c d F' H' e1 l1 j1 x1
      exact k c d F' H' e1 l1 j1 x1
    | ok a =>
      intro b F' H' e1 l1 q j1
      refine h2 a b q G F' H' ρ1 σ ts vs Q r ρ' j1 l1 ht hm ?_
      cases r with
      | ok a2 => exact fun b2 F2 H2 e2 l2 q2 j2 => k b2 F2 H2 (e1.trans e2) l2 q2 j2
      | exc x => exact fun c d F2 H2 e2 l2 j2 x2 => k c d F2 H2 (e1.trans e2) l2 j2 x2
theorem SndX.cg {α β : Type} {K : PySem.W.Frag} {L0 : Sl} {M0 : St} {pl : α → Sl} {pm : β → St} {eq : α → β → Prop} {t t' : St → Hp → (β → Hp → Prop) → Prop} {m : Mo α} (h : SndX K W L0 M0 pl pm eq t m) (ht : ∀ σ H Q, t σ H Q → t' σ H Q) : SndX K W L0 M0 pl pm eq t' m :=
  fun G F H ρ σ ts vs Q r ρ' j hl hv hm k => ht _ _ _ (h G F H ρ σ ts vs Q r ρ' j hl hv hm k)
theorem snd_andV {K : PySem.W.Frag} {ta tb : TE} (h1 : SndE K W ta ma) (h2 : SndE K W tb mb) : SndE K W (tAndV ta tb) (eAnd ma mb) :=
  SndX.bnd (t2 := fun x σ H Q => ∃ c, x = .bl c ∧ if c = true then tb σ H Q else Q (.bl false) H) rfl h1 fun t x _ =>
    (SndX.pre (t1 := fun σ H Q => ∃ c, x = .bl c ∧ Q c H) (t2 := fun c σ H Q => if c = true then tb σ H Q else Q (.bl false) H) rfl snd_asB fun a b e => by
      subst e
      cases b with
      | true => exact h2
      | false => exact snd_c0)
theorem snd_orV {K : PySem.W.Frag} {ta tb : TE} (h1 : SndE K W ta ma) (h2 : SndE K W tb mb) : SndE K W (tOrV ta tb) (eOr ma mb) :=
  SndX.bnd (t2 := fun x σ H Q => ∃ c, x = .bl c ∧ if c = true then Q (.bl true) H else tb σ H Q) rfl h1 fun t x _ =>
    (SndX.pre (t1 := fun σ H Q => ∃ c, x = .bl c ∧ Q c H) (t2 := fun c σ H Q => if c = true then Q (.bl true) H else tb σ H Q) rfl snd_asB fun a b e => by
      subst e
      cases b with
      | true => exact snd_c0
      | false => exact h2)
theorem snd_notV {K : PySem.W.Frag} {ta : TE} (h1 : SndE K W ta ma) : SndE K W (tNotV ta) (eNot ma) :=
  SndX.bnd (t2 := fun (x : V) σ H (Q : VK) => ∃ c, x = .bl c ∧ Q (.bl (!c)) H) rfl h1 fun t x _ =>
    (SndX.pre (t1 := fun σ H Q => ∃ c, x = .bl c ∧ Q c H) (t2 := fun (c : Bool) σ H (Q : VK) => Q (.bl (!c)) H) rfl snd_asB fun a b e => by
      subst e
      exact snd_c0)
theorem se_one {op} (h : SE X W a ma) : SE X W (.BoolOp op [a] pos) ma := by obtain ⟨t, p, s⟩ := h; exact ⟨_, pe_one p, s⟩
theorem se_and (h : SE X W a ma) (g : SE X W (.BoolOp .And (b :: rest) pos) mb) : SE X W (.BoolOp .And (a :: b :: rest) pos) (eAnd ma mb) := by
  obtain ⟨t, p, s⟩ := h
  obtain ⟨u, q, z⟩ := g
  exact ⟨_, pe_and p q, snd_andV s z⟩
theorem se_or (h : SE X W a ma) (g : SE X W (.BoolOp .Or (b :: rest) pos) mb) : SE X W (.BoolOp .Or (a :: b :: rest) pos) (eOr ma mb) := by
  obtain ⟨t, p, s⟩ := h
  obtain ⟨u, q, z⟩ := g
  exact ⟨_, pe_or p q, snd_orV s z⟩
theorem se_not (h : SE X W a ma) : SE X W (.UnaryOp .Not a pos) (eNot ma) := by obtain ⟨t, p, s⟩ := h; exact ⟨_, pe_not p, snd_notV s⟩
def eIf (c : Mo Bool) (m n : Mo T) : Mo T := bnd c fun b => if b = true then m else n
theorem snd_if {K : PySem.W.Frag} {t : TT} {ta tb : TE} (h : SndT K W t na) (h1 : SndE K W ta ma) (h2 : SndE K W tb mb) : SndE K W (tIf t ta tb) (eIf na ma mb) :=
  SndX.bnd (t2 := fun c σ H Q => if c = true then ta σ H Q else tb σ H Q) rfl h fun a b e => by
    subst e
    cases b with
    | true => exact h1
    | false => exact h2
theorem se_if (h : SC X W c na) (h1 : SE X W a ma) (h2 : SE X W b mb) : SE X W (.IfExp c a b pos) (eIf na ma mb) := by
  obtain ⟨t, p, s⟩ := h
  obtain ⟨u, q, z⟩ := h1
  obtain ⟨v, q2, z2⟩ := h2
  exact ⟨_, pe_ifExp p q q2, snd_if s z z2⟩
/-! #### argument lists, displays -/
def aCons (m : Mo T) (n : Mo (List T)) : Mo (List T) := bnd m fun t => bnd n fun ts => ret (t :: ts)
theorem sa_nil : SA X W [] (ret []) := ⟨_, pa_nil, fun G F H ρ σ us ws Q r ρ' j hl ht hm k => by
  cases hm
  exact k [] F H Ex.rfl hl rfl j⟩
theorem snd_cons {K : PySem.W.Frag} {te : TE} {ta : TA} {n : Mo (List T)} (h1 : SndE K W te ma) (h2 : SndA K W ta n) : SndA K W (tCons te ta) (aCons ma n) :=
  SndX.bnd (t2 := fun x σ H Q => ta σ H fun xs H2 => Q (x :: xs) H2) rfl h1 fun t x _ =>
    SndX.bnd (L0 := [some t]) (M0 := [some x]) (t2 := fun xs σ H Q => Q (x :: xs) H) rfl h2 fun us xs e => by
      intro G F H ρ σ ts vs Q r ρ' j hl ht hm k
      cases hm
      exact k (x :: xs) F H Ex.rfl hl (by simp [e]) j
theorem sa_cons {n : Mo (List T)} (h : SE X W e ma) (g : SA X W es n) (hs : starEach (e :: es) X.env = (false, eval e X.env) :: starEach es X.env := by rfl) : SA X W (e :: es) (aCons ma n) := by
  obtain ⟨t, p, s⟩ := h
  obtain ⟨u, q, z⟩ := g
  exact ⟨_, pa_cons p q hs, snd_cons s z⟩
def few (f : List D → Out) : List D → Option Out := fun ds => if ds.length ≤ 100000 then some (f ds) else none
def eTup (n : Mo (List T)) : Mo T := bnd n (opM (few fun ds => .dt (.tup ds)))
def eLst (n : Mo (List T)) : Mo T := bnd n (opM (few fun ds => .nl ds))
theorem se_tup {n : Mo (List T)} {x1} (h : SA X W es n) : SE X W (.Tuple es x1 pos) (eTup n) := by
  obtain ⟨t, p, s⟩ := h
  refine ⟨_, pe_tup p, SndX.bnd (t2 := fun (xs : List V) σ H (Q : VK) => xs.length ≤ sizeLine ∧ ∀ p, H p = none → Q (.ref p) (upd H p (.tup xs))) rfl s fun us xs _ => ?_⟩
  refine snd_out us xs fun F H σ Q ds o e rd hf q => ?_
  unfold few at hf
  by_cases hz : ds.length ≤ 100000
  · rw [if_pos hz] at hf
    cases hf
    exact ⟨by rw [rd.len]; exact big_line hz, fun p hp => q.tup e rd hp⟩
  · rw [if_neg hz] at hf; cases hf
theorem se_lst {n : Mo (List T)} (h : SA X W es n) : SE X W (.List es pos) (eLst n) := by
  obtain ⟨t, p, s⟩ := h
  refine ⟨_, pe_lst p, SndX.bnd (t2 := fun (xs : List V) σ H (Q : VK) => xs.length ≤ sizeLine ∧ ∀ p, H p = none → Q (.ref p) (upd H p (.lst xs))) rfl s fun us xs _ => ?_⟩
  refine snd_out us xs fun F H σ Q ds o e rd hf q => ?_
  unfold few at hf
  by_cases hz : ds.length ≤ 100000
  · rw [if_pos hz] at hf
    cases hf
    exact ⟨by rw [rd.len]; exact big_line hz, fun p hp => q p xs hp rd⟩
  · rw [if_neg hz] at hf; cases hf
/-! #### calls of built-ins -/
def CallOk (K : PySem.W.Frag) (r : List V → Hp → VK → Prop) (f : List D → Option Out) : Prop := ∀ F H Q vs ds o, Ex F H → Reps K F ds vs → f ds = some o → OutOk K F H Q o → r vs H Q
def eB (f : List D → Option Out) (n : Mo (List T)) : Mo T := bnd n (opM f)
theorem snd_B {K : PySem.W.Frag} {r : List V → Hp → VK → Prop} {f : List D → Option Out} {ta : TA} {n : Mo (List T)} (h : CallOk K r f) (s : SndA K W ta n) : SndE K W (tCB r ta) (eB f n) :=
  SndX.bnd (t2 := fun vs σ H Q => r vs H Q) rfl s fun us xs _ => snd_out us xs fun F H σ Q ds o e rd hf q => h F H Q xs ds o e rd hf q
theorem se_B {id : String} {x : Str} {p : Pos} {r : List V → Hp → VK → Prop} {f : List D → Option Out} {n : Mo (List T)} (hc : CallR X (.builtin id) r) (h : CallOk X.K r f) (hm : X.mg x = none) (hv : bootBuiltins x = some (.builtin id)) (g : SA X W (e :: es) n) (hg : Gl X x := by rfl)
    (hn : x ≠ "__name__" := by decide) (hd : (x == ("__debug__" : Str)) = false := by decide) (he : starEach (e :: es) X.env = (false, eval e X.env) :: starEach es X.env := by rfl) (hpl : (backTo pos (starEach es X.env)).any (·.1) = false := by rfl) :
    SE X W (.Call (.Name x p) (e :: es) [] pos) (eB f n) := by
  obtain ⟨t, pa, s⟩ := g
  exact ⟨_, pe_callB hc hg hm hv pa hn hd he hpl, snd_B h s⟩
theorem se_Ty {id : String} {x : Str} {p : Pos} {r : List V → Hp → VK → Prop} {f : List D → Option Out} {n : Mo (List T)} (hc : CallR X (.type id) r) (h : CallOk X.K r f) (hm : X.mg x = none) (hv : bootBuiltins x = some (.type id)) (g : SA X W (e :: es) n) (hg : Gl X x := by rfl)
    (hn : x ≠ "__name__" := by decide) (hd : (x == ("__debug__" : Str)) = false := by decide) (he : starEach (e :: es) X.env = (false, eval e X.env) :: starEach es X.env := by rfl) (hpl : (backTo pos (starEach es X.env)).any (·.1) = false := by rfl) :
    SE X W (.Call (.Name x p) (e :: es) [] pos) (eB f n) := by
  obtain ⟨t, pa, s⟩ := g
  exact ⟨_, pe_callTy hc hg hm hv pa hn hd he hpl, snd_B h s⟩
/-! #### subscripts, slices -/
theorem se_ix {r : R2} {f : D → D → Option Out} (hr : IxR X r) (h : Op2 X.K r f) (ha : SE X W a ma) (hb : SE X W b mb) (hs : PlainIx b := by intro _ _; rfl) : SE X W (.Subscript a b pos) (bin f ma mb) := by
  obtain ⟨ta, pa, sa⟩ := ha
  obtain ⟨tb, pb, sb⟩ := hb
  exact ⟨_, pe_ix hr pa pb hs, snd_bin h sa sb⟩
def asI : T → Mo (Option Int)
  | .dat (.int i) => ret (some i)
  | _ => nop
def oSome (m : Mo T) : Mo (Option Int) := bnd m asI
theorem so_none : SO X W none (ret none) := ⟨_, po_none, fun G F H ρ σ us ws Q r ρ' j hl ht hm k => by
  cases hm
  exact k none F H Ex.rfl hl rfl j⟩
theorem snd_asI {K : PySem.W.Frag} {t : T} {x : V} : SndX K W [some t] [some x] (fun _ => []) (fun _ => []) (fun (a b : Option Int) => b = a) (fun σ H Q => ∃ i, x = .int i ∧ Q (some i) H) (asI t) := by
  intro G F H ρ σ us ws Q r ρ' j hl ht hm k
  have hk : ∀ b, t = .dat (.int b) → (∃ c, x = .int c ∧ Q (some c) H) := fun b hb => by
    subst hb
    cases hm
    have e1 : (ρ ++ (us ++ [some (T.dat (.int b))]))[ρ.length + us.length]? = some (some (.dat (.int b))) := by
      rw [← List.append_assoc, List.getElem?_append_right (by simp)]; simp
    obtain ⟨v, m1, r1, _⟩ := j.ok _ _ e1
    have e2 : (σ ++ (ws ++ [some x]))[ρ.length + us.length]? = some (some x) := by
      rw [← List.append_assoc, List.getElem?_append_right (by simp [hl, ht])]; simp [hl, ht]
    rw [e2] at m1; cases m1
    have r2 : x = .int b := by
      have : Rep K F (.int b) x := r1
      unfold Rep at this; exact this
    refine ⟨b, r2, k (some b) F H Ex.rfl hl rfl ?_⟩
    simpa using app_pre j hl ht
  match t with
  | .dat (.int b) => exact hk b rfl
  | .dat .non => cases hm
  | .dat (.bl _) => cases hm
  | .dat (.str _) => cases hm
  | .dat (.tup _) => cases hm
  | .dat (.lst _) => cases hm
  | .dat (.scr _) => cases hm
  | .dat (.obj _ _ _) => cases hm
  | .lst _ _ => cases hm
  | .ins _ _ _ _ => cases hm
theorem so_some (h : SE X W e ma) : SO X W (some e) (oSome ma) := by
  obtain ⟨te, pe, se⟩ := h
  exact ⟨_, po_some pe, SndX.bnd (t2 := fun x σ H Q => ∃ i, x = .int i ∧ Q (some i) H) rfl se fun t x _ => snd_asI⟩
def eSl (f : D → Option Int → Option Int → Option Out) (m : Mo T) (ml mh : Mo (Option Int)) : Mo T := bnd m fun t => bnd ml fun lo => bnd mh fun hi => opM (one fun d => f d lo hi) [t]
def Sl3 (K : PySem.W.Frag) (r : V → Option Int → Option Int → Hp → VK → Prop) (f : D → Option Int → Option Int → Option Out) : Prop := ∀ F H Q x d lo hi o, Ex F H → Rep K F d x → f d lo hi = some o → OutOk K F H Q o → r x lo hi H Q
theorem se_sl {r : V → Option Int → Option Int → Hp → VK → Prop} {f : D → Option Int → Option Int → Option Out} {lo hi : Option Expr} {ml mh : Mo (Option Int)} {p2 : Pos} (hr : SlR X r) (h : Sl3 X.K r f) (he : SE X W e ma) (hl : SO X W lo ml) (hh : SO X W hi mh) :
    SE X W (.Subscript e (.Slice lo hi none p2) pos) (eSl f ma ml mh) := by
  obtain ⟨te, pe, se⟩ := he
  obtain ⟨tl, pl, sl⟩ := hl
  obtain ⟨th, ph, sh⟩ := hh
  refine ⟨_, pe_slice hr pe pl ph, SndX.bnd (t2 := fun x σ H1 Q => tl σ H1 fun l H2 => th σ H2 fun u H3 => r x l u H3 Q) rfl se fun t x _ => ?_⟩
  refine SndX.bnd (L0 := [some t]) (M0 := [some x]) (t2 := fun l σ H2 Q => th σ H2 fun u H3 => r x l u H3 Q) rfl sl fun l l' el => ?_
  subst el
  refine SndX.bnd (L0 := [some t] ++ []) (M0 := [some x] ++ []) (t2 := fun u σ H3 Q => r x l' u H3 Q) rfl sh fun u u' eu => ?_
  subst eu
  exact snd_one fun F H Q x d o e rd hf q => h F H Q x d l' u' o e rd hf q
end
end SL

set_option Elab.async false
set_option linter.all false
set_option maxRecDepth 100000
set_option maxHeartbeats 4000000
namespace SL
open PySem L2
/-! ### statements -/
inductive Fl where
  | next | brk | cont | ret (t : T) | exc (x : Xc)
abbrev So := Sl → Option (Fl × Sl)
def FlOk (K : PySem.W.Frag) (W : WX) (G : Gm) (F : Hp) (us : Sl) (ws : St) (D : Ends) (n : Nat) (ρ' : Sl) : Fl → Prop
  | .next => ∀ σ' F' H', Ex F F' → ρ'.length = n → σ'.length = n → J K G F' H' (ρ' ++ us) (σ' ++ ws) → D.nx σ' H'
  | .brk => ∀ σ' F' H', Ex F F' → ρ'.length = n → σ'.length = n → J K G F' H' (ρ' ++ us) (σ' ++ ws) → D.bk σ' H'
  | .cont => ∀ σ' F' H', Ex F F' → ρ'.length = n → σ'.length = n → J K G F' H' (ρ' ++ us) (σ' ++ ws) → D.ct σ' H'
  | .ret t => ∀ v σ' F' H', Ex F F' → ρ'.length = n → σ'.length = n → J K G F' H' (ρ' ++ (us ++ [some t])) (σ' ++ (ws ++ [some v])) → D.rt v H'
  | .exc x => ∀ c d σ' F' H', Ex F F' → ρ'.length = n → σ'.length = n → J K G F' H' (ρ' ++ us) (σ' ++ ws) → ExcR K F' x c d → W c d σ' H'
theorem FlOk.mono {K : PySem.W.Frag} {W : WX} {G : Gm} {F F1 : Hp} {us : Sl} {ws : St} {D : Ends} {n : Nat} {ρ' : Sl} {fl : Fl} (h : FlOk K W G F us ws D n ρ' fl) (e : Ex F F1) : FlOk K W G F1 us ws D n ρ' fl := by
  cases fl with
  | next => exact fun σ' F' H' a => h σ' F' H' (e.trans a)
  | brk => exact fun σ' F' H' a => h σ' F' H' (e.trans a)
  | cont => exact fun σ' F' H' a => h σ' F' H' (e.trans a)
  | ret t => exact fun v σ' F' H' a => h v σ' F' H' (e.trans a)
  | exc x => exact fun c d σ' F' H' a => h c d σ' F' H' (e.trans a)
def SndS (K : PySem.W.Frag) (W : WX) (t : TS) (s : So) : Prop :=
  ∀ (G : Gm) (F H : Hp) (ρ : Sl) (σ : St) (us : Sl) (ws : St) (D : Ends) (fl : Fl) (ρ' : Sl), J K G F H (ρ ++ us) (σ ++ ws) → ρ.length = σ.length → us.length = ws.length → s ρ = some (fl, ρ') → FlOk K W G F us ws D σ.length ρ' fl → t D σ H
def SS (X : Cx) (W : WX) (st : Stmt) (s : So) : Prop := ∃ t, PS X st t ∧ SndS X.K W t s
def SSs (X : Cx) (W : WX) (st : List Stmt) (s : So) : Prop := ∃ t, PSs X st t ∧ SndS X.K W t s
section
variable {X : Cx} {W : WX} {a b c e : Expr} {es : List Expr} {ma mb mc : Mo T} {pos : Pos} {st : Stmt} {rest sts : List Stmt} {s u : So} {na : Mo Bool} {K : PySem.W.Frag}
def sNext : So := fun ρ => some (.next, ρ)
def sSeq (s u : So) : So := fun ρ => match s ρ with
  | none => none
  | some (.next, ρ') => u ρ'
  | some (fl, ρ') => some (fl, ρ')
theorem snd_next : SndS K W tNext sNext := by
  intro G F H ρ σ us ws D fl ρ' j hl ht hm k
  cases hm
  exact k σ F H Ex.rfl hl rfl j
theorem snd_seq {t v : TS} (h1 : SndS K W t s) (h2 : SndS K W v u) : SndS K W (tSeq t v) (sSeq s u) := by
  intro G F H ρ σ us ws D fl ρ' j hl ht hm k
  unfold sSeq at hm
  cases e : s ρ with
  | none => rw [e] at hm; cases hm
  | some p =>
    obtain ⟨f1, ρ1⟩ := p
    rw [e] at hm
    refine h1 G F H ρ σ us ws { D with nx := v D } f1 ρ1 j hl ht e ?_
    cases f1 with
    | next =>
      intro σ' F' H' e1 l1 l2 j1
      refine h2 G F' H' ρ1 σ' us ws D fl ρ' j1 (l1.trans l2.symm) ht hm ?_
      rw [l2]; exact k.mono e1
    | brk => cases hm; exact k
    | cont => cases hm; exact k
    | ret t => cases hm; exact k
    | exc x => cases hm; exact k
theorem ss_pass : SS X W (.Pass pos) sNext := ⟨_, ps_pass, snd_next⟩
theorem ss_brk : SS X W (.Break pos) (fun ρ => some (.brk, ρ)) := ⟨_, ps_break, fun G F H ρ σ us ws D fl ρ' j hl ht hm k => by cases hm; exact k σ F H Ex.rfl hl rfl j⟩
theorem ss_cont : SS X W (.Continue pos) (fun ρ => some (.cont, ρ)) := ⟨_, ps_continue, fun G F H ρ σ us ws D fl ρ' j hl ht hm k => by cases hm; exact k σ F H Ex.rfl hl rfl j⟩
theorem sss_nil : SSs X W [] sNext := ⟨_, pss_nil, snd_next⟩
theorem sss_one (h : SS X W st s) : SSs X W [st] s := by obtain ⟨t, p, z⟩ := h; exact ⟨_, pss_one p, z⟩
theorem sss_cons (h : SS X W st s) (g : SSs X W rest u) : SSs X W (st :: rest) (sSeq s u) := by
  obtain ⟨t, p, z⟩ := h
  obtain ⟨v, q, y⟩ := g
  exact ⟨_, pss_cons p q, snd_seq z y⟩
/-- never come to -/
def sNo : So := fun _ => none
theorem snd_never : SndS K W tNever sNo := fun G F H ρ σ us ws D fl ρ' j hl ht hm k => by cases hm
theorem ss_never : SS X W st sNo := ⟨_, ps_never, snd_never⟩
/-! from an expression's function -/
def toS {α : Type} (m : Mo α) (f : α → So) : So := fun ρ => match m ρ with
  | none => none
  | some (.exc x, ρ') => some (.exc x, ρ')
  | some (.ok a, ρ') => f a ρ'
theorem SndX.toS {α β : Type} {pl : α → Sl} {pm : β → St} {eq : α → β → Prop} {t : St → Hp → (β → Hp → Prop) → Prop} {m : Mo α} {f : α → So} {tk : β → Ends → St → Hp → Prop} (h : SndX K W [] [] pl pm eq t m)
    (hk : ∀ a b, eq a b → ∀ G F H ρ σ us ws D fl ρ', J K G F H (ρ ++ (us ++ pl a)) (σ ++ (ws ++ pm b)) → ρ.length = σ.length → us.length = ws.length → f a ρ = some (fl, ρ') → FlOk K W G F us ws D σ.length ρ' fl → tk b D σ H) :
    SndS K W (fun D σ H => t σ H fun b H1 => tk b D σ H1) (toS m f) := by
  intro G F H ρ σ us ws D fl ρ' j hl ht hm k
  unfold SL.toS at hm
  cases e : m ρ with
  | none => rw [e] at hm; cases hm
  | some p =>
    obtain ⟨r1, ρ1⟩ := p
    rw [e] at hm
    refine h G F H ρ σ us ws _ r1 ρ1 (by simpa using j) hl ht e ?_
    cases r1 with
    | exc x =>
      cases hm
      exact fun c d F' H' e1 l1 j1 x1 => k c d σ F' H' e1 l1 rfl j1 x1
    | ok a =>
      intro b F' H' e1 l1 q j1
      exact hk a b q G F' H' ρ1 σ us ws D fl ρ' j1 l1 ht hm (k.mono e1)
def sDrop (m : Mo T) : So := toS m fun _ => sNext
theorem ss_expr (h : SE X W e ma) (hs : swapsWith e none pos.line X.env = pure false := by rfl) : SS X W (.Expr e pos) (sDrop ma) := by
  obtain ⟨t, p, z⟩ := h
  refine ⟨_, ps_expr p hs, z.toS (tk := fun _ D σ H => D.nx σ H) fun a b _ G F H ρ σ us ws D fl ρ' j hl ht hm k => ?_⟩
  cases hm
  exact k σ F H Ex.rfl hl rfl (app_pre j hl ht)
def sRet (m : Mo T) : So := toS m fun t ρ => some (.ret t, ρ)
theorem ss_ret (h : SE X W e ma) : SS X W (.Return (some e) pos) (sRet ma) := by
  obtain ⟨t, p, z⟩ := h
  refine ⟨_, ps_ret p, z.toS (tk := fun b D σ H => D.rt b H) fun a b _ G F H ρ σ us ws D fl ρ' j hl ht hm k => ?_⟩
  cases hm
  exact k b σ F H Ex.rfl hl rfl j
theorem ss_retN : SS X W (.Return none pos) (fun ρ => some (.ret (.dat .non), ρ)) := ⟨_, ps_retN, fun G F H ρ σ us ws D fl ρ' j hl ht hm k => by
  cases hm
  exact k .non σ F H Ex.rfl hl rfl (by rw [← List.append_assoc, ← List.append_assoc]; exact j.dat rep_non)⟩
def sIf (c : Mo Bool) (s u : So) : So := toS c fun b => if b = true then s else u
theorem ss_if {x y : List Stmt} (h : SC X W c na) (h1 : SSs X W x s) (h2 : SSs X W y u) : SS X W (.If c x y pos) (sIf na s u) := by
  obtain ⟨t, p, z⟩ := h
  obtain ⟨t1, p1, z1⟩ := h1
  obtain ⟨t2, p2, z2⟩ := h2
  refine ⟨_, ps_if p p1 p2, z.toS (tk := fun b D σ H => if b = true then t1 D σ H else t2 D σ H) fun a b e G F H ρ σ us ws D fl ρ' j hl ht hm k => ?_⟩
  subst e
  simp only [List.append_nil] at j
  cases b with
  | true => exact z1 G F H ρ σ us ws D fl ρ' j hl ht hm k
  | false => exact z2 G F H ρ σ us ws D fl ρ' j hl ht hm k
/-! #### stores to names -/
def sAsg (i : Nat) (m : Mo T) : So := toS m fun t ρ => if i < ρ.length then some (.next, ρ.set i (some t)) else none
theorem ss_set {i : Nat} {x : Str} {pos' : Pos} (hN : X.N.Nodup) (h : SE X W e ma) (hi : X.N[i]? = some x := by rfl) (hx : Loc X.env.scope x := by first | exact Or.inl rfl | exact Or.inr rfl) (hs : swapsWith e (some (.Name x pos')) pos.line X.env = pure false := by rfl)
    (hf : X.fn x = true ∨ X.env.scope.names.lookup x = some .local := by first | exact .inl rfl | exact .inr rfl) : SS X W (.Assign [.Name x pos'] e pos) (sAsg i ma) := by
  obtain ⟨t, p, z⟩ := h
  refine ⟨_, ps_set hN hi hx p hs hf, z.toS (tk := fun b D σ H => D.nx (σ.set i (some b)) H) fun a b _ G F H ρ σ us ws D fl ρ' j hl ht hm k => ?_⟩
  by_cases hi : i < ρ.length
  · simp only [if_pos hi] at hm
    cases hm
    refine k _ F H Ex.rfl (by simpa using hl) (by simp) ?_
    rw [← List.append_assoc, ← List.append_assoc] at j
    have j2 := j.take (i := i) (by simp [hl, ht])
    rw [List.set_append_left _ _ hi, List.set_append_left _ _ (by rw [← hl]; exact hi)] at j2
    exact j2
  · simp only [if_neg hi] at hm
    cases hm
/-! patterns -/
inductive Pat where
  | nm (i : Nat) | tp (ps : List Pat)
mutual
def asgP : Pat → D → Sl → Option Sl
  | .nm i, d, ρ => if i < ρ.length then some (ρ.set i (some (.dat d))) else none
  | .tp ps, .tup ds, ρ => asgPs ps ds ρ
  | .tp _, _, _ => none
def asgPs : List Pat → List D → Sl → Option Sl
  | [], [], ρ => some ρ
  | p :: ps, d :: ds, ρ => match asgP p d ρ with
    | none => none
    | some ρ' => asgPs ps ds ρ'
  | _, _, _ => none
end
mutual
def slotsP : Pat → List Nat
  | .nm i => [i]
  | .tp ps => slotsPs ps
def slotsPs : List Pat → List Nat
  | [] => []
  | p :: ps => slotsP p ++ slotsPs ps
end
def GOk (K : PySem.W.Frag) (g : TG) (p : Pat) : Prop := ∀ G F H ρ σ us ws d v ρ' Q, J K G F H (ρ ++ us) (σ ++ ws) → ρ.length = σ.length → Rep K F d v → asgP p d ρ = some ρ' →
  (∀ σ', σ'.length = σ.length → ρ'.length = ρ.length → (∀ k, k ∉ slotsP p → σ'[k]? = σ[k]?) → J K G F H (ρ' ++ us) (σ' ++ ws) → Q σ' H) → g v σ H Q
def GsOk (K : PySem.W.Frag) (g : TGs) (ps : List Pat) : Prop := ∀ G F H ρ σ us ws ds vs ρ' Q, J K G F H (ρ ++ us) (σ ++ ws) → ρ.length = σ.length → Reps K F ds vs → asgPs ps ds ρ = some ρ' →
  (∀ σ', σ'.length = σ.length → ρ'.length = ρ.length → (∀ k, k ∉ slotsPs ps → σ'[k]? = σ[k]?) → J K G F H (ρ' ++ us) (σ' ++ ws) → Q σ' H) → vs.length = ps.length ∧ g vs σ H Q
def SG (X : Cx) (tg : Expr) (p : Pat) : Prop := ∃ g, PG X tg g ∧ GOk X.K g p
def SGs (X : Cx) (tgs : List Expr) (ps : List Pat) : Prop := ∃ g, PGs X tgs g ∧ GsOk X.K g ps
theorem sg_nm {i : Nat} {x : Str} (hN : X.N.Nodup) (hi : X.N[i]? = some x := by rfl) (hx : Loc X.env.scope x := by first | exact Or.inl rfl | exact Or.inr rfl) (hf : X.fn x = true ∨ X.env.scope.names.lookup x = some .local := by first | exact .inl rfl | exact .inr rfl) : SG X (.Name x pos) (.nm i) := by
  refine ⟨_, pg_name hN hi hx hf, fun G F H ρ σ us ws d v ρ' Q j hl r hm k => ?_⟩
  unfold asgP at hm
  by_cases h : i < ρ.length
  · rw [if_pos h] at hm
    cases hm
    refine k _ (by simp) (by simp) (fun q hq => ?_) ?_
    · unfold slotsP at hq
      exact List.getElem?_set_ne (by intro e; subst e; simp at hq)
    · have hj := j.len
      simp [hl] at hj
      have j2 := (j.dat r).take (i := i) (by simp [hl, hj])
      rw [List.set_append_left _ _ h, List.set_append_left _ _ (by rw [← hl]; exact h)] at j2
      exact j2
  · rw [if_neg h] at hm; cases hm
theorem sgs_nil : SGs X [] [] := ⟨_, pgs_nil, fun G F H ρ σ us ws ds vs ρ' Q j hl r hm k => by
  cases ds with
  | nil => unfold Reps at r; subst r; unfold asgPs at hm; cases hm; exact ⟨rfl, rfl, k σ rfl rfl (fun _ _ => rfl) j⟩
  | cons d ds => unfold asgPs at hm; cases hm⟩
theorem sgs_cons {tg : Expr} {tgs : List Expr} {p : Pat} {ps : List Pat} (h : SG X tg p) (g : SGs X tgs ps) (hs : List.map (fun x => x.snd) (assignEach (tg :: tgs) X.env) = assign tg X.env :: List.map (fun x => x.snd) (assignEach tgs X.env) := by rfl) : SGs X (tg :: tgs) (p :: ps) := by
  obtain ⟨t, q, z⟩ := h
  obtain ⟨u, q2, z2⟩ := g
  refine ⟨_, pgs_cons q q2 hs, fun G F H ρ σ us ws ds vs ρ' Q j hl r hm k => ?_⟩
  cases ds with
  | nil => unfold asgPs at hm; cases hm
  | cons d ds =>
    unfold Reps at r
    obtain ⟨v, vr, rfl, r1, r2⟩ := r
    unfold asgPs at hm
    cases e : asgP p d ρ with
    | none => rw [e] at hm; cases hm
    | some ρ1 =>
      rw [e] at hm
      have key : (vr.length = ps.length) ∧ t v σ H fun σ' H' => u vr σ' H' Q := by
        have h2 : ∀ σ' : St, σ'.length = σ.length → ρ1.length = ρ.length → (∀ k, k ∉ slotsP p → σ'[k]? = σ[k]?) → J X.K G F H (ρ1 ++ us) (σ' ++ ws) → vr.length = ps.length ∧ u vr σ' H Q := fun σ' l1 l2 o1 j1 =>
          z2 G F H ρ1 σ' us ws ds vr ρ' Q j1 (by rw [l1, l2, hl]) r2 hm fun σ2 m1 m2 o2 j2 => k σ2 (m1.trans l1) (m2.trans l2) (fun q hq => by
            unfold slotsPs at hq
            simp only [List.mem_append, not_or] at hq
            rw [o2 q hq.2, o1 q hq.1]) j2
        have hlen : ∀ (n : Nat), vr.length = n → n = ps.length ∨ n ≠ ps.length := fun n _ => by omega
        by_cases hz : vr.length = ps.length
        · exact ⟨hz, z G F H ρ σ us ws d v ρ1 _ j hl r1 e fun σ' l1 l2 o1 j1 => (h2 σ' l1 l2 o1 j1).2⟩
        · -- lengths: by asgPs
          exfalso
          have : ∀ (ps : List Pat) (ds : List D) (ρ ρ' : Sl), asgPs ps ds ρ = some ρ' → ds.length = ps.length := by
            intro ps
            induction ps with
            | nil => intro ds ρ ρ' h; cases ds with
              | nil => rfl
              | cons d ds => unfold asgPs at h; cases h
            | cons p ps ih => intro ds ρ ρ' h; cases ds with
              | nil => unfold asgPs at h; cases h
              | cons d ds =>
                unfold asgPs at h
                cases e : asgP p d ρ with
                | none => rw [e] at h; cases h
                | some ρ1 => rw [e] at h; simp [ih _ _ _ h]
          exact hz (r2.len.trans (this _ _ _ _ hm))
      exact ⟨by simp [key.1], v, vr, rfl, key.2⟩
theorem sg_tp {es : List Expr} {k : Nat} {ps : List Pat} {n : Nat} (hc : X.calm = true) (h : SGs X es ps) (hn : ps.length = n := by rfl)
    (hn2 : (assignEach es X.env).length = n := by rfl) (hst : (assignEach es X.env).findIdx? (·.1) = none := by rfl) : SG X (.Tuple es k pos) (.tp ps) := by
  obtain ⟨t, q, z⟩ := h
  refine ⟨_, pg_tup hc q hn2 hst, fun G F H ρ σ us ws d v ρ' Q j hl r hm kk => ?_⟩
  cases d with
  | tup ds =>
    unfold asgP at hm
    unfold Rep at r
    obtain ⟨a, vs, rfl, h1, h2⟩ := r
    obtain ⟨l, y⟩ := z G F H ρ σ us ws ds vs ρ' Q j hl h2 hm fun σ' l1 l2 o j1 => kk σ' l1 l2 (by simpa [slotsP] using o) j1
    exact ⟨a, vs, rfl, j.ex.t h1, l.trans hn, y⟩
  | _ => unfold asgP at hm; cases hm
/-- a pattern takes data -/
def sAsgP (p : Pat) (m : Mo T) : So := toS m fun t ρ => if t.brw = true then none else match asgP p t.fz ρ with
  | none => none
  | some ρ' => some (.next, ρ')
theorem asgP_len {K : PySem.W.Frag} : True := trivial
theorem snd_asgP {t : TE} {g : TG} {p : Pat} (z : SndE K W t ma) (y : GOk K g p) : SndS K W (tAsg t g) (sAsgP p ma) := by
  refine z.toS (tk := fun b D σ H => g b σ H D.nx) fun t b _ G F H ρ σ us ws D fl ρ' j hl ht hm k => ?_
  by_cases hb : t.brw = true
  · simp only [if_pos hb] at hm; cases hm
  · simp only [if_neg hb] at hm
    cases e : asgP p t.fz ρ with
    | none => rw [e] at hm; cases hm
    | some ρ1 =>
      rw [e] at hm
      cases hm
      rw [← List.append_assoc, ← List.append_assoc] at j
      have e1 : (ρ ++ us ++ [some t])[(ρ ++ us).length]? = some (some t) := by simp
      obtain ⟨F', v, x1, m1, rd, j1⟩ := j.freeze e1 (by simpa using hb)
      have hv : v = b := by
        have : (ρ ++ us).length = (σ ++ ws).length := by simp [hl, ht]
        rw [this] at m1
        simp at m1
        exact m1.symm
      subst hv
      have e2 : (ρ ++ us ++ [some t]).set (ρ ++ us).length (some (.dat t.fz)) = (ρ ++ us) ++ [some (.dat t.fz)] := by simp
      rw [e2] at j1
      have j2 := j1.pre (by simp [hl, ht])
      exact y G F' H ρ σ us ws t.fz v ρ' _ j2 hl rd e fun σ' l1 l2 _ j3 => k σ' F' H x1 (by rw [l2, hl]) l1 j3
theorem ss_asg {tg : Expr} {p : Pat} (h : SE X W e ma) (g : SG X tg p) (hs : swapsWithSole [tg] e pos.line X.env = pure false := by rfl) (hw : swappedStores [tg] e X.env = pure none := by rfl) (h1 : List.map (fun x => x.snd) (assignEach [tg] X.env) = [assign tg X.env] := by rfl) : SS X W (.Assign [tg] e pos) (sAsgP p ma) := by
  obtain ⟨t, q, z⟩ := h
  obtain ⟨u, q2, z2⟩ := g
  exact ⟨_, ps_asg q q2 hs hw h1, snd_asgP z z2⟩
/-! #### while -/
def whileF (c : Mo Bool) (b : So) (ρ : Sl) : Option (Fl × Sl) := match c ρ with
  | none => none
  | some (.exc x, ρ1) => some (.exc x, ρ1)
  | some (.ok false, ρ1) => some (.next, ρ1)
  | some (.ok true, ρ1) => match b ρ1 with
    | none => none
    | some (.next, ρ2) => whileF c b ρ2
    | some (.cont, ρ2) => whileF c b ρ2
    | some (.brk, ρ2) => some (.next, ρ2)
    | some (.ret t, ρ2) => some (.ret t, ρ2)
    | some (.exc x, ρ2) => some (.exc x, ρ2)
partial_fixpoint
def whileN (c : Mo Bool) (b : So) : Nat → Sl → Option (Fl × Sl)
  | 0, _ => none
  | n + 1, ρ => match c ρ with
    | none => none
    | some (.exc x, ρ1) => some (.exc x, ρ1)
    | some (.ok false, ρ1) => some (.next, ρ1)
    | some (.ok true, ρ1) => match b ρ1 with
      | none => none
      | some (.next, ρ2) => whileN c b n ρ2
      | some (.cont, ρ2) => whileN c b n ρ2
      | some (.brk, ρ2) => some (.next, ρ2)
      | some (.ret t, ρ2) => some (.ret t, ρ2)
      | some (.exc x, ρ2) => some (.exc x, ρ2)
theorem whileN_of {c : Mo Bool} {b : So} {ρ : Sl} {o : Fl × Sl} (h : whileF c b ρ = some o) : ∃ n, whileN c b n ρ = some o := by
  refine whileF.partial_correctness c b (fun ρ o => ∃ n, whileN c b n ρ = some o) ?_ ρ o h
  intro w ih ρ o h
  cases e : c ρ with
  | none => rw [e] at h; cases h
  | some p =>
    obtain ⟨r, ρ1⟩ := p
    rw [e] at h
    cases r with
    | exc x => exact ⟨1, by unfold whileN; rw [e]; exact h⟩
    | ok t =>
      cases t with
      | false => exact ⟨1, by unfold whileN; rw [e]; exact h⟩
      | true =>
        simp only at h
        cases e2 : b ρ1 with
        | none => rw [e2] at h; cases h
        | some q =>
          obtain ⟨f, ρ2⟩ := q
          rw [e2] at h
          cases f with
          | next => obtain ⟨n, hn⟩ := ih ρ2 o h; exact ⟨n + 1, by unfold whileN; rw [e]; simp only; rw [e2]; exact hn⟩
          | cont => obtain ⟨n, hn⟩ := ih ρ2 o h; exact ⟨n + 1, by unfold whileN; rw [e]; simp only; rw [e2]; exact hn⟩
          | brk => exact ⟨1, by unfold whileN; rw [e]; simp only; rw [e2]; exact h⟩
          | ret t => exact ⟨1, by unfold whileN; rw [e]; simp only; rw [e2]; exact h⟩
          | exc t => exact ⟨1, by unfold whileN; rw [e]; simp only; rw [e2]; exact h⟩
theorem snd_while {t : TT} {v : TS} (h1 : SndT K W t na) (h2 : SndS K W v s) : SndS K W (tWhile t v) (whileF na s) := by
  intro G F H ρ σ us ws D fl ρ' j hl ht hm k
  obtain ⟨n, hn⟩ := whileN_of hm
  refine ⟨fun m σ' H' => ∃ F1 ρ1, Ex F F1 ∧ ρ1.length = σ.length ∧ σ'.length = σ.length ∧ J K G F1 H' (ρ1 ++ us) (σ' ++ ws) ∧ whileN na s m ρ1 = some (fl, ρ'), ⟨n, F, ρ, Ex.rfl, hl, rfl, j, hn⟩, ?_⟩
  rintro m σ' H' ⟨F1, ρ1, x1, l1, l2, j1, hn1⟩
  cases m with
  | zero => unfold whileN at hn1; cases hn1
  | succ m =>
    unfold whileN at hn1
    cases e : na ρ1 with
    | none => rw [e] at hn1; cases hn1
    | some p =>
      obtain ⟨r, ρ2⟩ := p
      rw [e] at hn1
      refine h1 G F1 H' ρ1 σ' us ws _ r ρ2 (by simpa using j1) (l1.trans l2.symm) ht e ?_
      cases r with
      | exc x =>
        cases hn1
        exact fun c d F2 H2 e2 m1 j2 xr => k c d σ' F2 H2 (x1.trans e2) (m1.trans l2) l2 j2 xr
      | ok b =>
        intro b' F2 H2 e2 m1 hb j2
        subst hb
        simp only [List.append_nil] at j2
        cases b' with
        | false =>
          cases hn1
          rw [if_neg Bool.false_ne_true]
          exact k σ' F2 H2 (x1.trans e2) (m1.trans l2) l2 j2
        | true =>
          rw [if_pos rfl]
          simp only at hn1
          cases e3 : s ρ2 with
          | none => rw [e3] at hn1; cases hn1
          | some q =>
            obtain ⟨f, ρ3⟩ := q
            rw [e3] at hn1
            refine ⟨fun σ3 H3 => ∃ F3 ρ3, Ex F F3 ∧ ρ3.length = σ.length ∧ σ3.length = σ.length ∧ J K G F3 H3 (ρ3 ++ us) (σ3 ++ ws) ∧ whileN na s m ρ3 = some (fl, ρ'), fun σ3 H3 hq => ⟨m, Nat.lt_succ_self m, hq⟩, ?_⟩
            refine h2 G F2 H2 ρ2 σ' us ws _ f ρ3 j2 m1 ht e3 ?_
            rw [l2]
            cases f with
            | next => exact fun σ3 F3 H3 e4 n1 n2 j3 => ⟨F3, ρ3, (x1.trans e2).trans e4, n1, n2, j3, hn1⟩
            | cont => exact fun σ3 F3 H3 e4 n1 n2 j3 => ⟨F3, ρ3, (x1.trans e2).trans e4, n1, n2, j3, hn1⟩
            | brk => cases hn1; exact fun σ3 F3 H3 e4 n1 n2 j3 => k σ3 F3 H3 ((x1.trans e2).trans e4) n1 n2 j3
            | ret t => cases hn1; exact fun v σ3 F3 H3 e4 n1 n2 j3 => k v σ3 F3 H3 ((x1.trans e2).trans e4) n1 n2 j3
            | exc x => cases hn1; exact fun c d σ3 F3 H3 e4 n1 n2 j3 => k c d σ3 F3 H3 ((x1.trans e2).trans e4) n1 n2 j3
theorem ss_while (hp : PassesOwn (model X.prog X.w) X.A X.env X.xe) (h1 : SC X W c na) (h2 : SSs X W sts s) : SS X W (.While c sts [] pos) (whileF na s) := by
  obtain ⟨t, p, z⟩ := h1
  obtain ⟨u, q, y⟩ := h2
  exact ⟨_, ps_while hp p q, snd_while z y⟩
end
end SL

set_option Elab.async false
set_option linter.all false
set_option maxRecDepth 100000
set_option maxHeartbeats 4000000
namespace SL
open PySem L2
section
variable {K : PySem.W.Frag} {G : Gm} {F F' H H' : Hp} {L : Sl} {M M' : St}
theorem J.cgM (j : J K G F H L M) (l : M'.length = M.length) (h : ∀ (k : Nat) (t : T), L[k]? = some (some t) → M'[k]? = M[k]?) : J K G F H L M' := by
  refine ⟨j.ex, by rw [j.len, l], fun k t e => ?_, fun i i' t t' v' ni e e' o o' m m' => ?_, j.base, j.frs, j.f0, j.bal⟩
  · obtain ⟨v, h1, h2⟩ := j.ok k t e
    exact ⟨v, (h k t e).trans h1, h2⟩
  · exact j.ne i i' t t' v' ni e e' o o' ((h i t e).symm.trans m) ((h i' t' e').symm.trans m')
/-- fewer slots are known -/
theorem J.cgL {L' : Sl} (j : J K G F H L M) (l : L'.length = L.length) (h : ∀ (k : Nat) (t : T), L'[k]? = some (some t) → L[k]? = some (some t)) : J K G F H L' M := by
  refine ⟨j.ex, by rw [l, j.len], fun k t e => j.ok k t (h k t e), fun i i' t t' v' ni e e' => j.ne i i' t t' v' ni (h i t e) (h i' t' e'), j.base, j.frs, j.f0, j.bal⟩
end
def wip (ρ : Sl) : List Nat → Sl
  | [] => ρ
  | v :: vs => (wip ρ vs).set v none
theorem wip_len (ρ : Sl) : ∀ vs : List Nat, (wip ρ vs).length = ρ.length
  | [] => rfl
  | v :: vs => by unfold wip; rw [List.length_set, wip_len ρ vs]
theorem wip_get {ρ : Sl} {k : Nat} {t : T} : ∀ {vs : List Nat}, (wip ρ vs)[k]? = some (some t) → ρ[k]? = some (some t) ∧ k ∉ vs
  | [], h => ⟨h, by simp⟩
  | v :: vs, h => by
    unfold wip at h
    by_cases hk : v = k
    · subst hk
      have hl : v < (wip ρ vs).length := by
        have := (List.getElem?_eq_some_iff.mp h).1
        simpa using this
      rw [List.getElem?_set_self hl] at h; cases h
    · rw [List.getElem?_set_ne hk] at h
      obtain ⟨h1, h2⟩ := wip_get h
      exact ⟨h1, by simp [h2, Ne.symm hk]⟩
theorem wipe_get {σ : St} {k : Nat} : ∀ {vs : List Nat}, k ∉ vs → (wipe σ vs)[k]? = σ[k]?
  | [], _ => rfl
  | v :: vs, h => by
    simp only [List.mem_cons, not_or] at h
    unfold wipe
    rw [List.getElem?_set_ne (Ne.symm h.1), wipe_get h.2]
theorem wipe_in {σ : St} {k : Nat} : ∀ {vs : List Nat}, k ∈ vs → (wipe σ vs)[k]? = if k < σ.length then some none else none
  | v :: vs, h => by
    unfold wipe
    by_cases hk : v = k
    · subst hk
      by_cases hl : v < (wipe σ vs).length
      · rw [List.getElem?_set_self hl, if_pos (by rw [wipe_length] at hl; exact hl)]
      · rw [if_neg (by rw [wipe_length] at hl; exact hl)]
        exact List.getElem?_eq_none_iff.mpr (by simp; omega)
    · simp only [List.mem_cons] at h
      rcases h with h | h
      · exact absurd h.symm hk
      · rw [List.getElem?_set_ne hk, wipe_in h]
theorem wipe_eq {σ σ' : St} {vs : List Nat} (l : σ'.length = σ.length) (h : ∀ k, k ∉ vs → σ'[k]? = σ[k]?) : wipe σ' vs = wipe σ vs := by
  apply List.ext_getElem?
  intro k
  by_cases hk : k ∈ vs
  · rw [wipe_in hk, wipe_in hk, l]
  · rw [wipe_get hk, wipe_get hk, h k hk]
theorem wip_app {ρ us : Sl} {k : Nat} {t : T} {vs : List Nat} (h : (wip ρ vs ++ us)[k]? = some (some t)) : (ρ ++ us)[k]? = some (some t) ∧ (k < ρ.length → k ∉ vs) := by
  by_cases hk : k < ρ.length
  · rw [List.getElem?_append_left (by rw [wip_len]; exact hk)] at h
    obtain ⟨h1, h2⟩ := wip_get h
    exact ⟨by rw [List.getElem?_append_left hk]; exact h1, fun _ => h2⟩
  · rw [List.getElem?_append_right (by rw [wip_len]; omega), wip_len] at h
    exact ⟨by rw [List.getElem?_append_right (by omega)]; exact h, fun z => absurd z hk⟩

/-! ### what is walked -/
def Wk (K : PySem.W.Frag) (It : L2.It) (F : Hp) (xs : List D) : Prop := ∀ F1 H, Ex F F1 → Ex F1 H → ∀ i, (xs.length ≤ i → It.stop i H) ∧ (∀ d, xs[i]? = some d → It.go i H ∧ ∀ x H', It.yld i H x H' →
  ∃ F', Ex F1 F' ∧ Ex H H' ∧ Ex F' H' ∧ (∀ a o, F' a = some o → F1 a = some o ∨ H a = none) ∧ Rep K F' d x)
theorem Wk.mono {K : PySem.W.Frag} {It : L2.It} {F F' : Hp} {xs : List D} (h : Wk K It F xs) (e : Ex F F') : Wk K It F' xs := fun F1 H a b => h F1 H (e.trans a) b
def SndI (K : PySem.W.Frag) (W : WX) (wi : TI) (m : Mo (List D)) : Prop :=
  ∀ (G : Gm) (F H : Hp) (ρ : Sl) (σ : St) (ts : Sl) (vs : St) (R : L2.It → Hp → Prop) (r : Rs (List D)) (ρ' : Sl), J K G F H (ρ ++ ts) (σ ++ vs) → ρ.length = σ.length → ts.length = vs.length → m ρ = some (r, ρ') →
    (match r with
      | .ok xs => ∀ It F' H', Ex F F' → ρ'.length = σ.length → Wk K It F' xs → J K G F' H' (ρ' ++ ts) (σ ++ vs) → R It H'
      | .exc x => ∀ c d F' H', Ex F F' → ρ'.length = σ.length → J K G F' H' (ρ' ++ ts) (σ ++ vs) → ExcR K F' x c d → W c d σ H') → wi σ H R
def SI (X : Cx) (W : WX) (tg iter : Expr) (m : Mo (List D)) : Prop := ∃ wi, PI X tg iter wi ∧ SndI X.K W wi m
theorem wk_seq {K : PySem.W.Frag} {F : Hp} {a : Addr} {vs : List V} {xs : List D} (h : SqL K F a vs) (r : Reps K F xs vs) : Wk K (Itl K a) F xs := by
  intro F1 H e1 e2 i
  have h2 : SqL K H a vs := e2.l (e1.l h)
  refine ⟨fun hi => ⟨vs, h2, by rw [r.len]; exact hi⟩, fun d hd => ?_⟩
  obtain ⟨v, hv, rv⟩ := r.get hd
  refine ⟨⟨vs, v, h2, hv⟩, fun x H' ⟨e, y⟩ => ?_⟩
  subst e
  have hx := y vs h2
  rw [hv] at hx
  cases hx
  exact ⟨F1, Ex.rfl, Ex.rfl, e2, fun a o z => .inl z, Rep.mono e1 _ _ rv⟩
theorem wk_tup {K : PySem.W.Frag} {F : Hp} {a : Addr} {vs : List V} {xs : List D} (h : SqT K F a vs) (r : Reps K F xs vs) : Wk K (Itt K a) F xs := by
  intro F1 H e1 e2 i
  have h2 : SqT K H a vs := e2.t (e1.t h)
  refine ⟨fun hi => ⟨vs, h2, by rw [r.len]; exact hi⟩, fun d hd => ?_⟩
  obtain ⟨v, hv, rv⟩ := r.get hd
  refine ⟨⟨vs, v, h2, hv⟩, fun x H' ⟨e, y⟩ => ?_⟩
  subst e
  have hx := y vs h2
  rw [hv] at hx
  cases hx
  exact ⟨F1, Ex.rfl, Ex.rfl, e2, fun a o z => .inl z, Rep.mono e1 _ _ rv⟩
def rngD (lo : Int) (n : Nat) : List D := (List.range n).map fun i => .int (lo + (i : Nat))
theorem wk_rng {K : PySem.W.Frag} {F : Hp} {lo : Int} {n : Nat} : Wk K (Itr lo n) F (rngD lo n) := by
  intro F1 H e1 e2 i
  refine ⟨fun hi => (show n ≤ i by simpa [rngD] using hi), fun d hd => ?_⟩
  unfold rngD at hd
  rw [List.getElem?_map] at hd
  cases e : (List.range n)[i]? with
  | none => rw [e] at hd; cases hd
  | some k =>
    rw [e] at hd
    have hk := List.getElem?_eq_some_iff.mp e
    obtain ⟨h1, h2⟩ := hk
    simp at h1 h2
    subst h2
    have hd2 : D.int (lo + (i : Nat)) = d := Option.some.inj hd
    subst hd2
    refine ⟨h1, fun x H' ⟨e1, y⟩ => ?_⟩
    subst e1 y
    exact ⟨F1, Ex.rfl, Ex.rfl, e2, fun a o z => .inl z, rep_int⟩
/-- the items of a list or tuple -/
def itemsD : D → Option (List D)
  | .lst xs => some xs
  | .tup xs => some xs
  | .scr ns => some (ns.map .int)
  | _ => none
def iSeq (m : Mo T) : Mo (List D) := bnd m fun t ρ => if t.brw = true then none else match itemsD t.fz with
  | none => none
  | some xs => some (.ok xs, ρ)
section
variable {X : Cx} {W : WX} {tg iter a c e : Expr} {es : List Expr} {ma mb mc : Mo T} {pos : Pos} {st : Stmt} {rest sts : List Stmt} {s u : So} {na : Mo Bool} {K : PySem.W.Frag} {n : Mo (List T)}
theorem PI.or {w1 w2 : TI} (h1 : PI X tg iter w1) (h2 : PI X tg iter w2) : PI X tg iter (fun σ H R => w1 σ H R ∨ w2 σ H R) := ⟨fun pins s σ H R I h => by
  rcases h with h | h
  · exact h1.run pins s σ H R I h
  · exact h2.run pins s σ H R I h⟩
/-- the last temporary frozen -/
theorem J.fzLast {G : Gm} {F H : Hp} {ρ us : Sl} {σ ws : St} {t : T} {v : V} (j : J K G F H (ρ ++ (us ++ [some t])) (σ ++ (ws ++ [some v]))) (hl : ρ.length = σ.length) (ht : us.length = ws.length) (hb : t.brw = false) :
    ∃ F', Ex F F' ∧ J K G F' H (ρ ++ (us ++ [some (.dat t.fz)])) (σ ++ (ws ++ [some v])) ∧ Rep K F' t.fz v := by
  rw [← List.append_assoc, ← List.append_assoc] at j
  have e1 : (ρ ++ us ++ [some t])[(ρ ++ us).length]? = some (some t) := by simp
  obtain ⟨F', w, x1, m1, rd, j1⟩ := j.freeze e1 hb
  have hv : w = v := by
    have : (ρ ++ us).length = (σ ++ ws).length := by simp [hl, ht]
    rw [this] at m1
    simp at m1
    exact m1.symm
  subst hv
  have e2 : (ρ ++ us ++ [some t]).set (ρ ++ us).length (some (.dat t.fz)) = (ρ ++ us) ++ [some (.dat t.fz)] := by simp
  rw [e2] at j1
  exact ⟨F', x1, by rw [← List.append_assoc, ← List.append_assoc]; exact j1, rd⟩
theorem si_seq (h : SE X W iter ma) : SI X W tg iter (iSeq ma) := by
  obtain ⟨te, p, z⟩ := h
  refine ⟨_, PI.or (pi_list p) (pi_tup p), ?_⟩
  intro G F H ρ σ ts vs R r ρ' j hl ht hm k
  unfold iSeq bnd at hm
  cases e : ma ρ with
  | none => rw [e] at hm; cases hm
  | some q =>
    obtain ⟨r1, ρ1⟩ := q
    rw [e] at hm
    cases r1 with
    | exc x =>
      cases hm
      exact Or.inl (z G F H ρ σ ts vs _ (.exc x) ρ' (by simpa using j) hl ht e k)
    | ok t =>
      simp only at hm
      by_cases hb : t.brw = true
      · rw [if_pos hb] at hm; cases hm
      · rw [if_neg hb] at hm
        cases hi : itemsD t.fz with
        | none => rw [hi] at hm; cases hm
        | some xs =>
          rw [hi] at hm
          cases hm
          have go : ∀ (Q : V → Hp → Prop), (∀ v F' H', Ex F F' → ρ'.length = σ.length → J X.K G F' H' (ρ' ++ ts) (σ ++ vs) → Rep X.K F' t.fz v → Q v H') → te σ H Q := fun Q hq =>
            z G F H ρ σ ts vs Q (.ok t) ρ' (by simpa using j) hl ht e fun v F' H' e1 l1 _ j1 => by
              obtain ⟨F2, x2, j2, rd⟩ := j1.fzLast l1 ht (by simpa using hb)
              exact hq v F2 H' (e1.trans x2) l1 (app_pre j2 l1 ht) rd
          cases hf : t.fz with
          | lst ys =>
            rw [hf] at hi; cases hi
            refine Or.inl (go _ fun v F' H' e1 l1 j1 rd => ?_)
            rw [hf] at rd
            unfold Rep at rd
            obtain ⟨a, us, rfl, h1, h2⟩ := rd
            have h3 : SqL X.K F' a us := Or.inl (Or.inl h1)
            exact ⟨a, rfl, ⟨us, j1.ex.l h3⟩, k _ F' H' e1 l1 (wk_seq h3 h2) j1⟩
          | scr ns =>
            rw [hf] at hi; cases hi
            refine Or.inl (go _ fun v F' H' e1 l1 j1 rd => ?_)
            rw [hf] at rd
            unfold Rep at rd
            obtain ⟨a, rfl, h1⟩ := rd
            exact ⟨a, rfl, ⟨_, j1.ex.l h1⟩, k _ F' H' e1 l1 (wk_seq h1 (reps_ints ns)) j1⟩
          | tup ys =>
            rw [hf] at hi; cases hi
            refine Or.inr (go _ fun v F' H' e1 l1 j1 rd => ?_)
            rw [hf] at rd
            unfold Rep at rd
            obtain ⟨a, us, rfl, h1, h2⟩ := rd
            exact ⟨a, rfl, ⟨us, j1.ex.t h1⟩, k _ F' H' e1 l1 (wk_tup h1 h2) j1⟩
          | non => rw [hf] at hi; cases hi
          | bl b => rw [hf] at hi; cases hi
          | int b => rw [hf] at hi; cases hi
          | str b => rw [hf] at hi; cases hi
          | obj C ns fs => rw [hf] at hi; cases hi
          | exn _ _ _ _ => rw [hf] at hi; cases hi
          | dic _ _ => rw [hf] at hi; cases hi
/-! range -/
def rng1 : List D → Option (List D)
  | [.int j] => if -100000 ≤ j ∧ j ≤ 100000 then some (rngD 0 j.toNat) else none
  | _ => none
def rng2 : List D → Option (List D)
  | [.int i, .int j] => if -100000 ≤ i ∧ i ≤ 100000 ∧ -100000 ≤ j ∧ j ≤ 100000 then some (rngD i (j - i).toNat) else none
  | _ => none
def iOf (f : List D → Option (List D)) (n : Mo (List T)) : Mo (List D) := bnd n fun ts ρ => match frzs ts with
  | none => none
  | some ds => match f ds with
    | none => none
    | some xs => some (.ok xs, ρ)
theorem snd_iOf {f : List D → Option (List D)} {ta : TA} {t2 : List V → TI} (z : SndA K W ta n)
    (h : ∀ F H σ R vs ds xs, Ex F H → Reps K F ds vs → f ds = some xs → (∀ It F' H', Ex F F' → Ex H H' → Ex F' H' → (∀ a o, F' a = some o → F a = some o ∨ H a = none) → Wk K It F' xs → R It H') → t2 vs σ H R) : SndI K W (fun σ H R => ta σ H fun vs H1 => t2 vs σ H1 R) (iOf f n) := by
  intro G F H ρ σ ts vs R r ρ' j hl ht hm k
  unfold iOf bnd at hm
  cases e : n ρ with
  | none => rw [e] at hm; cases hm
  | some q =>
    obtain ⟨r1, ρ1⟩ := q
    rw [e] at hm
    cases r1 with
    | exc x =>
      cases hm
      exact z G F H ρ σ ts vs _ (.exc x) ρ' (by simpa using j) hl ht e k
    | ok us =>
      simp only at hm
      cases hf : frzs us with
      | none => rw [hf] at hm; cases hm
      | some ds =>
        rw [hf] at hm
        simp only at hm
        cases hr : f ds with
        | none => rw [hr] at hm; cases hm
        | some xs =>
          rw [hr] at hm
          cases hm
          refine z G F H ρ σ ts vs _ (.ok us) ρ' (by simpa using j) hl ht e fun ws F' H' e1 l1 _ j1 => ?_
          unfold frzs at hf
          by_cases hb : us.any T.brw = true
          · rw [if_pos hb] at hf; cases hf
          · rw [if_neg hb] at hf
            cases hf
            rw [← List.append_assoc, ← List.append_assoc] at j1
            obtain ⟨F2, x2, j2, rd⟩ := j1.freezes (by simp [l1, ht]) (by simpa using hb)
            have j3 := j2.pre (by simp [l1, ht])
            exact h F2 H' σ R ws _ xs j3.ex rd hr fun It F3 H3 a1 a2 a3 a4 w => k It F3 H3 ((e1.trans x2).trans a1) l1 w (j3.grow a1 a2 a3 a4)
theorem si_rng1 {p : Pos} (hm : X.mg "range" = none) (g : SA X W [a] n) (hg : Gl X "range" := by rfl) (hs : starEach [a] X.env = [(false, eval a X.env)] := by rfl) : SI X W tg (.Call (.Name "range" p) [a] [] pos) (iOf rng1 n) := by
  obtain ⟨ta, q, z⟩ := g
  refine ⟨_, pi_range1 hg hm q hs, snd_iOf (t2 := fun vs σ H1 R => ∃ j : Int, vs = [.int j] ∧ -(2 ^ 62) ≤ j ∧ j < 2 ^ 62 ∧ R (Itr 0 j.toNat) H1) z fun F H σ R vs ds xs e rd hf k => ?_⟩
  match ds, hf with
  | [.int jj], hf =>
    simp only [rng1] at hf
    by_cases hz : -100000 ≤ jj ∧ jj ≤ 100000
    · rw [if_pos hz] at hf
      cases hf
      unfold Reps at rd
      obtain ⟨v, r, rfl, a1, a2⟩ := rd
      unfold Rep at a1
      unfold Reps at a2
      subst a1 a2
      exact ⟨jj, rfl, by omega, by omega, k _ F H Ex.rfl Ex.rfl e (fun _ _ z => .inl z) wk_rng⟩
    · rw [if_neg hz] at hf; cases hf
theorem si_rng2 {b : Expr} {p : Pos} (hm : X.mg "range" = none) (g : SA X W [a, b] n) (hg : Gl X "range" := by rfl) (hs : starEach [a, b] X.env = [(false, eval a X.env), (false, eval b X.env)] := by rfl) (hs2 : starEach [b] X.env = [(false, eval b X.env)] := by rfl) : SI X W tg (.Call (.Name "range" p) [a, b] [] pos) (iOf rng2 n) := by
  obtain ⟨ta, q, z⟩ := g
  refine ⟨_, pi_range2 hg hm q hs hs2, snd_iOf (t2 := fun vs σ H1 R => ∃ i j : Int, vs = [.int i, .int j] ∧ (-(2 ^ 62) ≤ i ∧ i < 2 ^ 62 ∧ -(2 ^ 62) ≤ j ∧ j < 2 ^ 62) ∧ R (Itr i (j - i).toNat) H1) z fun F H σ R vs ds xs e rd hf k => ?_⟩
  match ds, hf with
  | [.int ii, .int jj], hf =>
    simp only [rng2] at hf
    by_cases hz : -100000 ≤ ii ∧ ii ≤ 100000 ∧ -100000 ≤ jj ∧ jj ≤ 100000
    · rw [if_pos hz] at hf
      cases hf
      unfold Reps at rd
      obtain ⟨v, r, rfl, a1, a2⟩ := rd
      unfold Reps at a2
      obtain ⟨v2, r2, rfl, a2, a3⟩ := a2
      unfold Rep at a1 a2
      unfold Reps at a3
      subst a1 a2 a3
      exact ⟨ii, jj, rfl, by omega, k _ F H Ex.rfl Ex.rfl e (fun _ _ z => .inl z) wk_rng⟩
    · rw [if_neg hz] at hf; cases hf
/-! #### for -/
def forL (p : Pat) (b : So) : List D → So
  | [], ρ => some (.next, ρ)
  | d :: r, ρ => match asgP p d ρ with
    | none => none
    | some ρ1 => match b ρ1 with
      | none => none
      | some (.next, ρ2) => forL p b r ρ2
      | some (.cont, ρ2) => forL p b r ρ2
      | some (.brk, ρ2) => some (.next, ρ2)
      | some (.ret t, ρ2) => some (.ret t, ρ2)
      | some (.exc x, ρ2) => some (.exc x, ρ2)
def sFor (m : Mo (List D)) (p : Pat) (b : So) : So := toS m fun xs => forL p b xs
theorem snd_for {wi : TI} {m : Mo (List D)} {g : TG} {p : Pat} {tb : TS} (h1 : SndI K W wi m) (h2 : GOk K g p) (h3 : SndS K W tb s) : SndS K W (tFor wi g tb) (sFor m p s) := by
  intro G F H ρ σ us ws D fl ρ' j hl ht hm k
  unfold sFor toS at hm
  cases e : m ρ with
  | none => rw [e] at hm; cases hm
  | some q =>
    obtain ⟨r1, ρ1⟩ := q
    rw [e] at hm
    refine h1 G F H ρ σ us ws _ r1 ρ1 j hl ht e ?_
    cases r1 with
    | exc x => cases hm; exact fun c d F' H' e1 l1 j1 x1 => k c d σ F' H' e1 l1 rfl j1 x1
    | ok xs =>
      intro It F0 H0 e0 l0 w0 j0
      simp only at hm
      refine ⟨fun i m σ' H' => m = xs.length - i ∧ i ≤ xs.length ∧ ∃ F1 ρ1, Ex F0 F1 ∧ ρ1.length = σ.length ∧ σ'.length = σ.length ∧ J K G F1 H' (ρ1 ++ us) (σ' ++ ws) ∧ forL p s (xs.drop i) ρ1 = some (fl, ρ'),
        ⟨xs.length, rfl, Nat.zero_le _, F0, ρ1, Ex.rfl, l0, rfl, j0, hm⟩, ?_⟩
      rintro i m σ' H' ⟨hm1, hi, F1, ρ2, x1, l1, l2, j1, hf⟩
      have wk := w0 F1 H' x1 j1.ex i
      by_cases hlt : i < xs.length
      · right
        obtain ⟨d, hd⟩ : ∃ d, xs[i]? = some d := ⟨xs[i], by simp [hlt]⟩
        obtain ⟨wg, wy⟩ := wk.2 d hd
        refine ⟨wg, fun σ3 H3 => ∃ F3 ρ3, Ex F0 F3 ∧ ρ3.length = σ.length ∧ σ3.length = σ.length ∧ J K G F3 H3 (ρ3 ++ us) (σ3 ++ ws) ∧ forL p s (xs.drop (i + 1)) ρ3 = some (fl, ρ'), fun σ3 H3 q => ⟨xs.length - (i + 1), by omega, rfl, hlt, q⟩, fun x H2 hy => ?_⟩
        obtain ⟨F2, y1, y2, y3, y4, rd⟩ := wy x H2 hy
        have j2 := j1.grow y1 y2 y3 y4
        have hdrop : xs.drop i = d :: xs.drop (i + 1) := by
          rw [List.drop_eq_getElem_cons hlt]
          have : xs[i] = d := by
            have := List.getElem?_eq_some_iff.mp hd
            obtain ⟨_, q⟩ := this
            exact q
          rw [this]
        rw [hdrop] at hf
        unfold forL at hf
        cases ea : asgP p d ρ2 with
        | none => rw [ea] at hf; cases hf
        | some ρ3 =>
          rw [ea] at hf
          simp only at hf
          refine h2 G F2 H2 ρ2 σ' us ws d x ρ3 _ j2 (l1.trans l2.symm) rd ea fun σ4 m1 m2 _ j4 => ?_
          cases eb : s ρ3 with
          | none => rw [eb] at hf; cases hf
          | some q =>
            obtain ⟨f, ρ4⟩ := q
            rw [eb] at hf
            refine h3 G F2 H2 ρ3 σ4 us ws _ f ρ4 j4 (by rw [m2, m1, l1, l2]) ht eb ?_
            have ll : σ4.length = σ.length := m1.trans l2
            rw [ll]
            have xx : Ex F0 F2 := x1.trans y1
            cases f with
            | next => exact fun σ5 F5 H5 e5 n1 n2 j5 => ⟨F5, ρ4, xx.trans e5, n1, n2, j5, hf⟩
            | cont => exact fun σ5 F5 H5 e5 n1 n2 j5 => ⟨F5, ρ4, xx.trans e5, n1, n2, j5, hf⟩
            | brk => cases hf; exact fun σ5 F5 H5 e5 n1 n2 j5 => k σ5 F5 H5 ((e0.trans xx).trans e5) n1 n2 j5
            | ret t => cases hf; exact fun v σ5 F5 H5 e5 n1 n2 j5 => k v σ5 F5 H5 ((e0.trans xx).trans e5) n1 n2 j5
            | exc x => cases hf; exact fun c d σ5 F5 H5 e5 n1 n2 j5 => k c d σ5 F5 H5 ((e0.trans xx).trans e5) n1 n2 j5
      · left
        have hie : i = xs.length := by omega
        subst hie
        rw [List.drop_length] at hf
        unfold forL at hf
        cases hf
        exact ⟨wk.1 (Nat.le_refl _), k σ' F1 H' (e0.trans x1) l1 l2 j1⟩
theorem ss_for {m : Mo (List D)} {p : Pat} (hp : PassesOwn (model X.prog X.w) X.A X.env X.xe) (hc : X.calm = true) (h1 : SI X W tg iter m) (h2 : SG X tg p) (h3 : SSs X W sts s)
    (hs : ∀ x, foldedSetIterable iter X.env x = pure x := by intro _; rfl) : SS X W (.For tg iter sts [] pos) (sFor m p s) := by
  obtain ⟨wi, q1, z1⟩ := h1
  obtain ⟨g, q2, z2⟩ := h2
  obtain ⟨t, q3, z3⟩ := h3
  exact ⟨_, ps_for hp hc q1 q2 q3 hs, snd_for z1 z2 z3⟩
end
end SL

set_option Elab.async false
set_option linter.all false
set_option maxRecDepth 100000
set_option maxHeartbeats 4000000
namespace SL
open PySem L2
abbrev W0 : WX := fun _ _ _ _ => False
/-! ### comprehensions -/
def lcL (p : Pat) (t : Mo Bool) (e : Mo T) : List D → List D → Mo (List D)
  | [], acc, ρ => some (.ok acc, ρ)
  | d :: r, acc, ρ => match asgP p d ρ with
    | none => none
    | some ρ1 => match t ρ1 with
      | some (.ok true, ρ2) => (match e ρ2 with
        | some (.ok v, ρ3) => if v.brw = true then none else if acc.length < 100000 then lcL p t e r (acc ++ [v.fz]) (wip ρ3 (slotsP p)) else none
        | _ => none)
      | some (.ok false, ρ2) => lcL p t e r acc (wip ρ2 (slotsP p))
      | _ => none
def eLc (m : Mo (List D)) (p : Pat) (t : Mo Bool) (e : Mo T) : Mo T := fun ρ => match m ρ with
  | none => none
  | some (.exc x, ρ') => some (.exc x, ρ')
  | some (.ok xs, ρ') => match lcL p t e xs [] (wip ρ' (slotsP p)) with
    | some (.ok acc, ρ'') => some (.ok (.lst false acc), ρ'')
    | _ => none
section
variable {X : Cx} {W : WX} {tg iter a c e : Expr} {es : List Expr} {ma mb mc : Mo T} {pos : Pos} {st : Stmt} {rest sts : List Stmt} {s u : So} {na : Mo Bool} {K : PySem.W.Frag} {n : Mo (List T)}
theorem wipe_app {ρ us : Sl} {σ ws : St} {sp : List Nat} {G : Gm} {F H : Hp} (j : J K G F H (ρ ++ us) (σ ++ ws)) (hl : ρ.length = σ.length) {τ : St} (hτ : τ.length = σ.length) (ha : ∀ k, k ∉ sp → τ[k]? = σ[k]?) : J K G F H (wip ρ sp ++ us) (τ ++ ws) := by
  have j1 : J K G F H (wip ρ sp ++ us) (σ ++ ws) := j.cgL (by simp [wip_len]) fun k t e => (wip_app e).1
  refine j1.cgM (by simp [hτ]) fun k t e => ?_
  by_cases hk : k < σ.length
  · rw [List.getElem?_append_left (by rw [hτ]; exact hk), List.getElem?_append_left hk]
    exact ha k ((wip_app e).2 (by rw [hl]; exact hk))
  · rw [List.getElem?_append_right (by rw [hτ]; omega), List.getElem?_append_right (by omega), hτ]
theorem snd_lc {wi : TI} {m : Mo (List D)} {g : TG} {p : Pat} {tt : TT} {te : TE} (h1 : SndI K W wi m) (h2 : GOk K g p) (h3 : SndT K W0 tt na) (h4 : SndE K W0 te ma) : SndE K W (tLc wi g tt te (slotsP p)) (eLc m p na ma) := by
  intro G F H ρ σ us ws Q r ρ' j hl ht hm k
  simp only [List.append_nil] at j
  unfold eLc at hm
  cases e : m ρ with
  | none => rw [e] at hm; cases hm
  | some q =>
    obtain ⟨r1, ρ1⟩ := q
    rw [e] at hm
    refine h1 G F H ρ σ us ws _ r1 ρ1 j hl ht e ?_
    cases r1 with
    | exc x => cases hm; exact fun c d F' H' e1 l1 j1 x1 => k c d F' H' e1 l1 j1 x1
    | ok xs =>
      intro It F0 H0 e0 l0 w0 j0
      simp only at hm
      generalize hsp : slotsP p = sp at hm ⊢
      have hfin : ∃ accF, lcL p na ma xs [] (wip ρ1 sp) = some (.ok accF, ρ') ∧ r = .ok (.lst false accF) := by
        cases eL : lcL p na ma xs [] (wip ρ1 sp) with
        | none => rw [eL] at hm; cases hm
        | some q =>
          obtain ⟨r2, ρ2⟩ := q
          rw [eL] at hm
          cases r2 with
          | ok a => cases hm; exact ⟨a, rfl, rfl⟩
          | exc x => cases hm
      obtain ⟨accF, hL, rfl⟩ := hfin
      clear hm
      intro Dl hD
      have jD : J K G F0 (upd H0 Dl (.lst [])) (ρ1 ++ (us ++ [some (.lst false [])])) (σ ++ (ws ++ [some (.ref Dl)])) := by
        rw [← List.append_assoc, ← List.append_assoc]
        exact j0.push hD rfl rfl ⟨Dl, [], rfl, j0.ex.back hD, upd_same, reps_nil⟩
      have wl : (wipe σ sp).length = σ.length := wipe_length σ sp
      refine ⟨fun i mm H' => mm = xs.length - i ∧ i ≤ xs.length ∧ ∃ F1 ρ2 acc, Ex F0 F1 ∧ ρ2.length = σ.length ∧ (∀ (k : Nat) (t : T), ρ2[k]? = some (some t) → k ∉ sp) ∧ J K G F1 H' (ρ2 ++ (us ++ [some (.lst false acc)])) (wipe σ sp ++ (ws ++ [some (.ref Dl)])) ∧ lcL p na ma (xs.drop i) acc ρ2 = some (.ok accF, ρ'),
        ⟨xs.length, rfl, Nat.zero_le _, F0, wip ρ1 sp, [], Ex.rfl, by rw [wip_len]; exact l0, fun k t e => (wip_get e).2, wipe_app jD l0 wl (fun k hk => wipe_get hk), hL⟩, ?_⟩
      rintro i mm H' ⟨hm1, hi, F1, ρ2, acc, x1, l1, hno, j1, hf⟩
      have wk := w0 F1 H' x1 j1.ex i
      by_cases hlt : i < xs.length
      · right
        obtain ⟨d, hd⟩ : ∃ d, xs[i]? = some d := ⟨xs[i], by simp [hlt]⟩
        obtain ⟨wg, wy⟩ := wk.2 d hd
        refine ⟨wg, fun H3 => ∃ F3 ρ3 acc3, Ex F0 F3 ∧ ρ3.length = σ.length ∧ (∀ (k : Nat) (t : T), ρ3[k]? = some (some t) → k ∉ sp) ∧ J K G F3 H3 (ρ3 ++ (us ++ [some (.lst false acc3)])) (wipe σ sp ++ (ws ++ [some (.ref Dl)])) ∧ lcL p na ma (xs.drop (i + 1)) acc3 ρ3 = some (.ok accF, ρ'),
          fun H3 q => ⟨xs.length - (i + 1), by omega, rfl, hlt, q⟩, fun x H2 hy => ?_⟩
        obtain ⟨F2, y1, y2, y3, y4, rd⟩ := wy x H2 hy
        have j2 := j1.grow y1 y2 y3 y4
        have hdrop : xs.drop i = d :: xs.drop (i + 1) := by
          rw [List.drop_eq_getElem_cons hlt]
          have : xs[i] = d := by
            have := List.getElem?_eq_some_iff.mp hd
            obtain ⟨_, q⟩ := this
            exact q
          rw [this]
        rw [hdrop] at hf
        unfold lcL at hf
        cases ea : asgP p d ρ2 with
        | none => rw [ea] at hf; cases hf
        | some ρ3 =>
          rw [ea] at hf
          simp only at hf
          refine h2 G F2 H2 ρ2 (wipe σ sp) _ _ d x ρ3 _ j2 (by rw [l1, wl]) rd ea fun σ4 m1 m2 o4 j4 => ?_
          rw [hsp] at o4
          have w4 : wipe σ4 sp = wipe σ sp := by
            refine wipe_eq (m1.trans wl) fun k hk => ?_
            rw [o4 k hk, wipe_get hk]
          have back : ∀ {k : Nat}, k ∉ sp → (wipe σ sp)[k]? = σ4[k]? := fun {k} hk => (o4 k hk).symm
          refine ⟨w4, ?_⟩
          have l4 : ρ3.length = σ4.length := by rw [m2, m1, l1, wl]
          have l5 : σ4.length = σ.length := m1.trans wl
          have xx : Ex F0 F2 := x1.trans y1
          cases et : na ρ3 with
          | none => rw [et] at hf; cases hf
          | some q =>
            obtain ⟨rt, ρ4⟩ := q
            rw [et] at hf
            cases rt with
            | exc x => cases hf
            | ok b =>
              refine h3 G F2 H2 ρ3 σ4 _ _ _ (.ok b) ρ4 (by simpa using j4) l4 (by simp [ht]) et fun b' F5 H5 e5 n5 hb j5 => ?_
              subst hb
              simp only [List.append_nil] at j5
              cases b' with
              | false =>
                rw [if_neg Bool.false_ne_true]
                simp only at hf
                rw [hsp] at hf
                exact ⟨F5, wip ρ4 sp, acc, xx.trans e5, by rw [wip_len, n5, l5], fun k t e => (wip_get e).2, wipe_app j5 n5 (by rw [wl, l5]) (fun k hk => back hk), hf⟩
              | true =>
                rw [if_pos rfl]
                simp only at hf
                cases ee : ma ρ4 with
                | none => rw [ee] at hf; cases hf
                | some q =>
                  obtain ⟨rv, ρ5⟩ := q
                  rw [ee] at hf
                  cases rv with
                  | exc x => cases hf
                  | ok v =>
                    simp only at hf
                    by_cases hb : v.brw = true
                    · rw [if_pos hb] at hf; cases hf
                    · rw [if_neg hb] at hf
                      by_cases hz : acc.length < 100000
                      · rw [if_pos hz] at hf
                        rw [hsp] at hf
                        refine h4 G F5 H5 ρ4 σ4 _ _ _ (.ok v) ρ5 (by simpa using j5) n5 (by simp [ht]) ee fun y F6 H6 e6 n6 _ j6 => ?_
                        have hlen : (us ++ [some (T.lst false acc)]).length = (ws ++ [some (V.ref Dl)]).length := by simp [ht]
                        obtain ⟨F7, x7, j7, rd7⟩ := j6.fzLast n6 hlen (by simpa using hb)
                        have j8 := app_pre j7 n6 hlen
                        -- the list's place
                        have eidx : (ρ5 ++ (us ++ [some (T.lst false acc)]))[(ρ5 ++ us).length]? = some (some (.lst false acc)) := by
                          rw [← List.append_assoc]; simp
                        have midx : (σ4 ++ (ws ++ [some (V.ref Dl)]))[(ρ5 ++ us).length]? = some (some (.ref Dl)) := by
                          rw [← List.append_assoc]
                          have : (ρ5 ++ us).length = (σ4 ++ ws).length := by simp [n6, ht]
                          rw [this]; simp
                        obtain ⟨v8, m8, hold8, _⟩ := j8.ok _ _ eidx
                        rw [midx] at m8; cases m8
                        obtain ⟨aa, vs8, q1, q2, q3, q4⟩ := hold8
                        cases q1
                        refine ⟨vs8, q3, by rw [q4.len]; exact lt_line hz, ?_⟩
                        have j9 := j8.mut (t' := .lst false (acc ++ [v.fz])) (o := .lst (vs8 ++ [y])) eidx rfl rfl rfl midx ⟨Dl, _, rfl, q2, upd_same, Reps.app q4 (reps_cons rd7 reps_nil)⟩
                        have eset : (ρ5 ++ (us ++ [some (T.lst false acc)])).set (ρ5 ++ us).length (some (.lst false (acc ++ [v.fz]))) = ρ5 ++ (us ++ [some (.lst false (acc ++ [v.fz]))]) := by
                          rw [← List.append_assoc, ← List.append_assoc]; simp
                        rw [eset] at j9
                        exact ⟨F7, wip ρ5 sp, acc ++ [v.fz], ((xx.trans e5).trans e6).trans x7, by rw [wip_len, n6, l5], fun k t e => (wip_get e).2, wipe_app j9 n6 (by rw [wl, l5]) (fun k hk => back hk), hf⟩
                      · rw [if_neg hz] at hf; cases hf
      · left
        have hie : i = xs.length := by omega
        subst hie
        rw [List.drop_length] at hf
        unfold lcL at hf
        cases hf
        refine ⟨wk.1 (Nat.le_refl _), k (.ref Dl) F1 H' (e0.trans x1) l1 trivial ?_⟩
        refine j1.cgM (by simp [wl]) fun kk t e => ?_
        by_cases hk : kk < σ.length
        · rw [List.getElem?_append_left hk, List.getElem?_append_left (by rw [wl]; exact hk)]
          rw [List.getElem?_append_left (by rw [l1]; exact hk)] at e
          exact (wipe_get (hno kk t e)).symm
        · have h1 : σ.length ≤ kk := Nat.le_of_not_lt hk
          have h2 : (wipe σ sp).length ≤ kk := by rw [wl]; exact h1
          rw [List.getElem?_append_right (l₁ := σ) h1, List.getElem?_append_right (l₁ := wipe σ sp) h2, wl]
/-! one reading for a family of contexts -/
theorem fam_E {I : Type} {Y : I → Cx} {K : PySem.W.Frag} (hK : ∀ i, (Y i).K = K) (h : ∀ i, SE (Y i) W e ma) : ∃ te, (∀ i, PE (Y i) e te) ∧ SndE K W te ma := by
  refine ⟨fun σ H Q => ∀ i, ∃ t, PE (Y i) e t ∧ t σ H Q, fun i => ⟨fun pins s σ H Q I hq => ?_⟩, ?_⟩
  · obtain ⟨t, p, q⟩ := hq i
    exact p.run pins s σ H Q I q
  · intro G F H ρ σ us ws Q r ρ' j hl ht hm k i
    obtain ⟨t, p, z⟩ := h i
    rw [hK i] at z
    exact ⟨t, p, z G F H ρ σ us ws Q r ρ' j hl ht hm k⟩
theorem fam_T {I : Type} {Y : I → Cx} {K : PySem.W.Frag} (hK : ∀ i, (Y i).K = K) (h : ∀ i, SC (Y i) W e na) : ∃ te, (∀ i, PT (Y i) e te) ∧ SndT K W te na := by
  refine ⟨fun σ H Q => ∀ i, ∃ t, PT (Y i) e t ∧ t σ H Q, fun i => ⟨fun pins s σ H Q I hq => ?_⟩, ?_⟩
  · obtain ⟨t, p, q⟩ := hq i
    exact p.run pins s σ H Q I q
  · intro G F H ρ σ us ws Q r ρ' j hl ht hm k i
    obtain ⟨t, p, z⟩ := h i
    rw [hK i] at z
    exact ⟨t, p, z G F H ρ σ us ws Q r ρ' j hl ht hm k⟩
theorem fam_G {I : Type} {Y : I → Cx} {K : PySem.W.Frag} {p : Pat} (hK : ∀ i, (Y i).K = K) (h : ∀ i, SG (Y i) tg p) : ∃ g, (∀ i, PG (Y i) tg g) ∧ GOk K g p := by
  refine ⟨fun v σ H Q => ∀ i, ∃ t, PG (Y i) tg t ∧ t v σ H Q, fun i => ⟨fun pins s σ H v u Q I r hq => ?_⟩, ?_⟩
  · obtain ⟨t, q, z⟩ := hq i
    exact q.run pins s σ H v u Q I r z
  · intro G F H ρ σ us ws d v ρ' Q j hl r hm k i
    obtain ⟨t, q, z⟩ := h i
    rw [hK i] at z
    exact ⟨t, q, z G F H ρ σ us ws d v ρ' Q j hl r hm k⟩
abbrev BI := Shared × Hp × Addr × List (Str × Addr) × List Addr
abbrev blkX (X : Cx) (scope : Scope) (i : BI) : Cx := X.blk i.1 i.2.1 scope (compEnvC scope i.2.2.2.1 i.2.2.1 X.env) i.2.2.2.2
theorem se_lc {m : Mo (List D)} {p : Pat} {scope : Scope} {own : List (Str × Nat)} (hc : X.calm = true) (hN : X.N.Nodup) (hi : SI X W tg iter m) (ok : BlkOk X.N X.env.scope scope own) (hv : slotsP p = own.map (·.2))
    (hg : ∀ i : BI, SG (blkX X scope i) tg p) (he : ∀ i : BI, SE (blkX X scope i) W0 e ma) (hs : ∀ x, foldedSetIterable iter X.env x = pure x := by intro _; rfl) :
    SE X W (.ListComp e [⟨tg, iter, [], 0⟩] scope pos) (eLc m p (ret true) ma) := by
  obtain ⟨wi, q1, z1⟩ := hi
  obtain ⟨g, q2, z2⟩ := fam_G (Y := blkX X scope) (K := X.K) (fun _ => rfl) hg
  obtain ⟨te, q3, z3⟩ := fam_E (Y := blkX X scope) (K := X.K) (fun _ => rfl) he
  refine ⟨_, pe_lc hc hN q1 ok (fun s H C cl fp => q2 (s, H, C, cl, fp)) (fun s H C cl fp => pts_nil) (fun s H C cl fp => q3 (s, H, C, cl, fp)) hs, ?_⟩
  rw [← hv]
  exact snd_lc z1 z2 (snd_retB (b := true)) z3
theorem se_lcIf {m : Mo (List D)} {p : Pat} {scope : Scope} {own : List (Str × Nat)} (hc : X.calm = true) (hN : X.N.Nodup) (hi : SI X W tg iter m) (ok : BlkOk X.N X.env.scope scope own) (hv : slotsP p = own.map (·.2))
    (hg : ∀ i : BI, SG (blkX X scope i) tg p) (ht : ∀ i : BI, SC (blkX X scope i) W0 c na) (he : ∀ i : BI, SE (blkX X scope i) W0 e ma) (hs : ∀ x, foldedSetIterable iter X.env x = pure x := by intro _; rfl) :
    SE X W (.ListComp e [⟨tg, iter, [c], 0⟩] scope pos) (eLc m p na ma) := by
  obtain ⟨wi, q1, z1⟩ := hi
  obtain ⟨g, q2, z2⟩ := fam_G (Y := blkX X scope) (K := X.K) (fun _ => rfl) hg
  obtain ⟨te, q3, z3⟩ := fam_E (Y := blkX X scope) (K := X.K) (fun _ => rfl) he
  obtain ⟨tt, q4, z4⟩ := fam_T (Y := blkX X scope) (K := X.K) (fun _ => rfl) ht
  refine ⟨_, pe_lc hc hN q1 ok (fun s H C cl fp => q2 (s, H, C, cl, fp)) (fun s H C cl fp => pts_one (q4 (s, H, C, cl, fp))) (fun s H C cl fp => q3 (s, H, C, cl, fp)) hs, ?_⟩
  rw [← hv]
  exact snd_lc z1 z2 z4 z3
/-- name = [..] on one line -/
theorem ss_setLc {i : Nat} {y : Str} {py spos : Pos} {m : Mo (List D)} {p : Pat} {scope : Scope} {own : List (Str × Nat)} (hc : X.calm = true) (hN : X.N.Nodup) (hy : X.N[i]? = some y) (hyl : X.env.scope.names.lookup y = some .local)
    (hsw : swapsWith (.ListComp e [⟨tg, iter, [], 0⟩] scope pos) (some (.Name y py)) spos.line X.env = pure true) (hi : SI X W tg iter m) (ok : BlkOk X.N X.env.scope scope own) (hv : slotsP p = own.map (·.2))
    (hg : ∀ i : BI, SG (blkX X scope i) tg p) (he : ∀ i : BI, SE (blkX X scope i) W0 e ma) (hs : ∀ x, foldedSetIterable iter X.env x = pure x := by intro _; rfl) :
    SS X W (.Assign [.Name y py] (.ListComp e [⟨tg, iter, [], 0⟩] scope pos) spos) (sAsg i (eLc m p (ret true) ma)) := by
  obtain ⟨wi, q1, z1⟩ := hi
  obtain ⟨g, q2, z2⟩ := fam_G (Y := blkX X scope) (K := X.K) (fun _ => rfl) hg
  obtain ⟨te, q3, z3⟩ := fam_E (Y := blkX X scope) (K := X.K) (fun _ => rfl) he
  refine ⟨_, ps_setLc hc hN hy hyl hsw q1 ok (fun s H C cl fp => q2 (s, H, C, cl, fp)) (fun s H C cl fp => pts_nil) (fun s H C cl fp => q3 (s, H, C, cl, fp)) hs, ?_⟩
  rw [← hv]
  refine (snd_lc z1 z2 (snd_retB (b := true)) z3).toS (tk := fun b D σ H => D.nx (σ.set i (some b)) H) fun a b _ G F H ρ σ us ws D fl ρ' j hl ht hm k => ?_
  by_cases hi : i < ρ.length
  · simp only [if_pos hi] at hm
    cases hm
    refine k _ F H Ex.rfl (by simpa using hl) (by simp) ?_
    rw [← List.append_assoc, ← List.append_assoc] at j
    have j2 := j.take (i := i) (by simp [hl, ht])
    rw [List.set_append_left _ _ hi, List.set_append_left _ _ (by rw [← hl]; exact hi)] at j2
    exact j2
  · simp only [if_neg hi] at hm
    cases hm
theorem ss_setLcIf {i : Nat} {y : Str} {py spos : Pos} {m : Mo (List D)} {p : Pat} {scope : Scope} {own : List (Str × Nat)} (hc : X.calm = true) (hN : X.N.Nodup) (hy : X.N[i]? = some y) (hyl : X.env.scope.names.lookup y = some .local)
    (hsw : swapsWith (.ListComp e [⟨tg, iter, [c], 0⟩] scope pos) (some (.Name y py)) spos.line X.env = pure true) (hi : SI X W tg iter m) (ok : BlkOk X.N X.env.scope scope own) (hv : slotsP p = own.map (·.2))
    (hg : ∀ i : BI, SG (blkX X scope i) tg p) (ht : ∀ i : BI, SC (blkX X scope i) W0 c na) (he : ∀ i : BI, SE (blkX X scope i) W0 e ma) (hs : ∀ x, foldedSetIterable iter X.env x = pure x := by intro _; rfl) :
    SS X W (.Assign [.Name y py] (.ListComp e [⟨tg, iter, [c], 0⟩] scope pos) spos) (sAsg i (eLc m p na ma)) := by
  obtain ⟨wi, q1, z1⟩ := hi
  obtain ⟨g, q2, z2⟩ := fam_G (Y := blkX X scope) (K := X.K) (fun _ => rfl) hg
  obtain ⟨te, q3, z3⟩ := fam_E (Y := blkX X scope) (K := X.K) (fun _ => rfl) he
  obtain ⟨tt, q4, z4⟩ := fam_T (Y := blkX X scope) (K := X.K) (fun _ => rfl) ht
  refine ⟨_, ps_setLc hc hN hy hyl hsw q1 ok (fun s H C cl fp => q2 (s, H, C, cl, fp)) (fun s H C cl fp => pts_one (q4 (s, H, C, cl, fp))) (fun s H C cl fp => q3 (s, H, C, cl, fp)) hs, ?_⟩
  rw [← hv]
  refine (snd_lc z1 z2 z4 z3).toS (tk := fun b D σ H => D.nx (σ.set i (some b)) H) fun a b _ G F H ρ σ us ws D fl ρ' j hl ht hm k => ?_
  by_cases hi : i < ρ.length
  · simp only [if_pos hi] at hm
    cases hm
    refine k _ F H Ex.rfl (by simpa using hl) (by simp) ?_
    rw [← List.append_assoc, ← List.append_assoc] at j
    have j2 := j.take (i := i) (by simp [hl, ht])
    rw [List.set_append_left _ _ hi, List.set_append_left _ _ (by rw [← hl]; exact hi)] at j2
    exact j2
  · simp only [if_neg hi] at hm
    cases hm
end
end SL

set_option Elab.async false
set_option linter.all false
set_option maxRecDepth 100000
set_option maxHeartbeats 4000000
namespace SL
open PySem L2
/-! ### defs over data -/
abbrev FnD := List D → Option (Rs T)
def RetOk (K : PySem.W.Frag) (F H : Hp) (Q : VK) (E : XK) : Rs T → Prop
  | .ok t => t.brw = false ∧ ∀ v F' H', Ex F F' → Ex H H' → Ex F' H' → (∀ a o, F' a = some o → F a = some o ∨ H a = none) → Hold K F' H' t v → (t.own = true → ∀ a, v = .ref a → H a = none) → Q v H'
  | .exc x => ∀ c dd F' H', Ex F F' → Ex H H' → Ex F' H' → (∀ a o, F' a = some o → F a = some o ∨ H a = none) → ExcR K F' x c dd → E c dd H'
def spD (K : PySem.W.Frag) (a : Nat) (f : FnD) : Sp := fun vs H Q E => ∃ F ds r, Ex F H ∧ Reps K F ds vs ∧ ds.length = a ∧ f ds = some r ∧ RetOk K F H Q E r
def callM (a : Nat) (f : FnD) (dds : List D) (ts : List T) : Mo T := match frzs ts with
  | none => nop
  | some ds => if (ds ++ dds).length = a then (match f (ds ++ dds) with
    | none => nop
    | some (.ok t) => if t.brw = true then nop else ret t
    | some (.exc x) => fun ρ => some (.exc x, ρ)) else nop
section
variable {X : Cx} {W : WX} {a c e : Expr} {es : List Expr} {ma mb mc : Mo T} {pos : Pos} {K : PySem.W.Frag} {n : Mo (List T)}
theorem J.ret {G : Gm} {F H F' H' : Hp} {L : Sl} {M : St} {t : T} {v : V} (j : J K G F H L M) (ef : Ex F F') (eh : Ex H H') (ex : Ex F' H') (fr : ∀ a o, F' a = some o → F a = some o ∨ H a = none) (hold : Hold K F' H' t v) (hb : t.brw = false)
    (hn : t.own = true → ∀ a, v = .ref a → H a = none) : J K G F' H' (L ++ [some t]) (M ++ [some v]) := by
  by_cases ho : t.own = true
  · obtain ⟨p, u, ea, fa, ha⟩ := hold.adr ho
    subst ea
    have hp := hn ho p rfl
    have jg : J K G F' (fun b => if b = p then none else H' b) L M := by
      refine j.grow ef (fun b o hbo => ?_) (fun b o hbo => ?_) fr
      · have hbx : b ≠ p := by rintro rfl; rw [hp] at hbo; cases hbo
        show (if b = p then none else H' b) = some o
        rw [if_neg hbx]; exact eh b o hbo
      · have hbx : b ≠ p := by rintro rfl; rw [fa] at hbo; cases hbo
        show (if b = p then none else H' b) = some o
        rw [if_neg hbx]; exact ex b o hbo
    have hH : upd (fun b => if b = p then none else H' b) p u = H' := by
      funext b
      by_cases hbx : b = p
      · subst hbx; rw [upd_same, ha]
      · rw [upd_ne hbx]; simp [hbx]
    have := jg.push (p := p) (o := u) (t := t) (by simp) ho hb (by rw [hH]; exact hold)
    rw [hH] at this
    exact this
  · cases t with
    | dat d => exact (j.grow ef eh ex fr).dat hold
    | lst _ _ => exact absurd rfl ho
    | ins _ _ _ _ => exact absurd rfl ho
theorem snd_callM {k : Nat} {f : FnD} {dds : List D} {dvs : List V} (hd : ∀ F, Reps K F dds dvs) (ts : List T) (vs : List V) :
    SndX K W (ts.map some) (vs.map some) plT pmT (fun _ _ => True) (fun σ H Q => spD K k f (vs ++ dvs) H Q (WE W σ)) (callM k f dds ts) := by
  intro G F H ρ σ us ws Q r ρ' j hl ht hm kk
  unfold callM at hm
  cases hf : frzs ts with
  | none => rw [hf] at hm; cases hm
  | some ds =>
    rw [hf] at hm
    simp only at hm
    by_cases ha : (ds ++ dds).length = k
    · rw [if_pos ha] at hm
      unfold frzs at hf
      by_cases hb : ts.any T.brw = true
      · rw [if_pos hb] at hf; cases hf
      · rw [if_neg hb] at hf
        cases hf
        rw [← List.append_assoc, ← List.append_assoc] at j
        obtain ⟨F1, x1, j1, r1⟩ := j.freezes (by simp [hl, ht]) (by simpa using hb)
        have j2 := j1.pre (by simp [hl, ht])
        cases hq : f (ts.map T.fz ++ dds) with
        | none => rw [hq] at hm; cases hm
        | some o =>
          rw [hq] at hm
          refine ⟨F1, _, o, j2.ex, r1.app (hd F1), ha, hq, ?_⟩
          cases o with
          | ok t =>
            simp only at hm
            by_cases hb2 : t.brw = true
            · rw [if_pos hb2] at hm; cases hm
            · rw [if_neg hb2] at hm
              cases hm
              refine ⟨by simpa using hb2, fun v F' H' e1 e2 e3 e4 rd hn => ?_⟩
              exact kk v F' H' (x1.trans e1) hl trivial (by rw [← List.append_assoc, ← List.append_assoc]; exact j2.ret e1 e2 e3 e4 rd (by simpa using hb2) hn)
          | exc x =>
            cases hm
            intro c dd F' H' e1 e2 e3 e4 rx
            exact kk c dd F' H' (x1.trans e1) hl (j2.grow e1 e2 e3 e4) rx
    · rw [if_neg ha] at hm; cases hm
/-- no exception comes -/
def noX (m : Mo T) : Mo T := fun ρ => match m ρ with
  | some (.ok t, ρ') => some (.ok t, ρ')
  | _ => none
theorem snd_callM0 {k : Nat} {f : FnD} {dds : List D} {dvs : List V} (hd : ∀ F, Reps K F dds dvs) (ts : List T) (vs : List V) :
    SndX K W (ts.map some) (vs.map some) plT pmT (fun _ _ => True) (fun σ H Q => spD K k f (vs ++ dvs) H Q E0) (noX (callM k f dds ts)) := by
  intro G F H ρ σ us ws Q r ρ' j hl ht hm kk
  unfold noX at hm
  cases e : callM k f dds ts ρ with
  | none => rw [e] at hm; cases hm
  | some q =>
    obtain ⟨r1, ρ1⟩ := q
    rw [e] at hm
    cases r1 with
    | exc x => cases hm
    | ok t =>
      cases hm
      exact snd_callM (W := W0) hd ts vs G F H ρ σ us ws Q _ ρ' j hl ht e kk
/-- a def over data that stands behind a module's name -/
structure DefOk (P : Program) (w : World) (K : PySem.W.Frag) (mg : Str → Option Value) (base : Heap) (k : Nat) (x : Str) (a : Nat) (dds : List D) (f : FnD) : Prop where
  ex : ∃ fa fd ps dvs ds, FnOk P w K mg base (L2.CX P w) k fa fd ps (spD K a f) ∧ mg x = some (.ref fa) ∧ PySem.W.keepIn K (.ref fa) = true ∧ Binds K fd ps ds ∧ Vals dvs ds ∧ ∀ F, Reps K F dds dvs
def eCall (a : Nat) (f : FnD) (dds : List D) (n : Mo (List T)) : Mo T := bnd n (callM a f dds)
def eCall0 (a : Nat) (f : FnD) (dds : List D) (n : Mo (List T)) : Mo T := bnd n fun ts => noX (callM a f dds ts)
theorem pass00 {σ : St} : PassesAt (L2.CX X.prog X.w) X σ (WE W0 σ) := fun _ _ _ _ _ _ h => by
  obtain ⟨_, _, _, _, _, _, _, _, _, _, _, _, z⟩ := h
  exact z.elim
theorem se_call {k : Nat} {x : Str} {p : Pos} {ar : Nat} {dds : List D} {f : FnD} (h : DefOk X.prog X.w X.K X.mg X.base k x ar dds f) (hr : Room k X.A) (hx : ∀ σ, PassesAt (L2.CX X.prog X.w) X σ (WE W σ)) (g : SA X W (e :: es) n) (hg : Gl X x := by rfl)
    (hdb : (x == ("__debug__" : Str)) = false := by decide) (he : starEach (e :: es) X.env = (false, eval e X.env) :: starEach es X.env := by rfl) (hpl : (backTo pos (starEach es X.env)).any (·.1) = false := by rfl) :
    SE X W (.Call (.Name x p) (e :: es) [] pos) (eCall ar f dds n) := by
  obtain ⟨fa, fd, ps, dvs, ds, F, hm, kp, hb, hd, hr2⟩ := h.ex
  obtain ⟨ta, q, z⟩ := g
  exact ⟨_, pe_callSD F hr hg hm kp hb hd hx q hdb he hpl, SndX.bnd (t2 := fun vs σ H Q => spD X.K ar f (vs ++ dvs) H Q (WE W σ)) rfl z fun us xs _ => snd_callM hr2 us xs⟩
theorem se_call0 {k : Nat} {x : Str} {p : Pos} {ar : Nat} {dds : List D} {f : FnD} (h : DefOk X.prog X.w X.K X.mg X.base k x ar dds f) (hr : Room k X.A) (g : SA X W (e :: es) n) (hg : Gl X x := by rfl)
    (hdb : (x == ("__debug__" : Str)) = false := by decide) (he : starEach (e :: es) X.env = (false, eval e X.env) :: starEach es X.env := by rfl) (hpl : (backTo pos (starEach es X.env)).any (·.1) = false := by rfl) :
    SE X W (.Call (.Name x p) (e :: es) [] pos) (eCall0 ar f dds n) := by
  obtain ⟨fa, fd, ps, dvs, ds, F, hm, kp, hb, hd, hr2⟩ := h.ex
  obtain ⟨ta, q, z⟩ := g
  exact ⟨_, pe_callSD F hr hg hm kp hb hd (E := fun _ => E0) (fun σ => pass00) q hdb he hpl, SndX.bnd (t2 := fun vs σ H Q => spD X.K ar f (vs ++ dvs) H Q E0) rfl z fun us xs _ => snd_callM0 hr2 us xs⟩

/-! ### instances -/
def idxOf (f : Str) : List Str → List D → Option D
  | g :: ns, d :: ds => if g = f then some d else idxOf f ns ds
  | _, _ => none
theorem idx_rep {K : PySem.W.Frag} {F : Hp} {f : Str} : ∀ {ns : List Str} {ds : List D} {vs : List V} {d : D}, idxOf f ns ds = some d → Reps K F ds vs → ∃ v, (ns.zip vs).lookup f = some v ∧ Rep K F d v
  | [], ds, vs, d, h, r => by unfold idxOf at h; cases h
  | g :: ns, [], vs, d, h, r => by unfold idxOf at h; cases h
  | g :: ns, x :: ds, vs, d, h, r => by
    unfold Reps at r
    obtain ⟨v, vr, rfl, r1, r2⟩ := r
    unfold idxOf at h
    by_cases e : g = f
    · rw [if_pos e] at h
      cases h
      exact ⟨v, by subst e; simp [List.lookup], r1⟩
    · rw [if_neg e] at h
      obtain ⟨u, hu, ru⟩ := idx_rep h r2
      refine ⟨u, ?_, ru⟩
      have : (f == g) = false := beq_eq_false_iff_ne.mpr (Ne.symm e)
      simp only [List.zip_cons_cons, List.lookup, this]
      exact hu
theorem zip_none {f : Str} : ∀ {ns : List Str} {vs : List V}, ns.contains f = false → (ns.zip vs).lookup f = none
  | [], _, _ => rfl
  | g :: ns, [], _ => rfl
  | g :: ns, v :: vs, h => by
    simp only [List.contains_cons, Bool.or_eq_false_iff] at h
    simp only [List.zip_cons_cons, List.lookup, h.1]
    exact zip_none h.2
/-- the classes whose attributes are read as they stand -/
structure FldOk (K : PySem.W.Frag) (cs : List Str) (f : Str) : Prop where
  ok : ∀ C ∈ cs, Cls K (He.ga K C) ∧ NoAttr K (He.ga K C) f
def fldM (cs : List Str) (f : Str) : List D → Option Out := one fun d => match d with
  | .obj C ns fs => if cs.contains C = true then (idxOf f ns fs).map .dt else none
  | _ => none
def eFld (cs : List Str) (f : Str) (m : Mo T) : Mo T := bnd m fun t => opM (fldM cs f) [t]
theorem se_fld {cs : List Str} {f : Str} (h : FldOk X.K cs f) (he : SE X W e ma) (hb : attributeBase e f X.env (eval e X.env) = eval e X.env := by rfl) : SE X W (.Attribute e f pos) (eFld cs f ma) := by
  obtain ⟨te, p, z⟩ := he
  refine ⟨_, pe_fld p hb, SndX.bnd (t2 := fun x σ H Q => ∃ a C dx fs v, x = .ref a ∧ H a = some (.ins C dx fs) ∧ Cls X.K C ∧ NoAttr X.K C f ∧ fs.lookup f = some v ∧ Q v H) rfl z fun t x _ => ?_⟩
  refine snd_out (f := fldM cs f) [t] [x] fun F H σ Q ds o e rd hf q => ?_
  obtain ⟨d, rfl, r1⟩ := reps1 rd
  unfold fldM one at hf
  cases d with
  | obj C ns fs =>
    simp only at hf
    by_cases hc : cs.contains C = true
    · rw [if_pos hc] at hf
      cases hi : idxOf f ns fs with
      | none => rw [hi] at hf; cases hf
      | some y =>
        rw [hi] at hf
        cases hf
        unfold Rep at r1
        obtain ⟨aa, dx, vs, rfl, h1, h2, h3⟩ := r1
        obtain ⟨v, hv, rv⟩ := idx_rep hi h3
        obtain ⟨c1, c2⟩ := h.ok C (by simpa using hc)
        exact ⟨aa, _, dx, _, v, rfl, e _ _ h1, c1, c2, hv, q.val e rv⟩
    · rw [if_neg hc] at hf; cases hf
  | _ => cases hf
/-- an instance of the class C whose attributes do not hide the name m -/
def chk (C m : Str) (t : T) : Mo T := if t.brw = true then nop else match t.fz with
  | .obj C' ns fs => if C' = C ∧ ns.contains m = false then ret (.dat (.obj C' ns fs)) else nop
  | _ => nop
theorem snd_chk {C m : Str} {t : T} {x : V} : SndX K W [some t] [some x] plT pmT (fun t v => v = x) (fun σ H Q => ∃ a dx fs, x = .ref a ∧ H a = some (.ins (He.ga K C) dx fs) ∧ fs.lookup m = none ∧ Q x H) (chk C m t) := by
  intro G F H ρ σ us ws Q r ρ' j hl ht hm k
  unfold chk at hm
  by_cases hb : t.brw = true
  · rw [if_pos hb] at hm; cases hm
  · rw [if_neg hb] at hm
    obtain ⟨F1, x1, j1, rd⟩ := j.fzLast hl ht (by simpa using hb)
    cases hf : t.fz with
    | obj C' ns fs =>
      rw [hf] at hm rd j1
      simp only at hm
      by_cases hc : C' = C ∧ ns.contains m = false
      · rw [if_pos hc] at hm
        cases hm
        obtain ⟨rfl, h2⟩ := hc
        have rd' := rd
        unfold Rep at rd'
        obtain ⟨aa, dx, vs, rfl, h1, h3, h4⟩ := rd'
        exact ⟨aa, dx, _, rfl, j1.ex _ _ h1, zip_none h2, k (.ref aa) F1 H x1 hl rfl j1⟩
      · rw [if_neg hc] at hm; cases hm
    | _ => rw [hf] at hm; cases hm
/-- a method over data -/
structure MetOk (P : Program) (w : World) (K : PySem.W.Frag) (mg : Str → Option Value) (base : Heap) (k : Nat) (C m : Str) (a : Nat) (dds : List D) (f : FnD) : Prop where
  ex : ∃ fa fd ps dvs ds, FnOk P w K mg base (L2.CX P w) k fa fd ps (spD K a f) ∧ Cls K (He.ga K C) ∧ Meth K (He.ga K C) m fa ∧ Binds K fd ps ds ∧ Vals dvs ds ∧ ∀ F, Reps K F dds dvs
def eMet (C m : Str) (a : Nat) (f : FnD) (dds : List D) (mo : Mo T) (n : Mo (List T)) : Mo T := bnd mo fun t => bnd (chk C m t) fun t => bnd n fun ts => noX (callM a f dds (t :: ts))
theorem snd_met {C m : Str} {ar : Nat} {dds : List D} {dvs : List V} {f : FnD} {ta : TE} {t : TA} (hd : ∀ F, Reps K F dds dvs) (z1 : SndE K W ta ma) (z2 : SndA K W t n) : SndE K W (tMeth (He.ga K C) m (spD K ar f) dvs E0 ta t) (eMet C m ar f dds ma n) := by
  refine SndX.bnd (t2 := fun x σ H Q => ∃ a dx fs, x = .ref a ∧ H a = some (.ins (He.ga K C) dx fs) ∧ fs.lookup m = none ∧ t σ H fun vs H2 => spD K ar f (x :: (vs ++ dvs)) H2 Q E0) rfl z1 fun u x _ => ?_
  refine SndX.pre (t1 := fun σ H Q => ∃ a dx fs, x = .ref a ∧ H a = some (.ins (He.ga K C) dx fs) ∧ fs.lookup m = none ∧ Q x H) (t2 := fun y σ H Q => t σ H fun vs H2 => spD K ar f (x :: (vs ++ dvs)) H2 Q E0) rfl snd_chk fun u y hy => ?_
  subst hy
  refine SndX.bnd (L0 := [some u]) (M0 := [some y]) (t2 := fun vs σ H2 Q => spD K ar f (y :: (vs ++ dvs)) H2 Q E0) rfl z2 fun us xs _ => ?_
  exact snd_callM0 hd (u :: us) (y :: xs)
theorem se_met {k : Nat} {C m : Str} {ar : Nat} {dds : List D} {f : FnD} {o : Expr} {apos : Pos} {pl : Sem Bool} (h : MetOk X.prog X.w X.K X.mg X.base k C m ar dds f) (hr : Room k X.A) (ho : SE X W o ma) (g : SA X W (e :: es) n)
    (hst : starEach (e :: es) X.env = (false, eval e X.env) :: starEach es X.env := by rfl) (hpl : (backTo pos (starEach es X.env)).any (·.1) = false := by rfl)
    (ht : eval (.Call (.Attribute o m apos) (e :: es) [] pos) X.env = (do
      let ov ← eval o X.env
      standAt apos.atName
      let (f, first) ← holding [ov] (getMethod ov m pl)
      callWith pos f first (backTo pos (starEach (e :: es) X.env)) (backToKw pos (keywordEach [] X.env))) := by rfl) :
    SE X W (.Call (.Attribute o m apos) (e :: es) [] pos) (eMet C m ar f dds ma n) := by
  obtain ⟨fa, fd, ps, dvs, ds, F, hc, hm, hb, hd, hr2⟩ := h.ex
  obtain ⟨to, q1, z1⟩ := ho
  obtain ⟨ta, q, z⟩ := g
  exact ⟨_, pe_meth q1 hc hm F hr hb hd passL q hst hpl ht, snd_met hr2 z1 z⟩
theorem se_met0 {k : Nat} {C m : Str} {ar : Nat} {dds : List D} {f : FnD} {o : Expr} {apos : Pos} {pl : Sem Bool} (h : MetOk X.prog X.w X.K X.mg X.base k C m ar dds f) (hr : Room k X.A) (ho : SE X W o ma)
    (ht : eval (.Call (.Attribute o m apos) [] [] pos) X.env = (do
      let ov ← eval o X.env
      standAt apos.atName
      let (f, first) ← holding [ov] (getMethod ov m pl)
      callWith pos f first (backTo pos (starEach [] X.env)) (backToKw pos (keywordEach [] X.env))) := by rfl) :
    SE X W (.Call (.Attribute o m apos) [] [] pos) (eMet C m ar f dds ma (ret [])) := by
  obtain ⟨fa, fd, ps, dvs, ds, F, hc, hm, hb, hd, hr2⟩ := h.ex
  obtain ⟨to, q1, z1⟩ := ho
  refine ⟨_, pe_meth0 q1 hc hm F hr hb hd passL ht, snd_met hr2 z1 fun G F H ρ σ us ws Q r ρ' j hl ht hm k => ?_⟩
  cases hm
  exact k [] F H Ex.rfl hl rfl j
/-- a property over data -/
structure PrpOk (P : Program) (w : World) (K : PySem.W.Frag) (mg : Str → Option Value) (base : Heap) (k : Nat) (C m : Str) (f : FnD) : Prop where
  ex : ∃ pa fa fd ps, FnOk P w K mg base (L2.CX P w) k fa fd ps (spD K 1 f) ∧ Cls K (He.ga K C) ∧ PropOf K (He.ga K C) m pa fa ∧ Binds K fd ps []
def ePrp (C : Str) (f : FnD) (mo : Mo T) : Mo T := bnd mo fun t => bnd (chk C "" t) fun t => noX (callM 1 f [] [t])
theorem se_prp {k : Nat} {C m : Str} {f : FnD} {o : Expr} (h : PrpOk X.prog X.w X.K X.mg X.base k C m f) (hr : Room (k + 1) X.A) (ho : SE X W o ma) (hab : attributeBase o m X.env (eval o X.env) = eval o X.env := by rfl) :
    SE X W (.Attribute o m pos) (ePrp C f ma) := by
  obtain ⟨pa, fa, fd, ps, F, hc, hm, hb⟩ := h.ex
  obtain ⟨to, q1, z1⟩ := ho
  refine ⟨_, pe_prop q1 hc hm F hr hb .nil passL hab, ?_⟩
  refine SndX.bnd (t2 := fun (x : V) σ H (Q : VK) => ∃ a dx fs, x = .ref a ∧ H a = some (.ins (He.ga X.K C) dx fs) ∧ spD X.K 1 f (.ref a :: []) H Q E0) rfl z1 fun u x _ => ?_
  have q : SndX X.K W [some u] [some x] plT pmT (fun _ _ => True) (fun σ H Q => ∃ a dx fs, x = .ref a ∧ H a = some (.ins (He.ga X.K C) dx fs) ∧ fs.lookup ("" : Str) = none ∧ spD X.K 1 f ([x] ++ []) H Q E0) (bnd (chk C "" u) fun t => noX (callM 1 f [] [t])) := by
    refine SndX.pre (t1 := fun σ H Q => ∃ a dx fs, x = .ref a ∧ H a = some (.ins (He.ga X.K C) dx fs) ∧ fs.lookup ("" : Str) = none ∧ Q x H) (t2 := fun y σ H Q => spD X.K 1 f ([x] ++ []) H Q E0) rfl snd_chk fun u y hy => ?_
    subst hy
    exact snd_callM0 (dvs := []) (fun _ => reps_nil) [u] [y]
  refine q.cg fun σ H Q ⟨a, dx, fs, e1, e2, _, e3⟩ => ⟨a, dx, fs, e1, e2, ?_⟩
  subst e1
  exact e3

/-! ### defs whose first argument is lent (self of __init__, a list that is changed) -/
abbrev FnB := T → List D → Option (Rs D × T)
def Apart (H H' : Hp) (v : V) : Prop := ∀ b o, H b = some o → v ≠ .ref b → H' b = some o
def RetB (K : PySem.W.Frag) (F H : Hp) (v0 : V) (Q : VK) (E : XK) (t' : T) : Rs D → Prop
  | .ok d => ∀ v F' H', Ex F F' → Apart H H' v0 → Ex F' H' → (∀ a o, F' a = some o → F a = some o ∨ H a = none) → Hold K F' H' t' v0 → Rep K F' d v → Q v H'
  | .exc x => ∀ c dd F' H', Ex F F' → Apart H H' v0 → Ex F' H' → (∀ a o, F' a = some o → F a = some o ∨ H a = none) → Hold K F' H' t' v0 → ExcR K F' x c dd → E c dd H'
def spB (K : PySem.W.Frag) (a : Nat) (f : FnB) : Sp := fun vs H Q E => ∃ F t v0 ds vs' r t', vs = v0 :: vs' ∧ Ex F H ∧ Hold K F H t v0 ∧ t.own = true ∧ t.brw = true ∧ Reps K F ds vs' ∧ ds.length = a ∧ f t ds = some (r, t') ∧ RetB K F H v0 Q E t' r
/-- a class that is made: its __init__ -/
structure MakOk (P : Program) (w : World) (K : PySem.W.Frag) (mg : Str → Option Value) (base : Heap) (k : Nat) (C : Str) (a : Nat) (dds : List D) (f : FnB) : Prop where
  ex : ∃ fa fd ps dvs ds, FnOk P w K mg base (L2.CX P w) k fa fd ps (spB K a f) ∧ Mk K (He.ga K C) fa ∧ mg C = some (.ref (He.ga K C)) ∧ Binds K fd ps ds ∧ Vals dvs ds ∧ ∀ F, Reps K F dds dvs
def makM (C : Str) (a : Nat) (f : FnB) (dds : List D) (ts : List T) : Mo T := match frzs ts with
  | none => nop
  | some ds => if (ds ++ dds).length = a then (match f (.ins true C [] []) (ds ++ dds) with
    | some (.ok .non, .ins true C' ns fs) => ret (.ins false C' ns fs)
    | _ => nop) else nop
theorem snd_makM {C : Str} {k : Nat} {f : FnB} {dds : List D} {dvs : List V} (hd : ∀ F, Reps K F dds dvs) (ts : List T) (vs : List V) :
    SndX K W (ts.map some) (vs.map some) plT pmT (fun _ _ => True) (fun σ H Q => ∀ x dx, H x = none → H dx = none → dx ≠ x →
      spB K k f (.ref x :: (vs ++ dvs)) (upd (upd H dx (.own x)) x (.ins (He.ga K C) dx [])) (fun v H2 => v = .non ∧ Q (.ref x) H2) E0) (makM C k f dds ts) := by
  intro G F H ρ σ us ws Q r ρ' j hl ht hm kk x dx hx hdx hne
  unfold makM at hm
  cases hf : frzs ts with
  | none => rw [hf] at hm; cases hm
  | some ds =>
    rw [hf] at hm
    simp only at hm
    by_cases ha : (ds ++ dds).length = k
    · rw [if_pos ha] at hm
      unfold frzs at hf
      by_cases hb : ts.any T.brw = true
      · rw [if_pos hb] at hf; cases hf
      · rw [if_neg hb] at hf
        cases hf
        rw [← List.append_assoc, ← List.append_assoc] at j
        obtain ⟨F1, x1, j1, r1⟩ := j.freezes (by simp [hl, ht]) (by simpa using hb)
        have j2 := j1.pre (by simp [hl, ht])
        cases hq : f (.ins true C [] []) (ts.map T.fz ++ dds) with
        | none => rw [hq] at hm; cases hm
        | some o =>
          obtain ⟨o1, t'⟩ := o
          rw [hq] at hm
          cases o1 with
          | exc x => cases hm
          | ok d =>
            cases d with
            | non =>
              cases t' with
              | dat d => cases hm
              | lst b xs => cases hm
              | ins b C' ns fs =>
                cases b with
                | false => cases hm
                | true =>
                  cases hm
                  -- the dict cell is known data, the instance is new
                  have j3 : J K G (upd F1 dx (.own x)) (upd H dx (.own x)) (ρ ++ us) (σ ++ ws) := j2.frz hdx
                  have hx2 : (upd H dx (.own x)) x = none := by rw [upd_ne (Ne.symm hne)]; exact hx
                  have fx : (upd F1 dx (.own x)) x = none := j3.ex.back hx2
                  have j4 := j3.heap (o := .ins (He.ga K C) dx []) hx2
                  have eF : Ex F1 (upd F1 dx (.own x)) := Ex.new (j2.ex.back hdx)
                  refine ⟨upd F1 dx (.own x), .ins true C [] [], .ref x, _, _, .ok .non, .ins true C' ns fs, rfl, j4.ex, ⟨x, dx, [], rfl, fx, by rw [upd_same]; rfl, rfl, reps_nil⟩, rfl, rfl, Reps.mono eF _ _ (r1.app (hd F1)), ha, hq, ?_⟩
                  intro v F' H' e1 e2 e3 e4 hold rd
                  unfold Rep at rd
                  refine ⟨rd, kk (.ref x) F' H' (x1.trans (eF.trans e1)) hl trivial ?_⟩
                  -- back to the caller's slots: x left out of what is known
                  obtain ⟨a', dx', vs', q1, q2, q3, q4, q5⟩ := hold
                  cases q1
                  have jg : J K G F' (fun b => if b = x then none else H' b) (ρ ++ us) (σ ++ ws) := by
                    refine j3.grow e1 (fun b o hbo => ?_) (fun b o hbo => ?_) (fun b o hbo => ?_)
                    · have hbx : b ≠ x := by rintro rfl; rw [hx2] at hbo; cases hbo
                      show (if b = x then none else H' b) = some o
                      rw [if_neg hbx]
                      exact e2 b o (by rw [upd_ne hbx]; exact hbo) (by rintro z; cases z; exact hbx rfl)
                    · have hbx : b ≠ x := by rintro rfl; rw [q2] at hbo; cases hbo
                      show (if b = x then none else H' b) = some o
                      rw [if_neg hbx]
                      exact e3 b o hbo
                    · rcases e4 b o hbo with z | z
                      · exact Or.inl z
                      · have hbx : b ≠ x := by rintro rfl; rw [upd_same] at z; cases z
                        rw [upd_ne hbx] at z
                        exact Or.inr z
                  have hpush := jg.push (p := x) (o := .ins (He.ga K C') dx' (ns.zip vs')) (t := .ins false C' ns fs) (by simp) rfl rfl ⟨x, dx', vs', rfl, q2, upd_same, q4, q5⟩
                  have hH : upd (fun b => if b = x then none else H' b) x (.ins (He.ga K C') dx' (ns.zip vs')) = H' := by
                    funext b
                    by_cases hbx : b = x
                    · subst hbx; rw [upd_same, q3]
                    · rw [upd_ne hbx]; simp [hbx]
                  rw [hH] at hpush
                  rw [← List.append_assoc, ← List.append_assoc]
                  exact hpush
            | _ => cases hm
    · rw [if_neg ha] at hm; cases hm
def eMak (C : Str) (a : Nat) (f : FnB) (dds : List D) (n : Mo (List T)) : Mo T := bnd n (makM C a f dds)
theorem se_mak {k : Nat} {C : Str} {p : Pos} {ar : Nat} {dds : List D} {f : FnB} (h : MakOk X.prog X.w X.K X.mg X.base k C ar dds f) (hr : Room (k + 1) X.A) (g : SA X W (e :: es) n) (hg : Gl X C := by rfl)
    (hdb : (C == ("__debug__" : Str)) = false := by decide) (he : starEach (e :: es) X.env = (false, eval e X.env) :: starEach es X.env := by rfl) (hpl : (backTo pos (starEach es X.env)).any (·.1) = false := by rfl) :
    SE X W (.Call (.Name C p) (e :: es) [] pos) (eMak C ar f dds n) := by
  obtain ⟨fa, fd, ps, dvs, ds, F, M, hm, hb, hd, hr2⟩ := h.ex
  obtain ⟨ta, q, z⟩ := g
  exact ⟨_, pe_make M F hr hg hm hb hd passL q hdb he hpl, SndX.bnd (t2 := fun (vs : List V) σ H (Q : VK) => ∀ x dx, H x = none → H dx = none → dx ≠ x → spB X.K ar f (.ref x :: (vs ++ dvs)) (upd (upd H dx (.own x)) x (.ins (He.ga X.K C) dx [])) (fun v H2 => v = .non ∧ Q (.ref x) H2) E0) rfl z fun us xs _ => snd_makM hr2 us xs⟩
end
end SL

set_option Elab.async false
set_option linter.all false
set_option maxRecDepth 100000
set_option maxHeartbeats 4000000
namespace SL
open PySem PySem.Spec L2
theorem J.last {K : PySem.W.Frag} {G : Gm} {F H : Hp} {ρ us : Sl} {σ ws : L2.St} {t : T} {v : V} (j : J K G F H (ρ ++ (us ++ [some t])) (σ ++ (ws ++ [some v]))) (hl : ρ.length = σ.length) (ht : us.length = ws.length) : Hold K F H t v := by
  have e1 : (ρ ++ (us ++ [some t]))[(ρ ++ us).length]? = some (some t) := by rw [← List.append_assoc]; simp
  obtain ⟨w, m1, h, _⟩ := j.ok _ _ e1
  have : (σ ++ (ws ++ [some v]))[(ρ ++ us).length]? = some (some v) := by
    rw [← List.append_assoc]
    have : (ρ ++ us).length = (σ ++ ws).length := by simp [hl, ht]
    rw [this]; simp
  rw [this] at m1; cases m1
  exact h
/-! ### a def's body is its function -/
def bodyD (m : Nat) (s : So) : FnD := fun ds => match s (ds.map (fun d => some (T.dat d)) ++ List.replicate m none) with
  | some (.next, _) => some (.ok (.dat .non))
  | some (.ret t, _) => if t.brw = true then none else some (.ok t)
  | some (.exc x, _) => some (.exc x)
  | _ => none
def finB (r : Rs D) (ρ : Sl) : Option (Rs D × T) := match ρ[0]? with
  | some (some t) => if t.brw = true then some (r, t) else none
  | _ => none
def bodyB (m : Nat) (s : So) : FnB := fun t ds => match s (some t :: (ds.map (fun d => some (T.dat d)) ++ List.replicate m none)) with
  | some (.next, ρ) => finB (.ok .non) ρ
  | some (.ret u, ρ) => if u.brw = true then none else finB (.ok u.fz) ρ
  | some (.exc x, ρ) => finB (.exc x) ρ
  | _ => none
theorem slot_dat {ds : List D} {m i : Nat} {t : T} (h : (ds.map (fun d => some (T.dat d)) ++ List.replicate m none)[i]? = some (some t)) : ∃ d, ds[i]? = some d ∧ t = .dat d := by
  by_cases hi : i < ds.length
  · rw [List.getElem?_append_left (by simpa using hi), List.getElem?_map] at h
    cases e : ds[i]? with
    | none => rw [e] at h; cases h
    | some d => rw [e] at h; cases h; exact ⟨d, rfl, rfl⟩
  · rw [List.getElem?_append_right (by simp; omega), List.getElem?_replicate] at h
    split at h <;> cases h
theorem start_dat {N : List Str} {vs : List V} {i : Nat} {v : V} (h : vs[i]? = some v) : (L2.start N vs)[i]? = some (some v) := by
  unfold L2.start
  have hi := (List.getElem?_eq_some_iff.mp h).1
  rw [List.getElem?_append_left (by simpa using hi), List.getElem?_map, h]; rfl
theorem j_start {K : PySem.W.Frag} {F H : Hp} {ds : List D} {vs : List V} {N : List Str} {m : Nat} (e : Ex F H) (r : Reps K F ds vs) (hN : N.length = ds.length + m) : J K ⟨F, H, fun _ => False⟩ F H (ds.map (fun d => some (T.dat d)) ++ List.replicate m none) (L2.start N vs) := by
  refine ⟨e, by unfold L2.start; simp [r.len]; omega, fun i t h => ?_, fun i j t t' v ni h h' o => ?_, fun a o h _ => h, fun a o h => .inl h, Ex.rfl, fun a h => h.elim⟩
  · obtain ⟨d, h1, rfl⟩ := slot_dat h
    obtain ⟨v, h2, h3⟩ := r.get h1
    exact ⟨v, start_dat h2, h3, fun o => by cases o⟩
  · obtain ⟨d, h1, rfl⟩ := slot_dat h
    cases o
theorem j_startB {K : PySem.W.Frag} {F H : Hp} {t0 : T} {v0 : V} {ds : List D} {vs : List V} {N : List Str} {m : Nat} (e : Ex F H) (h0 : Hold K F H t0 v0) (ho : t0.own = true) (hb : t0.brw = true) (r : Reps K F ds vs) (hN : N.length = ds.length + 1 + m) :
    J K ⟨F, H, fun a => v0 = .ref a⟩ F H (some t0 :: (ds.map (fun d => some (T.dat d)) ++ List.replicate m none)) (L2.start N (v0 :: vs)) := by
  have st : L2.start N (v0 :: vs) = some v0 :: (vs.map some ++ List.replicate m none) := by
    unfold L2.start
    simp [r.len]; omega
  rw [st]
  refine ⟨e, by simp [r.len], fun i t h => ?_, fun i j t t' v ni h h' o o' => ?_, fun a o h _ => h, fun a o h => .inl h, Ex.rfl, fun a h => ?_⟩
  · cases i with
    | zero =>
      simp at h; subst h
      exact ⟨v0, by simp, h0, fun _ a ea => by rw [hb]; exact ea⟩
    | succ i =>
      simp only [List.getElem?_cons_succ] at h
      obtain ⟨d, h1, rfl⟩ := slot_dat h
      obtain ⟨v, h2, h3⟩ := r.get h1
      refine ⟨v, ?_, h3, fun o => by cases o⟩
      simp only [List.getElem?_cons_succ]
      have hi := (List.getElem?_eq_some_iff.mp h2).1
      rw [List.getElem?_append_left (by simpa using hi), List.getElem?_map, h2]; rfl
  · cases i with
    | zero =>
      cases j with
      | zero => exact absurd rfl ni
      | succ j =>
        simp only [List.getElem?_cons_succ] at h'
        obtain ⟨d, _, rfl⟩ := slot_dat h'
        cases o'
    | succ i =>
      simp only [List.getElem?_cons_succ] at h
      obtain ⟨d, _, rfl⟩ := slot_dat h
      cases o
  · obtain ⟨b, u, e1, e2, e3⟩ := h0.adr ho
    have h' : v0 = .ref a := h
    rw [h'] at e1; cases e1
    exact ⟨u, e3⟩
section
variable {P : Program} {w : World} {K : PySem.W.Frag} {mg : Str → Option Value} {base : Heap} {x qual : Str} {params : Arguments} {body : List Stmt} {scope : Scope} {dvs : List V} {kws : List (Str × V)} {f : Addr} {fd : FuncData} {N ps : List Str} {k : Nat}
theorem fnD (F : FunD K x qual params body scope dvs kws f fd) (S : FnScope N ps scope) (sem : So) (m : Nat) (hm : N.length = ps.length + m)
    (hb : ∀ (cdv : Value) (A : Around) (outer : List Env) (s : Shared) (H : Hp) (E : XK), Room k (A.deeper (PyProof.Rows.envOfC qual scope s.heap.objs.size f cdv)) → SSs (cxOf (L2.CX P w) P w K mg base N qual scope f cdv A outer s H E) (fun c d _ H => E c d H) body sem) :
    FnOk P w K mg base (L2.CX P w) (k + 1) f fd ps (spD K ps.length (bodyD m sem)) := by
  refine F.ok S (fun vs H Q E h => ?_) (fun cdv A outer s H vs Q E hr h => ?_)
  · obtain ⟨F0, ds, r, _, rd, hl, _, _⟩ := h
    rw [rd.len, hl]
  · obtain ⟨F0, ds, r, ex, rd, hl, hf, hret⟩ := h
    obtain ⟨t, p, z⟩ := hb cdv A outer s H E hr
    refine ⟨t, p, ?_⟩
    have j0 := j_start (N := N) (m := m) ex rd (by rw [hm, hl])
    have hlen := j0.len
    unfold bodyD at hf
    cases e : sem (ds.map (fun d => some (T.dat d)) ++ List.replicate m none) with
    | none => rw [e] at hf; cases hf
    | some q =>
      obtain ⟨fl, ρ'⟩ := q
      rw [e] at hf
      refine z ⟨F0, H, fun _ => False⟩ F0 H _ (L2.start N vs) [] [] _ fl ρ' (by rw [List.append_nil, List.append_nil]; exact j0) hlen rfl e ?_
      have goal : ∀ {F' H' : Hp} {L : Sl} {M : St} (j : J K ⟨F0, H, fun _ => False⟩ F' H' L M), Ex H H' ∧ Ex F' H' ∧ ∀ a o, F' a = some o → F0 a = some o ∨ H a = none :=
        fun j => ⟨fun a o h => j.base a o h (fun z => z), j.ex, j.frs⟩
      cases fl with
      | next =>
        cases hf
        intro σ' F' H' e1 l1 l2 j1
        obtain ⟨g1, g2, g3⟩ := goal j1
        exact hret.2 .non F' H' e1 g1 g2 g3 (show Rep K F' .non .non from rep_non) (fun o => by cases o)
      | brk => cases hf
      | cont => cases hf
      | ret u =>
        simp only at hf
        by_cases hb : u.brw = true
        · rw [if_pos hb] at hf; cases hf
        · rw [if_neg hb] at hf
          cases hf
          intro v σ' F' H' e1 l1 l2 j1
          obtain ⟨g1, g2, g3⟩ := goal j1
          refine hret.2 v F' H' e1 g1 g2 g3 (j1.last (l1.trans l2.symm) rfl) fun ho a ea => ?_
          subst ea
          have e9 : (ρ' ++ ([] ++ [some u]))[ρ'.length]? = some (some u) := by simp
          obtain ⟨w9, m9, _, br⟩ := j1.ok _ _ e9
          have : (σ' ++ ([] ++ [some (V.ref a)]))[ρ'.length]? = some (some (V.ref a)) := by rw [l1.trans l2.symm]; simp
          rw [this] at m9; cases m9
          have := br ho a rfl
          rw [if_neg hb] at this
          exact this.1
      | exc x =>
        cases hf
        intro c d σ' F' H' e1 l1 l2 j1 rx
        obtain ⟨g1, g2, g3⟩ := goal j1
        exact hret c d F' H' e1 g1 g2 g3 rx
theorem fnB (F : FunD K x qual params body scope dvs kws f fd) (S : FnScope N ps scope) (sem : So) (m a : Nat) (ha : ps.length = a + 1) (hm : N.length = ps.length + m)
    (hb : ∀ (cdv : Value) (A : Around) (outer : List Env) (s : Shared) (H : Hp) (E : XK), Room k (A.deeper (PyProof.Rows.envOfC qual scope s.heap.objs.size f cdv)) → SSs (cxOf (L2.CX P w) P w K mg base N qual scope f cdv A outer s H E) (fun c d _ H => E c d H) body sem) :
    FnOk P w K mg base (L2.CX P w) (k + 1) f fd ps (spB K a (bodyB m sem)) := by
  refine F.ok S (fun vs H Q E h => ?_) (fun cdv A outer s H vs Q E hr h => ?_)
  · obtain ⟨F0, t, v0, ds, vs', r, t', rfl, _, _, _, _, rd, hl, _, _⟩ := h
    simp [rd.len, hl, ha]
  · obtain ⟨F0, t0, v0, ds, vs', r, t', rfl, ex, hold, ho, hbr, rd, hl, hf, hret⟩ := h
    obtain ⟨t, p, z⟩ := hb cdv A outer s H E hr
    refine ⟨t, p, ?_⟩
    have j0 := j_startB (N := N) (m := m) ex hold ho hbr rd (by rw [hm, ha, hl])
    have hlen := j0.len
    unfold bodyB at hf
    cases e : sem (some t0 :: (ds.map (fun d => some (T.dat d)) ++ List.replicate m none)) with
    | none => rw [e] at hf; cases hf
    | some q =>
      obtain ⟨fl, ρ'⟩ := q
      rw [e] at hf
      refine z _ F0 H _ (L2.start N (v0 :: vs')) [] [] _ fl ρ' (by rw [List.append_nil, List.append_nil]; exact j0) hlen rfl e ?_
      have goal : ∀ {F' H' : Hp} {us : Sl} {σ' ws : St} {r1 : Rs D} (j : J K ⟨F0, H, fun a => v0 = .ref a⟩ F' H' (ρ' ++ us) (σ' ++ ws)), finB r1 ρ' = some (r, t') → r1 = r ∧ Apart H H' v0 ∧ Ex F' H' ∧ (∀ a o, F' a = some o → F0 a = some o ∨ H a = none) ∧ Hold K F' H' t' v0 := by
        intro F' H' us σ' ws r1 j hfin
        unfold finB at hfin
        cases e0 : ρ'[0]? with
        | none => rw [e0] at hfin; cases hfin
        | some ot =>
          cases ot with
          | none => rw [e0] at hfin; cases hfin
          | some u =>
            rw [e0] at hfin
            simp only at hfin
            by_cases hb : u.brw = true
            · rw [if_pos hb] at hfin
              cases hfin
              have hi : 0 < ρ'.length := (List.getElem?_eq_some_iff.mp e0).1
              have e1 : (ρ' ++ us)[0]? = some (some t') := by rw [List.getElem?_append_left hi]; exact e0
              obtain ⟨v, _, h2, h3⟩ := j.ok 0 t' e1
              have ot : t'.own = true := by cases t' with
                | dat d => cases hb
                | lst _ _ => rfl
                | ins _ _ _ _ => rfl
              obtain ⟨a, _, ea, _, _⟩ := h2.adr ot
              have hv := h3 ot a ea
              rw [if_pos hb] at hv
              have hv' : v0 = .ref a := hv
              rw [ea, ← hv'] at h2
              exact ⟨rfl, fun b o hb nb => j.base b o hb nb, j.ex, j.frs, h2⟩
            · rw [if_neg hb] at hfin; cases hfin
      cases fl with
      | next =>
        intro σ' F' H' e1 l1 l2 j1
        obtain ⟨rfl, g1, g2, g3, g4⟩ := goal j1 hf
        exact hret .non F' H' e1 g1 g2 g3 g4 rep_non
      | brk => cases hf
      | cont => cases hf
      | ret u =>
        simp only at hf
        by_cases hb : u.brw = true
        · rw [if_pos hb] at hf; cases hf
        · rw [if_neg hb] at hf
          intro v σ' F' H' e1 l1 l2 j1
          obtain ⟨F2, x2, j2, rd2⟩ := j1.fzLast (l1.trans l2.symm) rfl (by simpa using hb)
          obtain ⟨rfl, g1, g2, g3, g4⟩ := goal j2 hf
          exact hret v F2 H' (e1.trans x2) g1 g2 g3 g4 rd2
      | exc x =>
        intro c d σ' F' H' e1 l1 l2 j1 rx
        obtain ⟨rfl, g1, g2, g3, g4⟩ := goal j1 hf
        exact hret c d F' H' e1 g1 g2 g3 g4 rx
end
/-! ### the outer form of what a slot holds -/
def SV (K : PySem.W.Frag) (F H : Hp) : D → V → Prop
  | .lst xs, v => ∃ a vs, v = .ref a ∧ H a = some (.lst vs) ∧ Reps K F xs vs
  | .obj C ns xs, v => ∃ a dx vs, v = .ref a ∧ H a = some (.ins (He.ga K C) dx (ns.zip vs)) ∧ ns.length = xs.length ∧ Reps K F xs vs
  | d, v => Rep K F d v
theorem SV.of {K : PySem.W.Frag} {F H : Hp} {d : D} {v : V} (e : Ex F H) (h : Rep K F d v) : SV K F H d v := by
  cases d with
  | tup xs => exact h
  | lst xs => unfold Rep at h; obtain ⟨a, vs, e1, e2, e3⟩ := h; exact ⟨a, vs, e1, e _ _ e2, e3⟩
  | scr ns => exact h
  | obj C ns xs => unfold Rep at h; obtain ⟨a, dx, vs, e1, e2, e3, e4⟩ := h; exact ⟨a, dx, vs, e1, e _ _ e2, e3, e4⟩
  | exn _ _ _ _ => exact h
  | dic _ _ => exact h
  | non => exact h
  | bl b => exact h
  | int b => exact h
  | str b => exact h
theorem SV.hold {K : PySem.W.Frag} {F H : Hp} {t : T} {v : V} (e : Ex F H) (h : Hold K F H t v) : SV K F H t.fz v := by
  cases t with
  | dat d => exact SV.of e h
  | lst b xs => obtain ⟨a, vs, e1, e2, e3, e4⟩ := h; exact ⟨a, vs, e1, e3, e4⟩
  | ins b C ns xs => obtain ⟨a, dx, vs, e1, e2, e3, e4, e5⟩ := h; exact ⟨a, dx, vs, e1, e3, e4, e5⟩
/-- the slot i as it stands -/
def atS (i : Nat) (ρ : Sl) : Option T := match ρ[i]? with
  | some (some t) => some t
  | _ => none
theorem atS_some {i : Nat} {ρ : Sl} {t : T} (h : atS i ρ = some t) : ρ[i]? = some (some t) := by
  unfold atS at h
  cases e : ρ[i]? with
  | none => rw [e] at h; cases h
  | some ot => cases ot with
    | none => rw [e] at h; cases h
    | some u => rw [e] at h; cases h; rfl
section
variable {X : Cx} {W : WX} {a c e : Expr} {es : List Expr} {ma mb mc : Mo T} {pos : Pos} {K : PySem.W.Frag} {n : Mo (List T)}
theorem J.slot {G : Gm} {F H : Hp} {ρ us : Sl} {σ ws : St} {i : Nat} {t : T} (j : J K G F H (ρ ++ us) (σ ++ ws)) (hl : ρ.length = σ.length) (h : atS i ρ = some t) : ∃ v, σ[i]? = some (some v) ∧ Hold K F H t v ∧ i < ρ.length ∧ (ρ ++ us)[i]? = some (some t) ∧ (σ ++ ws)[i]? = some (some v) := by
  have h := atS_some h
  have hi : i < ρ.length := (List.getElem?_eq_some_iff.mp h).1
  have e1 : (ρ ++ us)[i]? = some (some t) := by rw [List.getElem?_append_left hi]; exact h
  obtain ⟨v, h1, h2, _⟩ := j.ok i t e1
  exact ⟨v, by rw [List.getElem?_append_left (by rw [← hl]; exact hi)] at h1; exact h1, h2, hi, e1, h1⟩
/-- an operation on the slot i and nothing else -/
def s1M (f : D → Option Out) (i : Nat) : Mo T := fun ρ => match atS i ρ with
  | none => none
  | some t => outM (f t.fz) ρ
theorem snd_outM {G : Gm} {F H : Hp} {ρ us : Sl} {σ ws : St} {o : Option Out} {ρ' : Sl} {r : Rs T} {Q : VK} {F0 : Hp} (j : J K G F H (ρ ++ us) (σ ++ ws)) (hl : ρ.length = σ.length) (hu : us.length = ws.length) (x0 : Ex F0 F) (hm : outM o ρ = some (r, ρ'))
    (k : match r with
      | .ok a => ∀ (b : V) (F' H' : Hp), Ex F0 F' → ρ'.length = σ.length → True → J K G F' H' (ρ' ++ (us ++ [some a])) (σ ++ (ws ++ [some b])) → Q b H'
      | .exc x => True) : ∃ o', o = some o' ∧ OutOk K F H Q o' := by
  cases o with
  | none => cases hm
  | some o =>
    refine ⟨o, rfl, ?_⟩
    cases o with
    | dt d =>
      cases hm
      intro v F' H' e1 e2 e3 e4 rd
      have j3 := j.grow e1 e2 e3 e4
      exact k v F' H' (x0.trans e1) hl trivial (by rw [← List.append_assoc, ← List.append_assoc]; exact j3.dat rd)
    | nl xs =>
      cases hm
      intro p vs hp rd
      refine k (.ref p) F _ x0 hl trivial ?_
      rw [← List.append_assoc, ← List.append_assoc]
      exact j.push hp rfl rfl ⟨p, vs, rfl, j.ex.back hp, upd_same, rd⟩
theorem snd_s1 {i : Nat} {f : D → Option Out} {te : TE} (h : ∀ F H σ Q v d o, Ex F H → σ[i]? = some (some v) → SV K F H d v → f d = some o → OutOk K F H Q o → te σ H Q) : SndE K W te (s1M f i) := by
  intro G F H ρ σ us ws Q r ρ' j hl ht hm k
  simp only [List.append_nil] at j
  unfold s1M at hm
  cases e : atS i ρ with
  | none => rw [e] at hm; cases hm
  | some t =>
    rw [e] at hm
    simp only at hm
    obtain ⟨v, h1, h2, _⟩ := j.slot hl e
    obtain ⟨o, ho, q⟩ := snd_outM (Q := Q) j hl ht Ex.rfl hm (by cases r with
      | ok a => exact k
      | exc x => trivial)
    exact h F H σ Q v t.fz o j.ex h1 (SV.hold j.ex h2) ho q
/-- an operation on the slot i and an expression's value -/
def s2M (f : D → D → Option Out) (i : Nat) (mb : Mo T) : Mo T := fun ρ => match atS i ρ with
  | none => none
  | some _ => bnd mb (fun u ρ1 => if u.brw = true then none else match atS i ρ1 with
    | none => none
    | some t => outM (f t.fz u.fz) ρ1) ρ
theorem snd_s2 {i : Nat} {f : D → D → Option Out} {tb : TE} {r : R2} (z : SndE K W tb mb) (h : ∀ F H Q x y d u o, Ex F H → SV K F H d x → Rep K F u y → f d u = some o → OutOk K F H Q o → r x y H Q) : SndE K W (tOp r (tVar i) tb) (s2M f i mb) := by
  intro G F H ρ σ us ws Q r1 ρ' j hl ht hm k
  simp only [List.append_nil] at j
  unfold s2M at hm
  cases e : atS i ρ with
  | none => rw [e] at hm; cases hm
  | some t =>
    rw [e] at hm
    simp only at hm
    obtain ⟨v, h1, h2, _⟩ := j.slot hl e
    refine ⟨v, h1, ?_⟩
    unfold bnd at hm
    cases eb : mb ρ with
    | none => rw [eb] at hm; cases hm
    | some q =>
      obtain ⟨r2, ρ1⟩ := q
      rw [eb] at hm
      refine z G F H ρ σ us ws _ r2 ρ1 (by simpa using j) hl ht eb ?_
      cases r2 with
      | exc x => cases hm; exact k
      | ok u =>
        intro y F' H' e1 l1 _ j1
        simp only at hm
        by_cases hb : u.brw = true
        · rw [if_pos hb] at hm; cases hm
        · rw [if_neg hb] at hm
          cases e2 : atS i ρ1 with
          | none => rw [e2] at hm; cases hm
          | some t1 =>
            rw [e2] at hm
            simp only at hm
            obtain ⟨F2, x2, j2, rd⟩ := j1.fzLast l1 ht (by simpa using hb)
            have j3 := app_pre j2 l1 ht
            obtain ⟨v2, g1, g2, _⟩ := j3.slot l1 e2
            rw [h1] at g1; cases g1
            obtain ⟨o, ho, q⟩ := snd_outM (Q := Q) j3 l1 ht (e1.trans x2) hm (by cases r1 with
              | ok a => exact k
              | exc x => trivial)
            exact h F2 H' Q v y t1.fz u.fz o j3.ex (SV.hold j3.ex g2) rd ho q
theorem se_ixS {i : Nat} {x : Str} {px : Pos} {r : R2} {f : D → D → Option Out} (hr : IxR X r) (h : ∀ F H Q x y d u o, Ex F H → SV X.K F H d x → Rep X.K F u y → f d u = some o → OutOk X.K F H Q o → r x y H Q) (hb : SE X W e mb) (hN : X.N[i]? = some x := by rfl)
    (hv : Vis X.env.scope x := by first | exact Or.inl rfl | exact Or.inr (Or.inl rfl) | exact Or.inr (Or.inr rfl)) (hd : (x == ("__debug__" : Str)) = false := by decide) (hcd : (x == ("__classdict__" : Str)) = false := by decide) (hs : PlainIx e := by intro _ _; rfl) :
    SE X W (.Subscript (.Name x px) e pos) (s2M f i mb) := by
  obtain ⟨tb, pb, sb⟩ := hb
  exact ⟨_, pe_ix hr (pe_var hN hv hd hcd) pb hs, snd_s2 sb h⟩
theorem se_fldS {i : Nat} {x f : Str} {px : Pos} {cs : List Str} (h : FldOk X.K cs f) (hN : X.N[i]? = some x := by rfl) (hv : Vis X.env.scope x := by first | exact Or.inl rfl | exact Or.inr (Or.inl rfl) | exact Or.inr (Or.inr rfl)) (hd : (x == ("__debug__" : Str)) = false := by decide)
    (hcd : (x == ("__classdict__" : Str)) = false := by decide) (hb : attributeBase (.Name x px) f X.env (eval (.Name x px) X.env) = eval (.Name x px) X.env := by rfl) :
    SE X W (.Attribute (.Name x px) f pos) (s1M (fun d => fldM cs f [d]) i) := by
  refine ⟨_, pe_fld (pe_var hN hv hd hcd) hb, snd_s1 fun F H σ Q v d o e hv sv hf q => ⟨v, hv, ?_⟩⟩
  unfold fldM one at hf
  cases d with
  | obj C ns fs =>
    simp only at hf
    by_cases hc : cs.contains C = true
    · rw [if_pos hc] at hf
      cases hi : idxOf f ns fs with
      | none => rw [hi] at hf; cases hf
      | some y =>
        rw [hi] at hf
        cases hf
        obtain ⟨aa, dx, vs, rfl, h1, h2, h3⟩ := sv
        obtain ⟨v, hv, rv⟩ := idx_rep hi h3
        obtain ⟨c1, c2⟩ := h.ok C (by simpa using hc)
        exact ⟨aa, _, dx, _, v, rfl, h1, c1, c2, hv, q.val e rv⟩
    · rw [if_neg hc] at hf; cases hf
  | _ => cases hf
/-- a built-in of one argument, the slot i -/
theorem se_B1S {i : Nat} {id : String} {x y : Str} {p py : Pos} {r : List V → Hp → VK → Prop} {f : D → Option Out} (hc : CallR X (.builtin id) r) (h : ∀ F H Q v d o, Ex F H → SV X.K F H d v → f d = some o → OutOk X.K F H Q o → r [v] H Q) (hm : X.mg x = none)
    (hv : bootBuiltins x = some (.builtin id)) (hg : Gl X x := by rfl) (hN : X.N[i]? = some y := by rfl) (hvi : Vis X.env.scope y := by first | exact Or.inl rfl | exact Or.inr (Or.inl rfl) | exact Or.inr (Or.inr rfl)) (hdy : (y == ("__debug__" : Str)) = false := by decide)
    (hcd : (y == ("__classdict__" : Str)) = false := by decide) (hn : x ≠ "__name__" := by decide) (hd : (x == ("__debug__" : Str)) = false := by decide) (he : starEach [.Name y py] X.env = (false, eval (.Name y py) X.env) :: starEach [] X.env := by rfl) (hpl : (backTo pos (starEach [] X.env)).any (·.1) = false := by rfl) :
    SE X W (.Call (.Name x p) [.Name y py] [] pos) (s1M f i) :=
  ⟨_, pe_callB hc hg hm hv (pa_cons (pe_var hN hvi hdy hcd) pa_nil he) hn hd he hpl, snd_s1 fun F H σ Q v d o e hv sv hf q => ⟨v, hv, h F H Q v d o e sv hf q⟩⟩
theorem se_Ty1S {i : Nat} {id : String} {x y : Str} {p py : Pos} {r : List V → Hp → VK → Prop} {f : D → Option Out} (hc : CallR X (.type id) r) (h : ∀ F H Q v d o, Ex F H → SV X.K F H d v → f d = some o → OutOk X.K F H Q o → r [v] H Q) (hm : X.mg x = none)
    (hv : bootBuiltins x = some (.type id)) (hg : Gl X x := by rfl) (hN : X.N[i]? = some y := by rfl) (hvi : Vis X.env.scope y := by first | exact Or.inl rfl | exact Or.inr (Or.inl rfl) | exact Or.inr (Or.inr rfl)) (hdy : (y == ("__debug__" : Str)) = false := by decide)
    (hcd : (y == ("__classdict__" : Str)) = false := by decide) (hn : x ≠ "__name__" := by decide) (hd : (x == ("__debug__" : Str)) = false := by decide) (he : starEach [.Name y py] X.env = (false, eval (.Name y py) X.env) :: starEach [] X.env := by rfl) (hpl : (backTo pos (starEach [] X.env)).any (·.1) = false := by rfl) :
    SE X W (.Call (.Name x p) [.Name y py] [] pos) (s1M f i) :=
  ⟨_, pe_callTy hc hg hm hv (pa_cons (pe_var hN hvi hdy hcd) pa_nil he) hn hd he hpl, snd_s1 fun F H σ Q v d o e hv sv hf q => ⟨v, hv, h F H Q v d o e sv hf q⟩⟩
/-- a slice of the slot i -/
def sSlM (f : D → Option Int → Option Int → Option Out) (i : Nat) (ml mh : Mo (Option Int)) : Mo T := fun ρ => match atS i ρ with
  | none => none
  | some _ => bnd ml (fun lo => bnd mh fun hi ρ1 => match atS i ρ1 with
    | none => none
    | some t => outM (f t.fz lo hi) ρ1) ρ
theorem se_slS {i : Nat} {x : Str} {px p2 : Pos} {r : V → Option Int → Option Int → Hp → VK → Prop} {f : D → Option Int → Option Int → Option Out} {lo hi : Option Expr} {ml mh : Mo (Option Int)} (hr : SlR X r)
    (h : ∀ F H Q x d lo hi o, Ex F H → SV X.K F H d x → f d lo hi = some o → OutOk X.K F H Q o → r x lo hi H Q) (hl : SO X W lo ml) (hh : SO X W hi mh) (hN : X.N[i]? = some x := by rfl)
    (hv : Vis X.env.scope x := by first | exact Or.inl rfl | exact Or.inr (Or.inl rfl) | exact Or.inr (Or.inr rfl)) (hd : (x == ("__debug__" : Str)) = false := by decide) (hcd : (x == ("__classdict__" : Str)) = false := by decide) :
    SE X W (.Subscript (.Name x px) (.Slice lo hi none p2) pos) (sSlM f i ml mh) := by
  obtain ⟨tl, pl, sl⟩ := hl
  obtain ⟨th, ph, sh⟩ := hh
  refine ⟨_, pe_slice hr (pe_var hN hv hd hcd) pl ph, ?_⟩
  intro G F H ρ σ us ws Q r1 ρ' j hl ht hm k
  simp only [List.append_nil] at j
  unfold sSlM at hm
  cases e : atS i ρ with
  | none => rw [e] at hm; cases hm
  | some t =>
    rw [e] at hm
    simp only at hm
    obtain ⟨v, h1, h2, _⟩ := j.slot hl e
    refine ⟨v, h1, ?_⟩
    have key : SndX X.K W [] [] plT pmT (fun _ _ => True) (fun σ' H Q => tl σ' H fun l H2 => th σ' H2 fun u H3 => σ'[i]? = some (some v) → r v l u H3 Q) (bnd ml (fun lo => bnd mh fun hi ρ1 => match atS i ρ1 with
        | none => none
        | some t => outM (f t.fz lo hi) ρ1)) := by
      refine SndX.bnd (t2 := fun l σ' H2 Q => th σ' H2 fun u H3 => σ'[i]? = some (some v) → r v l u H3 Q) rfl sl fun l l' el => ?_
      subst el
      refine SndX.bnd (L0 := [] ++ []) (M0 := [] ++ []) (t2 := fun u σ' H3 Q => σ'[i]? = some (some v) → r v l' u H3 Q) rfl sh fun u u' eu => ?_
      subst eu
      intro G F H ρ σ us ws Q r2 ρ' j hl ht hm k hσ
      simp only [List.append_nil] at j
      dsimp only at hm
      cases e : atS i ρ with
      | none => rw [e] at hm; cases hm
      | some t =>
        rw [e] at hm
        simp only at hm
        obtain ⟨v2, g1, g2, _⟩ := j.slot hl e
        rw [hσ] at g1; cases g1
        obtain ⟨o, ho, q⟩ := snd_outM (Q := Q) j hl ht Ex.rfl hm (by cases r2 with
          | ok a => exact k
          | exc x => trivial)
        exact h F H Q v t.fz l' u' o j.ex (SV.hold j.ex g2) ho q
    have := key G F H ρ σ us ws Q r1 ρ' (by simpa using j) hl ht hm k
    simpa [h1] using this
end
end SL

set_option Elab.async false
set_option linter.all false
set_option maxRecDepth 100000
set_option maxHeartbeats 4000000
namespace SL
open PySem PySem.Spec L2
/-! ### the operations on data -/
section
variable {X : Cx}
theorem OpR.or {f : Value → Value → Sem Value} {r r' : R2} (h : OpR X f r) (h' : OpR X f r') : OpR X f (fun x y H Q => r x y H Q ∨ r' x y H Q) := by
  intro pins s σ H x y v u Q I rx ry q
  rcases q with q | q
  · exact h pins s σ H x y v u Q I rx ry q
  · exact h' pins s σ H x y v u Q I rx ry q
theorem CallR.or {f : Value} {r r' : List V → Hp → VK → Prop} (h : CallR X f r) (h' : CallR X f r') : CallR X f (fun x H Q => r x H Q ∨ r' x H Q) := by
  intro pins s σ H xs us Q I r q
  rcases q with q | q
  · exact h pins s σ H xs us Q I r q
  · exact h' pins s σ H xs us Q I r q
end
def addF : D → D → Option Out
  | .int i, .int j => some (.dt (.int (i + j)))
  | .str i, .str j => if i.length + j.length ≤ 100000 then some (.dt (.str (i ++ j))) else none
  | .lst xs, .lst ys => if xs.length + ys.length ≤ 100000 then some (.nl (xs ++ ys)) else none
  | .tup xs, .tup ys => if xs.length + ys.length ≤ 100000 then some (.dt (.tup (xs ++ ys))) else none
  | _, _ => none
def subF : D → D → Option Out
  | .int i, .int j => some (.dt (.int (i - j)))
  | _, _ => none
def sml (i : Int) : Prop := -18446744073709551616 < i ∧ i < 18446744073709551616
instance (i : Int) : Decidable (sml i) := by unfold sml; infer_instance
def mulF : D → D → Option Out
  | .int i, .int j => if sml i ∨ sml j then some (.dt (.int (i * j))) else none
  | .tup xs, .int k => if 2 ≤ k ∧ k ≤ 1000 ∧ xs.length ≤ 1000 ∧ xs ≠ [] then some (.dt (.tup (List.replicate k.toNat xs).flatten)) else none
  | .lst xs, .int k => if -1000 ≤ k ∧ k ≤ 1000 ∧ xs.length ≤ 100 then some (.nl (List.replicate k.toNat xs).flatten) else none
  | _, _ => none
def divF : D → D → Option Out
  | .int i, .int j => if 0 < j ∧ j < 4611686018427387904 then some (.dt (.int (i / j))) else none
  | _, _ => none
def modF : D → D → Option Out
  | .int i, .int j => if 0 < j then some (.dt (.int (i % j))) else none
  | _, _ => none
def powF : D → D → Option Out
  | .int i, .int j => if 0 ≤ j ∧ j ≤ 1000 ∧ sml i then some (.dt (.int (i ^ j.toNat))) else none
  | _, _ => none
def shrF : D → D → Option Out
  | .int i, .int j => if 0 ≤ j then some (.dt (.int (i / 2 ^ j.toNat))) else none
  | _, _ => none
def shlF : D → D → Option Out
  | .int i, .int j => if 0 ≤ j ∧ j ≤ 5000 ∧ Builtin.Int.intBits i ≤ 60000000 then some (.dt (.int (i * 2 ^ j.toNat))) else none
  | _, _ => none
def negF : D → Option Out
  | .int i => some (.dt (.int (-i)))
  | _ => none
def ltF : D → D → Option Out
  | .int i, .int j => some (.dt (.bl (decide (i < j))))
  | .str i, .str j => some (.dt (.bl (decide (i.cps.toList < j.cps.toList))))
  | _, _ => none
def leF : D → D → Option Out
  | .int i, .int j => some (.dt (.bl (decide (i ≤ j))))
  | .str i, .str j => some (.dt (.bl (!decide (j.cps.toList < i.cps.toList))))
  | _, _ => none
def gtF : D → D → Option Out
  | .int i, .int j => some (.dt (.bl (decide (j < i))))
  | _, _ => none
def geF : D → D → Option Out
  | .int i, .int j => some (.dt (.bl (decide (j ≤ i))))
  | _, _ => none
def isNon : D → Bool
  | .non => true
  | _ => false
def isNF (d e : D) : Option Out := match e with
  | .non => some (.dt (.bl (isNon d)))
  | _ => none
def notNF (d e : D) : Option Out := match e with
  | .non => some (.dt (.bl (!isNon d)))
  | _ => none
/-! equality of data -/
mutual
def toP : D → PyData
  | .non => .none
  | .bl b => .bool b
  | .int i => .int i
  | .str s => .str s
  | .tup xs => .tuple (toPs xs)
  | .lst xs => .list (toPs xs)
  | .scr ns => .none
  | .obj _ _ _ => .none
  | .exn _ _ _ _ => .none
  | .dic _ _ => .none
def toPs : List D → List PyData
  | [] => []
  | x :: xs => toP x :: toPs xs
end
mutual
def shp : Nat → D → Bool
  | _, .non => true
  | _, .bl _ => true
  | _, .int _ => true
  | _, .str s => PyData.strOk s
  | 0, .tup _ => false
  | 0, .lst _ => false
  | n + 1, .tup xs => shps n xs
  | n + 1, .lst xs => shps n xs
  | _, .scr _ => false
  | _, .obj _ _ _ => false
  | _, .exn _ _ _ _ => false
  | _, .dic _ _ => false
def shps : Nat → List D → Bool
  | _, [] => true
  | n, x :: xs => shp n x && shps n xs
end
def eqD (d e : D) : Bool := PyData.eqv (toP d) (toP e)
def eqF (d e : D) : Option Out := if shp 40 d = true ∧ shp 40 e = true then some (.dt (.bl (eqD d e))) else none
def neF (d e : D) : Option Out := if shp 40 d = true ∧ shp 40 e = true then some (.dt (.bl (!eqD d e))) else none
mutual
theorem shp_dep : ∀ (n : Nat) (d : D), shp n d = true → (toP d).canLay0 = true ∧ (toP d).depth ≤ n
  | n, .non, h => by unfold toP; exact ⟨rfl, by unfold PyData.depth; omega⟩
  | n, .bl b, h => by unfold toP; exact ⟨rfl, by unfold PyData.depth; omega⟩
  | n, .int b, h => by unfold toP; exact ⟨rfl, by unfold PyData.depth; omega⟩
  | n, .str b, h => by
    unfold shp at h
    unfold toP
    exact ⟨by unfold PyData.canLay0; exact h, by unfold PyData.depth; omega⟩
  | 0, .tup xs, h => by unfold shp at h; cases h
  | 0, .lst xs, h => by unfold shp at h; cases h
  | n + 1, .tup xs, h => by
    unfold shp at h
    obtain ⟨h1, h2⟩ := shps_dep n xs h
    unfold toP
    exact ⟨by unfold PyData.canLay0; exact h1, by unfold PyData.depth; omega⟩
  | n + 1, .lst xs, h => by
    unfold shp at h
    obtain ⟨h1, h2⟩ := shps_dep n xs h
    unfold toP
    exact ⟨by unfold PyData.canLay0; exact h1, by unfold PyData.depth; omega⟩
  | n, .scr _, h => by unfold shp at h; cases h
  | n, .obj _ _ _, h => by unfold shp at h; cases h
  | n, .exn _ _ _ _, h => by unfold shp at h; cases h
  | n, .dic _ _, h => by unfold shp at h; cases h
theorem shps_dep : ∀ (n : Nat) (xs : List D), shps n xs = true → PyData.canLayAll0 (toPs xs) = true ∧ PyData.depthAll (toPs xs) ≤ n
  | n, [], h => by unfold toPs; exact ⟨rfl, by unfold PyData.depthAll; omega⟩
  | n, x :: xs, h => by
    unfold shps at h
    rw [Bool.and_eq_true] at h
    obtain ⟨a1, a2⟩ := shp_dep n x h.1
    obtain ⟨b1, b2⟩ := shps_dep n xs h.2
    unfold toPs
    refine ⟨by unfold PyData.canLayAll0; rw [a1, b1]; rfl, ?_⟩
    unfold PyData.depthAll
    omega
end
theorem shp_shaped {d : D} (h : shp 40 d = true) : SeqAt.shaped (toP d) = true := by
  obtain ⟨h1, h2⟩ := shp_dep 40 d h
  unfold SeqAt.shaped
  rw [h1, decide_eq_true (by omega : (toP d).depth ≤ 64)]
  rfl
mutual
theorem shp_dp {K : PySem.W.Frag} {F : Hp} : ∀ (n : Nat) (d : D) (v : V), shp n d = true → Rep K F d v → Dp K F v (toP d)
  | n, .non, v, h, r => by unfold Rep at r; subst r; unfold toP; exact .non
  | n, .bl b, v, h, r => by unfold Rep at r; subst r; unfold toP; exact .bl b
  | n, .int b, v, h, r => by unfold Rep at r; subst r; unfold toP; exact .int b
  | n, .str b, v, h, r => by unfold Rep at r; subst r; unfold toP; exact .str b
  | 0, .tup xs, v, h, r => by unfold shp at h; cases h
  | 0, .lst xs, v, h, r => by unfold shp at h; cases h
  | n + 1, .tup xs, v, h, r => by
    unfold Rep at r
    obtain ⟨a, vs, rfl, h1, h2⟩ := r
    unfold toP
    unfold shp at h
    exact .tup h1 (shps_dp n xs vs h h2)
  | n + 1, .lst xs, v, h, r => by
    unfold Rep at r
    obtain ⟨a, vs, rfl, h1, h2⟩ := r
    unfold toP
    unfold shp at h
    exact .lst (Or.inl (Or.inl h1)) (shps_dp n xs vs h h2)
  | n, .scr _, v, h, r => by unfold shp at h; cases h
  | n, .obj _ _ _, v, h, r => by unfold shp at h; cases h
  | n, .exn _ _ _ _, v, h, r => by unfold shp at h; cases h
  | n, .dic _ _, v, h, r => by unfold shp at h; cases h
theorem shps_dp {K : PySem.W.Frag} {F : Hp} : ∀ (n : Nat) (xs : List D) (vs : List V), shps n xs = true → Reps K F xs vs → DpAll K F vs (toPs xs)
  | n, [], vs, h, r => by unfold Reps at r; subst r; unfold toPs; exact .nil
  | n, x :: xs, vs, h, r => by
    unfold Reps at r
    obtain ⟨v, vr, rfl, r1, r2⟩ := r
    unfold shps at h
    rw [Bool.and_eq_true] at h
    unfold toPs
    exact .cons (shp_dp n x v h.1 r1) (shps_dp n xs vr h.2 r2)
end
section
variable {K : PySem.W.Frag}
theorem ri {F : Hp} {i : Int} {v : V} (h : Rep K F (.int i) v) : v = .int i := by unfold Rep at h; exact h
theorem rs {F : Hp} {i : Str} {v : V} (h : Rep K F (.str i) v) : v = .str i := by unfold Rep at h; exact h
theorem rb {F : Hp} {i : Bool} {v : V} (h : Rep K F (.bl i) v) : v = .bl i := by unfold Rep at h; exact h
theorem rn {F : Hp} {v : V} (h : Rep K F .non v) : v = .non := by unfold Rep at h; exact h
theorem o2_add : Op2 K (fun x y H Q => rI0 (fun i j => .int (i + j)) x y H Q ∨ (rCat x y H Q ∨ (rCatA K x y H Q ∨ (∃ i j, x = V.str i ∧ y = V.str j ∧ i.length + j.length ≤ sizeLine ∧ Q (.str (i ++ j)) H)))) addF := by
  intro F H Q x y d e o ex r1 r2 hf q
  unfold addF at hf
  split at hf
  · cases hf; cases ri r1; cases ri r2; exact .inl ⟨_, _, rfl, rfl, q.int ex⟩
  · split at hf
    · next h => cases hf; cases rs r1; cases rs r2; exact .inr (.inr (.inr ⟨_, _, rfl, rfl, big_line h, q.str ex⟩))
    · cases hf
  · split at hf
    · next h =>
      cases hf
      unfold Rep at r1 r2
      obtain ⟨a, vs, rfl, h1, h2⟩ := r1
      obtain ⟨b, us, rfl, g1, g2⟩ := r2
      exact .inr (.inl ⟨a, b, vs, us, rfl, rfl, ex _ _ h1, ex _ _ g1, by rw [h2.len, g2.len]; exact big_line h, fun p hp => q p _ hp (h2.app g2)⟩)
    · cases hf
  · split at hf
    · next h =>
      cases hf
      have r1' := r1
      have r2' := r2
      unfold Rep at r1 r2
      obtain ⟨a, vs, rfl, h1, h2⟩ := r1
      obtain ⟨b, us, rfl, g1, g2⟩ := r2
      refine .inr (.inr (.inl ⟨a, b, vs, us, rfl, rfl, ex.t h1, ex.t g1, by rw [h2.len, g2.len]; exact big_line h, fun hv => ?_, fun _ hu => ?_, fun _ _ p hp => q.tup ex (h2.app g2) hp⟩))
      · subst hv
        have e0 := List.eq_nil_of_length_eq_zero h2.len.symm
        subst e0
        exact q.val ex r2'
      · subst hu
        have e0 := List.eq_nil_of_length_eq_zero g2.len.symm
        subst e0
        exact q.val ex (by rw [List.append_nil]; exact r1')
    · cases hf
  · cases hf
theorem o2_sub : Op2 K (rI0 fun i j => .int (i - j)) subF := by
  intro F H Q x y d e o ex r1 r2 hf q
  unfold subF at hf
  split at hf
  · cases hf; cases ri r1; cases ri r2; exact ⟨_, _, rfl, rfl, q.int ex⟩
  · cases hf
theorem o2_mul : Op2 K (fun x y H Q => rI CMul (fun i j => .int (i * j)) x y H Q ∨ (rRepT K x y H Q ∨ rRep x y H Q)) mulF := by
  intro F H Q x y d e o ex r1 r2 hf q
  unfold mulF at hf
  split at hf
  · split at hf
    · next h => cases hf; cases ri r1; cases ri r2; exact .inl ⟨_, _, rfl, rfl, by unfold CMul; unfold sml at h; simpa using h, q.int ex⟩
    · cases hf
  · split at hf
    · next h =>
      cases hf
      cases ri r2
      unfold Rep at r1
      obtain ⟨a, vs, rfl, h1, h2⟩ := r1
      refine .inr (.inl ⟨a, _, vs, rfl, rfl, ex.t h1, fun hv => ?_, h.1, h.2.1, by rw [h2.len]; exact h.2.2.1, fun p hp => q.tup ex (Reps.flat _ h2) hp⟩)
      subst hv
      have := h2.len
      simp at this
      exact h.2.2.2 (List.eq_nil_of_length_eq_zero this.symm)
    · cases hf
  · split at hf
    · next h =>
      cases hf
      cases ri r2
      unfold Rep at r1
      obtain ⟨a, vs, rfl, h1, h2⟩ := r1
      rename_i k
      refine .inr (.inr ⟨a, _, vs, rfl, rfl, ex _ _ h1, by omega, by omega, ?_, fun p hp => q p _ hp (Reps.flat _ h2)⟩)
      rw [h2.len]
      have hk : k.toNat ≤ 1000 := by omega
      exact big_line (Nat.le_trans (Nat.mul_le_mul h.2.2 hk) (by decide))
    · cases hf
  · cases hf
theorem o2_div : Op2 K (rI CDivW fun i j => .int (i / j)) divF := by
  intro F H Q x y d e o ex r1 r2 hf q
  unfold divF at hf
  split at hf
  · split at hf
    · next h =>
      cases hf; cases ri r1; cases ri r2
      exact ⟨_, _, rfl, rfl, wide_div (b := 62) h.1 (by omega) (by decide) (by decide), q.int ex⟩
    · cases hf
  · cases hf
theorem o2_mod : Op2 K (rI (fun _ j => 0 < j) fun i j => .int (i % j)) modF := by
  intro F H Q x y d e o ex r1 r2 hf q
  unfold modF at hf
  split at hf
  · split at hf
    · next h => cases hf; cases ri r1; cases ri r2; exact ⟨_, _, rfl, rfl, h, q.int ex⟩
    · cases hf
  · cases hf
theorem o2_pow : Op2 K (rI CPow fun i j => .int (i ^ j.toNat)) powF := by
  intro F H Q x y d e o ex r1 r2 hf q
  unfold powF at hf
  split at hf
  · split at hf
    · next h =>
      cases hf; cases ri r1; cases ri r2
      refine ⟨_, _, rfl, rfl, ⟨h.1, by omega, ?_⟩, q.int ex⟩
      have := h.2.2
      unfold sml at this
      omega
    · cases hf
  · cases hf
theorem o2_shr : Op2 K (rI (fun _ j => 0 ≤ j) fun i j => .int (i / 2 ^ j.toNat)) shrF := by
  intro F H Q x y d e o ex r1 r2 hf q
  unfold shrF at hf
  split at hf
  · split at hf
    · next h => cases hf; cases ri r1; cases ri r2; exact ⟨_, _, rfl, rfl, h, q.int ex⟩
    · cases hf
  · cases hf
theorem o2_shl : Op2 K (rI CShl fun i j => .int (i * 2 ^ j.toNat)) shlF := by
  intro F H Q x y d e o ex r1 r2 hf q
  unfold shlF at hf
  split at hf
  · split at hf
    · next h =>
      cases hf; cases ri r1; cases ri r2
      exact ⟨_, _, rfl, rfl, ⟨h.1, by omega⟩, q.int ex⟩
    · cases hf
  · cases hf
theorem o1_neg : Op1 K (rU fun i => .int (-i)) negF := by
  intro F H Q x d o ex r1 hf q
  unfold negF at hf
  split at hf
  · cases hf; cases ri r1; exact ⟨_, rfl, q.int ex⟩
  · cases hf
theorem o2_lt : Op2 K (fun x y H Q => rI0 (fun i j => .bl (decide (i < j))) x y H Q ∨ (∃ i j, x = V.str i ∧ y = V.str j ∧ Q (.bl (decide (i.cps.toList < j.cps.toList))) H)) ltF := by
  intro F H Q x y d e o ex r1 r2 hf q
  unfold ltF at hf
  split at hf
  · cases hf; cases ri r1; cases ri r2; exact .inl ⟨_, _, rfl, rfl, q.bl ex⟩
  · cases hf; cases rs r1; cases rs r2; exact .inr ⟨_, _, rfl, rfl, q.bl ex⟩
  · cases hf
theorem o2_le : Op2 K (fun x y H Q => rI0 (fun i j => .bl (decide (i ≤ j))) x y H Q ∨ (∃ i j, x = V.str i ∧ y = V.str j ∧ Q (.bl (!decide (j.cps.toList < i.cps.toList))) H)) leF := by
  intro F H Q x y d e o ex r1 r2 hf q
  unfold leF at hf
  split at hf
  · cases hf; cases ri r1; cases ri r2; exact .inl ⟨_, _, rfl, rfl, q.bl ex⟩
  · cases hf; cases rs r1; cases rs r2; exact .inr ⟨_, _, rfl, rfl, q.bl ex⟩
  · cases hf
theorem o2_gt : Op2 K (rI0 fun i j => .bl (decide (j < i))) gtF := by
  intro F H Q x y d e o ex r1 r2 hf q
  unfold gtF at hf
  split at hf
  · cases hf; cases ri r1; cases ri r2; exact ⟨_, _, rfl, rfl, q.bl ex⟩
  · cases hf
theorem o2_ge : Op2 K (rI0 fun i j => .bl (decide (j ≤ i))) geF := by
  intro F H Q x y d e o ex r1 r2 hf q
  unfold geF at hf
  split at hf
  · cases hf; cases ri r1; cases ri r2; exact ⟨_, _, rfl, rfl, q.bl ex⟩
  · cases hf
theorem non_ref {F : Hp} {d : D} {v : V} (h : Rep K F d v) : (decide (v = .non)) = isNon d := by
  cases d with
  | non => cases rn h; rfl
  | bl b => cases rb h; rfl
  | int b => cases ri h; rfl
  | str b => cases rs h; rfl
  | tup xs => unfold Rep at h; obtain ⟨a, vs, rfl, _⟩ := h; rfl
  | lst xs => unfold Rep at h; obtain ⟨a, vs, rfl, _⟩ := h; rfl
  | scr xs => unfold Rep at h; obtain ⟨a, rfl, _⟩ := h; rfl
  | obj C ns xs => unfold Rep at h; obtain ⟨a, dx, vs, rfl, _⟩ := h; rfl
  | exn _ _ _ _ => unfold Rep at h; obtain ⟨vs, rfl, _⟩ := h; rfl
  | dic _ _ => unfold Rep at h; obtain ⟨a, vs, rfl, _⟩ := h; rfl
theorem o2_isN : Op2 K (fun x y H Q => y = .non ∧ Q (.bl (decide (x = .non))) H) isNF := by
  intro F H Q x y d e o ex r1 r2 hf q
  unfold isNF at hf
  cases e with
  | non =>
    cases hf; cases rn r2
    refine ⟨rfl, ?_⟩
    have h := non_ref r1
    rw [h]
    exact q.bl ex
  | _ => cases hf
theorem o2_notN : Op2 K (fun x y H Q => y = .non ∧ Q (.bl (!decide (x = .non))) H) notNF := by
  intro F H Q x y d e o ex r1 r2 hf q
  unfold notNF at hf
  cases e with
  | non =>
    cases hf; cases rn r2
    refine ⟨rfl, ?_⟩
    have h := non_ref r1
    rw [h]
    exact q.bl ex
  | _ => cases hf
theorem o2_eq : Op2 K (rEqD K) eqF := by
  intro F H Q x y d e o ex r1 r2 hf q
  unfold eqF at hf
  split at hf
  · next h =>
    cases hf
    exact ⟨toP d, toP e, shp_dp 40 d x h.1 (Rep.mono ex _ _ r1), shp_dp 40 e y h.2 (Rep.mono ex _ _ r2), shp_shaped h.1, shp_shaped h.2, q.bl ex⟩
  · cases hf
theorem o2_ne : Op2 K (rNeD K) neF := by
  intro F H Q x y d e o ex r1 r2 hf q
  unfold neF at hf
  split at hf
  · next h =>
    cases hf
    exact ⟨toP d, toP e, shp_dp 40 d x h.1 (Rep.mono ex _ _ r1), shp_dp 40 e y h.2 (Rep.mono ex _ _ r2), shp_shaped h.1, shp_shaped h.2, q.bl ex⟩
  · cases hf
end
section
variable {X : Cx}
theorem op_add_all : OpR X (binaryOp .Add) (fun x y H Q => rI0 (fun i j => .int (i + j)) x y H Q ∨ (rCat x y H Q ∨ (rCatA X.K x y H Q ∨ (∃ i j, x = V.str i ∧ y = V.str j ∧ i.length + j.length ≤ sizeLine ∧ Q (.str (i ++ j)) H)))) := OpR.or op_add (OpR.or op_cat (OpR.or op_catA op_add_str))
theorem op_mul_all : OpR X (binaryOp .Mult) (fun x y H Q => rI CMul (fun i j => .int (i * j)) x y H Q ∨ (rRepT X.K x y H Q ∨ rRep x y H Q)) := OpR.or op_mul (OpR.or op_repT op_rep)
theorem op_lt_all : OpR X (compareOp .Lt) (fun x y H Q => rI0 (fun i j => .bl (decide (i < j))) x y H Q ∨ (∃ i j, x = V.str i ∧ y = V.str j ∧ Q (.bl (decide (i.cps.toList < j.cps.toList))) H)) := OpR.or op_lt op_lt_str
theorem op_le_all : OpR X (compareOp .LtE) (fun x y H Q => rI0 (fun i j => .bl (decide (i ≤ j))) x y H Q ∨ (∃ i j, x = V.str i ∧ y = V.str j ∧ Q (.bl (!decide (j.cps.toList < i.cps.toList))) H)) := OpR.or op_le op_le_str
end
/-! #### items, lengths, slices: by the outer form -/
def ixF : D → D → Option Out
  | .lst xs, .int i => (atI xs i).map .dt
  | .tup xs, .int i => (atI xs i).map .dt
  | .scr ns, .int i => (atI ns i).map fun n => .dt (.int n)
  | .str s, .int i => if s.length ≤ 100000 then (atI s.cps.toList i).map fun c => .dt (.str ⟨#[c]⟩) else none
  | _, _ => none
theorem atI_reps {K : PySem.W.Frag} {F : Hp} {xs : List D} {vs : List V} {i : Int} {d : D} (r : Reps K F xs vs) (h : atI xs i = some d) : ∃ v, atI vs i = some v ∧ Rep K F d v := by
  unfold atI at h ⊢
  rw [r.len]
  cases e : ixN xs.length i with
  | none => rw [e] at h; cases h
  | some j =>
    rw [e] at h
    obtain ⟨v, h1, h2⟩ := r.get h
    exact ⟨v, h1, h2⟩
theorem atI_map {α β : Type} {f : α → β} {xs : List α} {i : Int} {d : α} (h : atI xs i = some d) : atI (xs.map f) i = some (f d) := by
  unfold atI at h ⊢
  rw [List.length_map]
  cases e : ixN xs.length i with
  | none => rw [e] at h; cases h
  | some j =>
    rw [e] at h
    show (xs.map f)[j]? = _
    rw [List.getElem?_map]
    have h' : xs[j]? = some d := h
    rw [h']; rfl
theorem sv_ix {K : PySem.W.Frag} : ∀ F H Q x y d u o, Ex F H → SV K F H d x → Rep K F u y → ixF d u = some o → OutOk K F H Q o → (rIxL K x y H Q ∨ (rIxT K x y H Q ∨ rIxS x y H Q)) := by
  intro F H Q x y d u o ex sv r2 hf q
  unfold ixF at hf
  split at hf
  · next xs i =>
    cases e : atI xs i with
    | none => rw [e] at hf; cases hf
    | some z =>
      rw [e] at hf; cases hf
      cases ri r2
      obtain ⟨a, vs, rfl, h1, h2⟩ := sv
      obtain ⟨v, hv, rv⟩ := atI_reps h2 e
      exact .inl ⟨a, vs, i, v, rfl, rfl, Or.inl (Or.inl h1), hv, q.val ex rv⟩
  · next xs i =>
    cases e : atI xs i with
    | none => rw [e] at hf; cases hf
    | some z =>
      rw [e] at hf; cases hf
      cases ri r2
      have sv : Rep K F (.tup xs) x := sv
      unfold Rep at sv
      obtain ⟨a, vs, rfl, h1, h2⟩ := sv
      obtain ⟨v, hv, rv⟩ := atI_reps h2 e
      exact .inr (.inl ⟨a, vs, i, v, rfl, rfl, ex.t h1, hv, q.val ex rv⟩)
  · next xs i =>
    cases e : atI xs i with
    | none => rw [e] at hf; cases hf
    | some z =>
      rw [e] at hf; cases hf
      cases ri r2
      have sv : Rep K F (.scr xs) x := sv
      unfold Rep at sv
      obtain ⟨a, rfl, h1⟩ := sv
      exact .inl ⟨a, _, i, .int z, rfl, rfl, ex.l h1, atI_map e, q.int ex⟩
  · next s i =>
    split at hf
    · next h =>
      cases e : atI s.cps.toList i with
      | none => rw [e] at hf; cases hf
      | some z =>
        rw [e] at hf; cases hf
        cases ri r2
        have sv : Rep K F (.str s) x := sv
        cases rs sv
        exact .inr (.inr ⟨_, _, z, rfl, rfl, big_line h, e, q.str ex⟩)
    · cases hf
  · cases hf
theorem o2_ix {K : PySem.W.Frag} : Op2 K (fun x y H Q => rIxL K x y H Q ∨ (rIxT K x y H Q ∨ rIxS x y H Q)) ixF := fun F H Q x y d e o ex r1 r2 hf q => sv_ix F H Q x y d e o ex (SV.of ex r1) r2 hf q
theorem ix_all {X : Cx} : IxR X (fun x y H Q => rIxL X.K x y H Q ∨ (rIxT X.K x y H Q ∨ rIxS x y H Q)) := ix_list.or (ix_tup.or ix_str)
def lenD : D → Option Nat
  | .lst xs => some xs.length
  | .tup xs => some xs.length
  | .scr ns => some ns.length
  | .str s => if s.length ≤ 100000 then some s.length else none
  | _ => none
def lenF (d : D) : Option Out := (lenD d).map fun n => .dt (.int (n : Nat))
theorem sv_len {K : PySem.W.Frag} : ∀ F H Q v d o, Ex F H → SV K F H d v → lenF d = some o → OutOk K F H Q o → (∃ x n, [v] = [x] ∧ LenV K x H n ∧ Q (.int n) H) := by
  intro F H Q v d o ex sv hf q
  unfold lenF lenD at hf
  cases d with
  | lst xs =>
    cases hf
    obtain ⟨a, vs, rfl, h1, h2⟩ := sv
    exact ⟨_, xs.length, rfl, Or.inl ⟨vs, Or.inl (Or.inl h1), h2.len.symm⟩, q.int ex⟩
  | tup xs =>
    cases hf
    have sv : Rep K F (.tup xs) v := sv
    unfold Rep at sv
    obtain ⟨a, vs, rfl, h1, h2⟩ := sv
    exact ⟨_, xs.length, rfl, Or.inr ⟨vs, ex.t h1, h2.len.symm⟩, q.int ex⟩
  | scr xs =>
    cases hf
    have sv : Rep K F (.scr xs) v := sv
    unfold Rep at sv
    obtain ⟨a, rfl, h1⟩ := sv
    exact ⟨_, xs.length, rfl, Or.inl ⟨_, ex.l h1, by simp⟩, q.int ex⟩
  | str s =>
    simp only at hf
    split at hf
    · next h =>
      cases hf
      have sv : Rep K F (.str s) v := sv
      cases rs sv
      exact ⟨_, s.length, rfl, ⟨big_line h, rfl⟩, q.int ex⟩
    · cases hf
  | _ => cases hf
theorem co_len {K : PySem.W.Frag} : CallOk K (fun xs H Q => ∃ x n, xs = [x] ∧ LenV K x H n ∧ Q (.int n) H) (one lenF) := by
  intro F H Q vs ds o ex rd hf q
  match ds, hf with
  | [d], hf =>
    unfold Reps at rd
    obtain ⟨v, r, rfl, a1, a2⟩ := rd
    unfold Reps at a2
    subst a2
    exact sv_len F H Q v d o ex (SV.of ex a1) hf q
/-- the items from lo to hi -/
def cut {α : Type} (xs : List α) (lo hi : Option Int) : List α := (xs.drop (HT.sIx xs.length 0 lo)).take (HT.sIx xs.length xs.length hi - HT.sIx xs.length 0 lo)
def slF (d : D) (lo hi : Option Int) : Option Out := match d with
  | .lst xs => some (.nl (cut xs lo hi))
  | .tup xs => some (.dt (.tup (cut xs lo hi)))
  | .scr ns => some (.nl (cut (ns.map .int) lo hi))
  | .str s => if s.length ≤ 100000 then some (.dt (.str (cutS s lo hi))) else none
  | _ => none
theorem cut_reps {K : PySem.W.Frag} {F : Hp} {xs : List D} {vs : List V} (r : Reps K F xs vs) (lo hi : Option Int) : Reps K F (cut xs lo hi) (cutV vs lo hi) := by
  unfold cut cutV
  rw [r.len]
  exact (r.drop _).take _
theorem sv_sl {K : PySem.W.Frag} : ∀ F H Q x d lo hi o, Ex F H → SV K F H d x → slF d lo hi = some o → OutOk K F H Q o → (rSlL K x lo hi H Q ∨ (rSlA K x lo hi H Q ∨ rSlS x lo hi H Q)) := by
  intro F H Q x d lo hi o ex sv hf q
  unfold slF at hf
  cases d with
  | lst xs =>
    cases hf
    obtain ⟨a, vs, rfl, h1, h2⟩ := sv
    exact .inl ⟨a, vs, rfl, Or.inl (Or.inl h1), fun p hp => q p _ hp (cut_reps h2 lo hi)⟩
  | tup xs =>
    cases hf
    have sv : Rep K F (.tup xs) x := sv
    have sv2 := sv
    unfold Rep at sv
    obtain ⟨a, vs, rfl, h1, h2⟩ := sv
    refine .inr (.inl ⟨a, vs, rfl, ex.t h1, fun hw => ?_, fun _ p hp => q.tup ex (cut_reps h2 lo hi) hp⟩)
    have ev : cut xs lo hi = xs := by
      rw [h2.len] at hw
      unfold cut
      rw [hw.1, hw.2]
      simp
    rw [ev] at q
    exact q.val ex sv2
  | scr xs =>
    cases hf
    have sv : Rep K F (.scr xs) x := sv
    unfold Rep at sv
    obtain ⟨a, rfl, h1⟩ := sv
    refine .inl ⟨a, _, rfl, ex.l h1, fun p hp => q p _ hp (cut_reps (reps_ints xs) lo hi)⟩
  | str s =>
    simp only at hf
    split at hf
    · next h =>
      cases hf
      have sv : Rep K F (.str s) x := sv
      cases rs sv
      exact .inr (.inr ⟨s, rfl, big_line h, q.str ex⟩)
    · cases hf
  | _ => cases hf
end SL

set_option Elab.async false
set_option linter.all false
set_option maxRecDepth 100000
set_option maxHeartbeats 4000000
namespace SL
open PySem PySem.Spec L2
/-! ### built-ins -/
def intsOf : List D → Option (List Int)
  | [] => some []
  | .int i :: r => (intsOf r).map (i :: ·)
  | _ :: _ => none
def boolsOf : List D → Option (List Bool)
  | [] => some []
  | .bl i :: r => (boolsOf r).map (i :: ·)
  | _ :: _ => none
section
variable {K : PySem.W.Frag}
theorem ints_rep {F : Hp} : ∀ {xs : List D} {vs : List V} {ns : List Int}, intsOf xs = some ns → Reps K F xs vs → vs = ns.map V.int
  | [], vs, ns, h, r => by unfold intsOf at h; cases h; unfold Reps at r; exact r
  | x :: xs, vs, ns, h, r => by
    unfold Reps at r
    obtain ⟨v, vr, rfl, r1, r2⟩ := r
    cases x with
    | int i =>
      unfold intsOf at h
      cases e : intsOf xs with
      | none => rw [e] at h; cases h
      | some ms =>
        rw [e] at h; cases h
        cases ri r1
        rw [ints_rep e r2]; rfl
    | _ => unfold intsOf at h; cases h
theorem bools_rep {F : Hp} : ∀ {xs : List D} {vs : List V} {ns : List Bool}, boolsOf xs = some ns → Reps K F xs vs → vs = ns.map V.bl
  | [], vs, ns, h, r => by unfold boolsOf at h; cases h; unfold Reps at r; exact r
  | x :: xs, vs, ns, h, r => by
    unfold Reps at r
    obtain ⟨v, vr, rfl, r1, r2⟩ := r
    cases x with
    | bl i =>
      unfold boolsOf at h
      cases e : boolsOf xs with
      | none => rw [e] at h; cases h
      | some ms =>
        rw [e] at h; cases h
        cases rb r1
        rw [bools_rep e r2]; rfl
    | _ => unfold boolsOf at h; cases h
def absF : List D → Option Out
  | [.int i] => some (.dt (.int (if i < 0 then -i else i)))
  | _ => none
theorem co_abs : CallOk K (fun xs H Q => ∃ i, xs = [.int i] ∧ Q (.int (if i < 0 then -i else i)) H) absF := by
  intro F H Q vs ds o ex rd hf q
  unfold absF at hf
  split at hf
  · cases hf
    obtain ⟨x, r, rfl, a1, a2⟩ := (by unfold Reps at rd; exact rd)
    unfold Reps at a2
    subst a2
    cases ri a1
    exact ⟨_, rfl, q.int ex⟩
  · cases hf
theorem reps_two {F : Hp} {d e : D} {vs : List V} (r : Reps K F [d, e] vs) : ∃ x y, vs = [x, y] ∧ Rep K F d x ∧ Rep K F e y := by
  unfold Reps at r
  obtain ⟨v, vr, rfl, r1, r2⟩ := r
  unfold Reps at r2
  obtain ⟨w, wr, rfl, r3, r4⟩ := r2
  unfold Reps at r4
  subst r4
  exact ⟨_, _, rfl, r1, r3⟩
theorem reps_one {F : Hp} {d : D} {vs : List V} (r : Reps K F [d] vs) : ∃ x, vs = [x] ∧ Rep K F d x := by
  unfold Reps at r
  obtain ⟨v, vr, rfl, r1, r2⟩ := r
  unfold Reps at r2
  subst r2
  exact ⟨_, rfl, r1⟩
def max2F : List D → Option Out
  | [.int i, .int j] => some (.dt (.int (if j > i then j else i)))
  | _ => none
def min2F : List D → Option Out
  | [.int i, .int j] => some (.dt (.int (if j < i then j else i)))
  | _ => none
theorem co_max2 : CallOk K (fun xs H Q => ∃ i j, xs = [.int i, .int j] ∧ Q (.int (if j > i then j else i)) H) max2F := by
  intro F H Q vs ds o ex rd hf q
  unfold max2F at hf
  split at hf
  · cases hf
    obtain ⟨x, y, rfl, a1, a2⟩ := reps_two rd
    cases ri a1; cases ri a2
    exact ⟨_, _, rfl, q.int ex⟩
  · cases hf
theorem co_min2 : CallOk K (fun xs H Q => ∃ i j, xs = [.int i, .int j] ∧ Q (.int (if j < i then j else i)) H) min2F := by
  intro F H Q vs ds o ex rd hf q
  unfold min2F at hf
  split at hf
  · cases hf
    obtain ⟨x, y, rfl, a1, a2⟩ := reps_two rd
    cases ri a1; cases ri a2
    exact ⟨_, _, rfl, q.int ex⟩
  · cases hf
def maxL : List Int → Int
  | [] => 0
  | n :: ns => ns.foldl max n
def minL : List Int → Int
  | [] => 0
  | n :: ns => ns.foldl min n
theorem foldl_max : ∀ (ns : List Int) (n : Int), (ns.foldl max n = n ∨ ns.foldl max n ∈ ns) ∧ n ≤ ns.foldl max n ∧ ∀ y ∈ ns, y ≤ ns.foldl max n
  | [], n => ⟨.inl rfl, Int.le_refl _, fun y h => by cases h⟩
  | m :: ns, n => by
    obtain ⟨h1, h2, h3⟩ := foldl_max ns (max n m)
    simp only [List.foldl_cons]
    refine ⟨?_, by omega, fun y hy => ?_⟩
    · rcases h1 with h | h
      · by_cases c : n ≤ m
        · right; rw [h]; rw [show max n m = m by omega]; exact List.mem_cons_self
        · left; rw [h]; omega
      · right; exact List.mem_cons_of_mem _ h
    · rcases List.mem_cons.mp hy with rfl | hy
      · omega
      · exact h3 y hy
theorem foldl_min : ∀ (ns : List Int) (n : Int), (ns.foldl min n = n ∨ ns.foldl min n ∈ ns) ∧ ns.foldl min n ≤ n ∧ ∀ y ∈ ns, ns.foldl min n ≤ y
  | [], n => ⟨.inl rfl, Int.le_refl _, fun y h => by cases h⟩
  | m :: ns, n => by
    obtain ⟨h1, h2, h3⟩ := foldl_min ns (min n m)
    simp only [List.foldl_cons]
    refine ⟨?_, by omega, fun y hy => ?_⟩
    · rcases h1 with h | h
      · by_cases c : m ≤ n
        · right; rw [h]; rw [show min n m = m by omega]; exact List.mem_cons_self
        · left; rw [h]; omega
      · right; exact List.mem_cons_of_mem _ h
    · rcases List.mem_cons.mp hy with rfl | hy
      · omega
      · exact h3 y hy
theorem maxL_spec {ns : List Int} (h : ns ≠ []) : maxL ns ∈ ns ∧ ∀ y ∈ ns, y ≤ maxL ns := by
  cases ns with
  | nil => exact absurd rfl h
  | cons n ns =>
    obtain ⟨h1, h2, h3⟩ := foldl_max ns n
    refine ⟨?_, fun y hy => ?_⟩
    · rcases h1 with h | h
      · show ns.foldl max n ∈ n :: ns; rw [h]; exact List.mem_cons_self
      · exact List.mem_cons_of_mem _ h
    · rcases List.mem_cons.mp hy with rfl | hy
      · exact h2
      · exact h3 y hy
theorem minL_spec {ns : List Int} (h : ns ≠ []) : minL ns ∈ ns ∧ ∀ y ∈ ns, minL ns ≤ y := by
  cases ns with
  | nil => exact absurd rfl h
  | cons n ns =>
    obtain ⟨h1, h2, h3⟩ := foldl_min ns n
    refine ⟨?_, fun y hy => ?_⟩
    · rcases h1 with h | h
      · show ns.foldl min n ∈ n :: ns; rw [h]; exact List.mem_cons_self
      · exact List.mem_cons_of_mem _ h
    · rcases List.mem_cons.mp hy with rfl | hy
      · exact h2
      · exact h3 y hy
def maxF : List D → Option Out
  | [.lst xs] => match intsOf xs with
    | some (n :: ns) => some (.dt (.int (maxL (n :: ns))))
    | _ => none
  | _ => none
def minF : List D → Option Out
  | [.lst xs] => match intsOf xs with
    | some (n :: ns) => some (.dt (.int (minL (n :: ns))))
    | _ => none
  | _ => none
def sumF : List D → Option Out
  | [.lst xs] => (intsOf xs).map fun ns => .dt (.int ns.sum)
  | _ => none
def allF : List D → Option Out
  | [.lst xs] => (boolsOf xs).map fun ns => .dt (.bl (ns.all id))
  | _ => none
def anyF : List D → Option Out
  | [.lst xs] => (boolsOf xs).map fun ns => .dt (.bl (ns.any id))
  | _ => none
theorem lst_ex {F H : Hp} {xs : List D} {v : V} (ex : Ex F H) (h : Rep K F (.lst xs) v) : ∃ a vs, v = .ref a ∧ SqL K H a vs ∧ Reps K F xs vs := by
  unfold Rep at h
  obtain ⟨a, vs, e1, e2, e3⟩ := h
  exact ⟨a, vs, e1, Or.inl (Or.inl (ex _ _ e2)), e3⟩
theorem co_max : CallOk K (rMax K) maxF := by
  intro F H Q vs ds o ex rd hf q
  unfold maxF at hf
  split at hf
  · split at hf
    · next n ns hi =>
      cases hf
      obtain ⟨x, rfl, a1⟩ := reps_one rd
      obtain ⟨a, us, rfl, e2, e3⟩ := lst_ex ex a1
      rw [ints_rep hi e3] at e2
      refine ⟨a, _, rfl, e2, by simp, fun m hm hle => ?_⟩
      obtain ⟨p1, p2⟩ := maxL_spec (ns := n :: ns) (by simp)
      have : m = maxL (n :: ns) := Int.le_antisymm (p2 m hm) (hle _ p1)
      rw [this]; exact q.int ex
    · cases hf
  · cases hf
theorem co_min : CallOk K (rMin K) minF := by
  intro F H Q vs ds o ex rd hf q
  unfold minF at hf
  split at hf
  · split at hf
    · next n ns hi =>
      cases hf
      obtain ⟨x, rfl, a1⟩ := reps_one rd
      obtain ⟨a, us, rfl, e2, e3⟩ := lst_ex ex a1
      rw [ints_rep hi e3] at e2
      refine ⟨a, _, rfl, e2, by simp, fun m hm hle => ?_⟩
      obtain ⟨p1, p2⟩ := minL_spec (ns := n :: ns) (by simp)
      have : m = minL (n :: ns) := Int.le_antisymm (hle _ p1) (p2 m hm)
      rw [this]; exact q.int ex
    · cases hf
  · cases hf
theorem co_sum : CallOk K (rSum K) sumF := by
  intro F H Q vs ds o ex rd hf q
  unfold sumF at hf
  split at hf
  · next xs =>
    cases hi : intsOf xs with
    | none => rw [hi] at hf; cases hf
    | some ns =>
      rw [hi] at hf; cases hf
      obtain ⟨x, rfl, a1⟩ := reps_one rd
      obtain ⟨a, us, rfl, e2, e3⟩ := lst_ex ex a1
      rw [ints_rep hi e3] at e2
      exact ⟨a, _, rfl, e2, q.int ex⟩
  · cases hf
theorem co_all : CallOk K (rAll K) allF := by
  intro F H Q vs ds o ex rd hf q
  unfold allF at hf
  split at hf
  · next xs =>
    cases hi : boolsOf xs with
    | none => rw [hi] at hf; cases hf
    | some ns =>
      rw [hi] at hf; cases hf
      obtain ⟨x, rfl, a1⟩ := reps_one rd
      obtain ⟨a, us, rfl, e2, e3⟩ := lst_ex ex a1
      rw [bools_rep hi e3] at e2
      exact ⟨a, _, rfl, e2, q.bl ex⟩
  · cases hf
theorem co_any : CallOk K (rAny K) anyF := by
  intro F H Q vs ds o ex rd hf q
  unfold anyF at hf
  split at hf
  · next xs =>
    cases hi : boolsOf xs with
    | none => rw [hi] at hf; cases hf
    | some ns =>
      rw [hi] at hf; cases hf
      obtain ⟨x, rfl, a1⟩ := reps_one rd
      obtain ⟨a, us, rfl, e2, e3⟩ := lst_ex ex a1
      rw [bools_rep hi e3] at e2
      exact ⟨a, _, rfl, e2, q.bl ex⟩
  · cases hf
/-! int(n), list(x), tuple(x) -/
def intF : List D → Option Out
  | [.int i] => some (.dt (.int i))
  | _ => none
theorem co_int : CallOk K (fun xs H Q => (∃ i, xs = [.int i] ∧ Q (.int i) H) ∨ ∃ k, xs = [.bl k] ∧ Q (.int (if k then 1 else 0)) H) intF := by
  intro F H Q vs ds o ex rd hf q
  unfold intF at hf
  split at hf
  · cases hf
    obtain ⟨x, rfl, a1⟩ := reps_one rd
    cases ri a1
    exact .inl ⟨_, rfl, q.int ex⟩
  · cases hf
def lstF (d : D) : Option Out := (itemsD d).map .nl
theorem sv_lst : ∀ F H Q v d o, Ex F H → SV K F H d v → lstF d = some o → OutOk K F H Q o → (∃ p ys, [v] = [V.ref p] ∧ (SqL K H p ys ∨ SqT K H p ys) ∧ ∀ l, H l = none → Q (.ref l) (upd H l (.lst ys))) := by
  intro F H Q v d o ex sv hf q
  unfold lstF itemsD at hf
  cases d with
  | lst xs =>
    cases hf
    obtain ⟨a, vs, rfl, h1, h2⟩ := sv
    exact ⟨a, vs, rfl, .inl (Or.inl (Or.inl h1)), fun l hl => q l vs hl h2⟩
  | tup xs =>
    cases hf
    have sv : Rep K F (.tup xs) v := sv
    unfold Rep at sv
    obtain ⟨a, vs, rfl, h1, h2⟩ := sv
    exact ⟨a, vs, rfl, .inr (ex.t h1), fun l hl => q l vs hl h2⟩
  | scr xs =>
    cases hf
    have sv : Rep K F (.scr xs) v := sv
    unfold Rep at sv
    obtain ⟨a, rfl, h1⟩ := sv
    exact ⟨a, _, rfl, .inl (ex.l h1), fun l hl => q l _ hl (reps_ints xs)⟩
  | _ => cases hf
theorem co_lst : CallOk K (fun xs H Q => ∃ p ys, xs = [V.ref p] ∧ (SqL K H p ys ∨ SqT K H p ys) ∧ ∀ l, H l = none → Q (.ref l) (upd H l (.lst ys))) (one lstF) := by
  intro F H Q vs ds o ex rd hf q
  match ds, hf with
  | [d], hf =>
    obtain ⟨x, rfl, a1⟩ := reps_one rd
    exact sv_lst F H Q x d o ex (SV.of ex a1) hf q
def tupF (d : D) : Option Out := match d with
  | .lst xs => some (.dt (.tup xs))
  | .tup xs => some (.dt (.tup xs))
  | .scr xs => some (.dt (.tup (xs.map .int)))
  | _ => none
theorem sv_tup : ∀ F H Q v d o, Ex F H → SV K F H d v → tupF d = some o → OutOk K F H Q o → (∃ p ys, [v] = [V.ref p] ∧ ((SqL K H p ys ∧ ∀ l, H l = none → Q (.ref l) (upd H l (.tup ys))) ∨ (SqT K H p ys ∧ Q (.ref p) H))) := by
  intro F H Q v d o ex sv hf q
  unfold tupF at hf
  cases d with
  | lst xs =>
    cases hf
    obtain ⟨a, vs, rfl, h1, h2⟩ := sv
    exact ⟨a, vs, rfl, .inl ⟨Or.inl (Or.inl h1), fun l hl => q.tup ex h2 hl⟩⟩
  | tup xs =>
    cases hf
    have sv : Rep K F (.tup xs) v := sv
    have sv2 := sv
    unfold Rep at sv
    obtain ⟨a, vs, rfl, h1, h2⟩ := sv
    exact ⟨a, vs, rfl, .inr ⟨ex.t h1, q.val ex sv2⟩⟩
  | scr xs =>
    cases hf
    have sv : Rep K F (.scr xs) v := sv
    unfold Rep at sv
    obtain ⟨a, rfl, h1⟩ := sv
    exact ⟨a, _, rfl, .inl ⟨ex.l h1, fun l hl => q.tup ex (reps_ints xs) hl⟩⟩
  | _ => cases hf
theorem co_tup : CallOk K (fun xs H Q => ∃ p ys, xs = [V.ref p] ∧ ((SqL K H p ys ∧ ∀ l, H l = none → Q (.ref l) (upd H l (.tup ys))) ∨ (SqT K H p ys ∧ Q (.ref p) H))) (one tupF) := by
  intro F H Q vs ds o ex rd hf q
  match ds, hf with
  | [d], hf =>
    obtain ⟨x, rfl, a1⟩ := reps_one rd
    exact sv_tup F H Q x d o ex (SV.of ex a1) hf q
/-! x in t, t flat -/
def flatD : D → Bool
  | .non => true
  | .bl _ => true
  | .int _ => true
  | .str _ => true
  | _ => false
def eqFl (d e : D) : Bool := match d, e with
  | .non, .non => true
  | .bl a, .bl b => a == b
  | .bl a, .int b => (if a then 1 else 0) == b
  | .int a, .bl b => a == (if b then 1 else 0)
  | .int a, .int b => a == b
  | .str a, .str b => a == b
  | _, _ => false
def inD (d : D) (xs : List D) : Bool := xs.any fun e => eqFl e d
def inF (d e : D) : Option Out := match itemsD e with
  | some xs => if flatD d = true ∧ xs.all flatD = true then some (.dt (.bl (inD d xs))) else none
  | none => none
def ninF (d e : D) : Option Out := match itemsD e with
  | some xs => if flatD d = true ∧ xs.all flatD = true then some (.dt (.bl (!inD d xs))) else none
  | none => none
theorem flat_rep {F : Hp} {d : D} {v : V} (h : flatD d = true) (r : Rep K F d v) : flatV v = true := by
  cases d with
  | non => cases rn r; rfl
  | bl b => cases rb r; rfl
  | int b => cases ri r; rfl
  | str b => cases rs r; rfl
  | _ => cases h
theorem eqFl_rep {F : Hp} {d e : D} {v u : V} (h : flatD d = true) (g : flatD e = true) (r : Rep K F d v) (s : Rep K F e u) : eqV v u = eqFl d e := by
  cases d with
  | non => cases rn r; cases e with
    | non => cases rn s; rfl
    | bl b => cases rb s; rfl
    | int b => cases ri s; rfl
    | str b => cases rs s; rfl
    | _ => cases g
  | bl a => cases rb r; cases e with
    | non => cases rn s; rfl
    | bl b => cases rb s; rfl
    | int b => cases ri s; rfl
    | str b => cases rs s; rfl
    | _ => cases g
  | int a => cases ri r; cases e with
    | non => cases rn s; rfl
    | bl b => cases rb s; rfl
    | int b => cases ri s; rfl
    | str b => cases rs s; rfl
    | _ => cases g
  | str a => cases rs r; cases e with
    | non => cases rn s; rfl
    | bl b => cases rb s; rfl
    | int b => cases ri s; rfl
    | str b => cases rs s; rfl
    | _ => cases g
  | _ => cases h
theorem in_rep {F : Hp} {d : D} {v : V} (h : flatD d = true) (r : Rep K F d v) : ∀ {xs : List D} {vs : List V}, xs.all flatD = true → Reps K F xs vs → vs.all flatV = true ∧ inV v vs = inD d xs
  | [], vs, g, s => by unfold Reps at s; subst s; exact ⟨rfl, rfl⟩
  | x :: xs, vs, g, s => by
    unfold Reps at s
    obtain ⟨u, ur, rfl, s1, s2⟩ := s
    rw [List.all_cons, Bool.and_eq_true] at g
    obtain ⟨g1, g2⟩ := in_rep h r g.2 s2
    refine ⟨by rw [List.all_cons, flat_rep g.1 s1, g1]; rfl, ?_⟩
    unfold inV inD at *
    rw [List.any_cons, List.any_cons, g2, eqFl_rep g.1 h s1 r]
theorem items_rep {F H : Hp} {e : D} {y : V} {xs : List D} (ex : Ex F H) (h : itemsD e = some xs) (r : Rep K F e y) : ∃ p vs, y = .ref p ∧ (SqL K H p vs ∨ SqT K H p vs) ∧ Reps K F xs vs := by
  unfold itemsD at h
  cases e with
  | lst ys => cases h; obtain ⟨a, vs, rfl, h1, h2⟩ := lst_ex ex r; exact ⟨a, vs, rfl, .inl h1, h2⟩
  | tup ys => cases h; unfold Rep at r; obtain ⟨a, vs, rfl, h1, h2⟩ := r; exact ⟨a, vs, rfl, .inr (ex.t h1), h2⟩
  | scr ns => cases h; unfold Rep at r; obtain ⟨a, rfl, h1⟩ := r; exact ⟨a, _, rfl, .inl (ex.l h1), reps_ints ns⟩
  | _ => cases h
theorem o2_in : Op2 K (rIn K false) inF := by
  intro F H Q x y d e o ex r1 r2 hf q
  unfold inF at hf
  split at hf
  · next xs hi =>
    split at hf
    · next h =>
      cases hf
      obtain ⟨p, vs, rfl, h1, h2⟩ := items_rep ex hi r2
      obtain ⟨g1, g2⟩ := in_rep h.1 r1 h.2 h2
      refine ⟨p, vs, rfl, h1, flat_rep h.1 r1, g1, ?_⟩
      show Q (.bl (inV x vs)) H
      rw [g2]; exact q.bl ex
    · cases hf
  · cases hf
theorem o2_nin : Op2 K (rIn K true) ninF := by
  intro F H Q x y d e o ex r1 r2 hf q
  unfold ninF at hf
  split at hf
  · next xs hi =>
    split at hf
    · next h =>
      cases hf
      obtain ⟨p, vs, rfl, h1, h2⟩ := items_rep ex hi r2
      obtain ⟨g1, g2⟩ := in_rep h.1 r1 h.2 h2
      refine ⟨p, vs, rfl, h1, flat_rep h.1 r1, g1, ?_⟩
      show Q (.bl (!inV x vs)) H
      rw [g2]; exact q.bl ex
    · cases hf
  · cases hf
/-! isinstance -/
def tyN : D → Option String
  | .non => some "NoneType"
  | .bl _ => some "bool"
  | .int _ => some "int"
  | .str _ => some "str"
  | .tup _ => some "tuple"
  | .lst _ => some "list"
  | .scr _ => some "list"
  | .obj _ _ _ => none
  | .exn _ _ _ _ => none
  | .dic _ _ => some "dict"
def tyNs : List String := ["NoneType", "bool", "int", "str", "tuple", "list", "dict"]
def isB (a b : String) : Bool := a == b || (a == "bool" && b == "int")
theorem kit_all : ∀ a ∈ tyNs, ∀ b ∈ tyNs, kitB a b = some (isB a b) := by decide +kernel
theorem tyN_mem {d : D} {n : String} (h : tyN d = some n) : n ∈ tyNs := by
  cases d <;> cases h <;> decide
theorem tyX_of {F H : Hp} {d : D} {v : V} {n : String} (ex : Ex F H) (h : tyN d = some n) (r : Rep K F d v) : TyX K H v (.type n) := by
  cases d with
  | non => cases h; cases rn r; exact .base .non
  | bl b => cases h; cases rb r; exact .base (.bl b)
  | int b => cases h; cases ri r; exact .base (.int b)
  | str b => cases h; cases rs r; exact .base (.str b)
  | tup xs =>
    cases h
    unfold Rep at r
    obtain ⟨a, vs, rfl, h1, _⟩ := r
    rcases h1 with (h1 | ⟨o, h1⟩) | ⟨o, its, m, h1, h2, _⟩
    · exact .base (.tup (ex _ _ h1))
    · exact .fTuple (ex _ _ h1)
    · exact .kTuple h1 h2
  | lst xs =>
    cases h
    unfold Rep at r
    obtain ⟨a, vs, rfl, h1, _⟩ := r
    exact .base (.lst (ex _ _ h1))
  | scr xs =>
    cases h
    unfold Rep at r
    obtain ⟨a, rfl, h1⟩ := r
    rcases h1 with (h1 | ⟨o, h1⟩) | ⟨o, its, m, h1, h2, _⟩
    · exact .base (.lst (ex _ _ h1))
    · exact .base (.frz (ex _ _ h1))
    · exact .kList h1 h2
  | obj _ _ _ => cases h
  | exn _ _ _ _ => cases h
  | dic ks xs =>
    cases h
    unfold Rep at r
    obtain ⟨a, vs, rfl, h1, _⟩ := r
    exact .base (.dK (ex _ _ h1))
/-- an own class: what isinstance asks of it -/
structure IsC (K : PySem.W.Frag) (C : Str) : Prop where
  cl : Cls K (He.ga K C)
  ha : PySem.W.findIn K (.ref (He.ga K C)) "__class__" = some (some (.builtin "object.__class__"))
  hn : PySem.W.specialIn K (.builtin "object.__class__") "__get__" = some (some (.builtin "getset_descriptor.__get__"))
  ht : PySem.W.takesIn K (.builtin "object.__class__") = some true
  hm : PySem.W.mroIn K (He.ga K C) (.type "object") = some true
  no : ∀ n ∈ tyNs, PySem.W.kitOne K (.type n) (.ref (He.ga K C)) = some false
  on : ∀ n ∈ tyNs, PySem.W.kitOne K (.ref (He.ga K C)) (.type n) = some false
/-- isinstance(x, T), T a built-in type; cs: own classes whose instances may stand there -/
def isTF (cs : List Str) (b : String) (d : D) : Option Out := match d with
  | .obj C _ _ => if cs.contains C = true then some (.dt (.bl false)) else none
  | d => (tyN d).map fun a => .dt (.bl (isB a b))
theorem obj_ty {F H : Hp} {C : Str} {ns : List Str} {fs : List D} {v : V} (c : IsC K C) (ex : Ex F H) (r : Rep K F (.obj C ns fs) v) : TyX K H v (.ref (He.ga K C)) := by
  unfold Rep at r
  obtain ⟨a, dx, vs, rfl, h1, _⟩ := r
  exact .base (.ins (ex _ _ h1) c.cl c.ha c.hn c.ht c.hm)
theorem isT_ok {cs : List Str} {b : String} {F H : Hp} {Q : VK} {d : D} {v : V} {o : Out} (hcs : ∀ C ∈ cs, IsC K C) (hb : b ∈ tyNs) (ex : Ex F H) (r : Rep K F d v) (hf : isTF cs b d = some o) (q : OutOk K F H Q o) : ∃ t r, TyX K H v t ∧ PySem.W.kitOne K t (.type b) = some r ∧ Q (.bl r) H := by
  unfold isTF at hf
  have plain : ∀ n, tyN d = some n → (tyN d).map (fun a => Out.dt (.bl (isB a b))) = some o → ∃ t r, TyX K H v t ∧ PySem.W.kitOne K t (.type b) = some r ∧ Q (.bl r) H := fun n hn hf => by
    rw [hn] at hf
    cases hf
    exact ⟨.type n, _, tyX_of ex hn r, kit_ty (kit_all n (tyN_mem hn) b hb), q.bl ex⟩
  cases d with
  | obj C ns fs =>
    simp only at hf
    split at hf
    · next h =>
      cases hf
      have c := hcs C (by simpa using h)
      exact ⟨_, false, obj_ty c ex r, c.on b hb, q.bl ex⟩
    · cases hf
  | non => exact plain _ rfl hf
  | bl _ => exact plain _ rfl hf
  | int _ => exact plain _ rfl hf
  | str _ => exact plain _ rfl hf
  | tup _ => exact plain _ rfl hf
  | lst _ => exact plain _ rfl hf
  | scr _ => exact plain _ rfl hf
  | exn _ _ _ _ => cases (show (none : Option Out) = some o from hf)
  | dic _ _ => exact plain _ rfl hf
/-- isinstance(x, C), C an own class -/
def isOF (C : Str) (d : D) : Option Out := match d with
  | .obj C' _ _ => if C' = C then some (.dt (.bl true)) else none
  | d => (tyN d).map fun _ => .dt (.bl false)
theorem isO_ok {C : Str} {F H : Hp} {Q : VK} {d : D} {v : V} {o : Out} (c : IsC K C) (ex : Ex F H) (r : Rep K F d v) (hf : isOF C d = some o) (q : OutOk K F H Q o) : ∃ t r, TyX K H v t ∧ PySem.W.kitOne K t (.ref (He.ga K C)) = some r ∧ Q (.bl r) H := by
  unfold isOF at hf
  have plain : ∀ n, tyN d = some n → (tyN d).map (fun _ => Out.dt (.bl false)) = some o → ∃ t r, TyX K H v t ∧ PySem.W.kitOne K t (.ref (He.ga K C)) = some r ∧ Q (.bl r) H := fun n hn hf => by
    rw [hn] at hf
    cases hf
    exact ⟨.type n, _, tyX_of ex hn r, c.no n (tyN_mem hn), q.bl ex⟩
  cases d with
  | obj C' ns fs =>
    simp only at hf
    split at hf
    · next h =>
      subst h
      cases hf
      refine ⟨_, true, obj_ty c ex r, ?_, q.bl ex⟩
      unfold PySem.W.kitOne
      rw [if_pos (by simp)]
    · cases hf
  | non => exact plain _ rfl hf
  | bl _ => exact plain _ rfl hf
  | int _ => exact plain _ rfl hf
  | str _ => exact plain _ rfl hf
  | tup _ => exact plain _ rfl hf
  | lst _ => exact plain _ rfl hf
  | scr _ => exact plain _ rfl hf
  | exn _ _ _ _ => cases (show (none : Option Out) = some o from hf)
  | dic _ _ => exact plain _ rfl hf
end
section
variable {X : Cx} {W : WX} {a b c e : Expr} {es : List Expr} {ma mb mc : Mo T} {pos : Pos} {n : Mo (List T)}
theorem se_isT {b : Str} {bn : String} {cs : List Str} {p p2 : Pos} (hcs : ∀ C ∈ cs, IsC X.K C) (ha : SE X W a ma) (hm : X.mg "isinstance" = none) (hb : X.mg b = none) (hv : bootBuiltins b = some (.type bn)) (hbn : bn ∈ tyNs := by decide) (hg : Gl X "isinstance" := by rfl) (hg2 : Gl X b := by rfl)
    (hn : b ≠ "__name__" := by decide) (hd : (b == ("__debug__" : Str)) = false := by decide) (he : starEach [a, .Name b p2] X.env = (false, eval a X.env) :: starEach [.Name b p2] X.env := by rfl) (he2 : starEach [.Name b p2] X.env = (false, eval (.Name b p2) X.env) :: starEach [] X.env := by rfl)
    (hpl : (backTo pos (starEach [.Name b p2] X.env)).any (·.1) = false := by rfl) : SE X W (.Call (.Name "isinstance" p) [a, .Name b p2] [] pos) (una (isTF cs bn) ma) := by
  obtain ⟨te, q1, z1⟩ := ha
  refine ⟨_, pe_callB call_isi hg hm PyProof.Rows.boot_isinstance (pa_cons q1 (pa_cons (pe_bltn (v := .ty bn) hg2 hb hv rfl hn hd) pa_nil he2) he) (by decide) (by decide) he hpl, ?_⟩
  refine SndX.bnd (t2 := fun x σ H Q => rIsi X.K [x, .ty bn] H Q) rfl z1 fun t x _ => ?_
  refine snd_out (f := one (isTF cs bn)) [t] [x] fun F H σ Q ds o ex rd hf q => ?_
  obtain ⟨d, rfl, r1⟩ := reps1 rd
  obtain ⟨t, r, h1, h2, h3⟩ := isT_ok hcs hbn ex r1 hf q
  exact ⟨x, .ty bn, t, .type bn, r, rfl, .ty bn, h1, h2, h3⟩
theorem se_isO {C : Str} {p p2 : Pos} (c : IsC X.K C) (ha : SE X W a ma) (hm : X.mg "isinstance" = none) (hC : X.mg C = some (.ref (He.ga X.K C))) (hg : Gl X "isinstance" := by rfl) (hg2 : Gl X C := by rfl)
    (hd : (C == ("__debug__" : Str)) = false := by decide) (he : starEach [a, .Name C p2] X.env = (false, eval a X.env) :: starEach [.Name C p2] X.env := by rfl) (he2 : starEach [.Name C p2] X.env = (false, eval (.Name C p2) X.env) :: starEach [] X.env := by rfl)
    (hpl : (backTo pos (starEach [.Name C p2] X.env)).any (·.1) = false := by rfl) : SE X W (.Call (.Name "isinstance" p) [a, .Name C p2] [] pos) (una (isOF C) ma) := by
  obtain ⟨te, q1, z1⟩ := ha
  refine ⟨_, pe_callB call_isi hg hm PyProof.Rows.boot_isinstance (pa_cons q1 (pa_cons (pe_glob (v := .ref (He.ga X.K C)) hg2 hC rfl hd) pa_nil he2) he) (by decide) (by decide) he hpl, ?_⟩
  refine SndX.bnd (t2 := fun x σ H Q => rIsi X.K [x, .ref (He.ga X.K C)] H Q) rfl z1 fun t x _ => ?_
  refine snd_out (f := one (isOF C)) [t] [x] fun F H σ Q ds o ex rd hf q => ?_
  obtain ⟨d, rfl, r1⟩ := reps1 rd
  obtain ⟨t, r, h1, h2, h3⟩ := isO_ok c ex r1 hf q
  exact ⟨x, .ref (He.ga X.K C), t, .ref (He.ga X.K C), r, rfl, .own _, h1, h2, h3⟩
/-- isinstance(x, (tuple, list)) -/
def isTLF (cs : List Str) (d : D) : Option Out := match d with
  | .obj C _ _ => if cs.contains C = true then some (.dt (.bl false)) else none
  | d => (tyN d).map fun a => .dt (.bl (isB a "tuple" || isB a "list"))
theorem se_isTL {cs : List Str} {p p2 p3 p4 : Pos} {kt} (hcs : ∀ C ∈ cs, IsC X.K C) (ha : SE X W a ma) (hm : X.mg "isinstance" = none) (hb : X.mg "tuple" = none) (hb2 : X.mg "list" = none) (hg : Gl X "isinstance" := by rfl) (hg2 : Gl X "tuple" := by rfl) (hg3 : Gl X "list" := by rfl)
    (he : starEach [a, .Tuple [.Name "tuple" p2, .Name "list" p3] kt p4] X.env = (false, eval a X.env) :: starEach [.Tuple [.Name "tuple" p2, .Name "list" p3] kt p4] X.env := by rfl)
    (he2 : starEach [.Tuple [.Name "tuple" p2, .Name "list" p3] kt p4] X.env = (false, eval (.Tuple [.Name "tuple" p2, .Name "list" p3] kt p4) X.env) :: starEach [] X.env := by rfl)
    (he3 : starEach [.Name "tuple" p2, .Name "list" p3] X.env = (false, eval (.Name "tuple" p2) X.env) :: starEach [.Name "list" p3] X.env := by rfl) (he4 : starEach [.Name "list" p3] X.env = (false, eval (.Name "list" p3) X.env) :: starEach [] X.env := by rfl)
    (hpl : (backTo pos (starEach [.Tuple [.Name "tuple" p2, .Name "list" p3] kt p4] X.env)).any (·.1) = false := by rfl) : SE X W (.Call (.Name "isinstance" p) [a, .Tuple [.Name "tuple" p2, .Name "list" p3] kt p4] [] pos) (una (isTLF cs) ma) := by
  obtain ⟨te, q1, z1⟩ := ha
  refine ⟨_, pe_callB call_isiT hg hm PyProof.Rows.boot_isinstance (pa_cons q1 (pa_cons (pe_tup (pa_cons (pe_bltn (v := .ty "tuple") hg2 hb PyProof.Rows.boot_tuple rfl) (pa_cons (pe_bltn (v := .ty "list") hg3 hb2 PyProof.Rows.boot_list rfl) pa_nil he4) he3)) pa_nil he2) he) (by decide) (by decide) he hpl, ?_⟩
  refine SndX.bnd (t2 := fun (x : V) σ H (Q : VK) => 2 ≤ sizeLine ∧ ∀ p, H p = none → rIsiT X.K [x, .ref p] (upd H p (.tup [.ty "tuple", .ty "list"])) Q) rfl z1 fun t x _ => ?_
  refine snd_out (f := one (isTLF cs)) [t] [x] fun F H σ Q ds o ex rd hf q => ⟨by decide, fun p hp => ?_⟩
  obtain ⟨d, rfl, r1⟩ := reps1 rd
  have ex2 : Ex F (upd H p (.tup [.ty "tuple", .ty "list"])) := ex.trans (Ex.new hp)
  have hq : ∀ b, o = .dt (.bl b) → Q (.bl b) (upd H p (.tup [.ty "tuple", .ty "list"])) := fun b hb => by
    subst hb
    exact q (.bl b) F _ Ex.rfl (Ex.new hp) ex2 (fun _ _ z => .inl z) rep_bl
  have cls : Paired ClsV [V.ty "tuple", V.ty "list"] [Value.type "tuple", Value.type "list"] := .cons (.ty _) (.cons (.ty _) .nil)
  have hf' : isTLF cs d = some o := hf
  unfold isTLF at hf'
  have plain : ∀ n, tyN d = some n → (tyN d).map (fun a => Out.dt (.bl (isB a "tuple" || isB a "list"))) = some o → rIsiT X.K [x, .ref p] (upd H p (.tup [.ty "tuple", .ty "list"])) Q := fun n hn hf => by
    rw [hn] at hf
    cases hf
    refine ⟨x, p, _, .type n, _, _, rfl, upd_same, cls, tyX_of ex2 hn r1, ?_, hq _ rfl⟩
    refine kitAny_cons (kit_ty (kit_all n (tyN_mem hn) "tuple" (by decide))) (fun h => kitAny_cons (kit_ty (kit_all n (tyN_mem hn) "list" (by decide))) (fun g => ?_) (fun g => ?_)) (fun h => ?_)
    · rw [h, g]; rfl
    · rw [h, g]; rfl
    · rw [h]; rfl
  cases d with
  | obj C ns fs =>
    simp only at hf'
    split at hf'
    · next h =>
      cases hf'
      have c := hcs C (by simpa using h)
      refine ⟨x, p, _, _, _, false, rfl, upd_same, cls, obj_ty c ex2 r1, ?_, hq _ rfl⟩
      exact kitAny_cons (c.on "tuple" (by decide)) (fun _ => kitAny_cons (c.on "list" (by decide)) (fun _ => kitAny_nil) (fun z => by cases z)) (fun z => by cases z)
    · cases hf'
  | non => exact plain _ rfl hf'
  | bl _ => exact plain _ rfl hf'
  | int _ => exact plain _ rfl hf'
  | str _ => exact plain _ rfl hf'
  | tup _ => exact plain _ rfl hf'
  | lst _ => exact plain _ rfl hf'
  | scr _ => exact plain _ rfl hf'
  | exn _ _ _ _ => cases (show (none : Option Out) = some o from hf')
  | dic _ _ => exact plain _ rfl hf'
end
end SL

set_option Elab.async false
set_option linter.all false
set_option maxRecDepth 100000
set_option maxHeartbeats 4000000
namespace SL
open PySem PySem.Spec L2
section
variable {X : Cx} {W : WX} {a b c e : Expr} {es : List Expr} {ma mb mc : Mo T} {pos : Pos} {n : Mo (List T)} {K : PySem.W.Frag}
/-! ### x.append(e), the list of slot i -/
def sApp (i : Nat) (m : Mo T) : So := fun ρ => match atS i ρ with
  | some (.lst _ _) => toS m (fun u ρ1 => if u.brw = true then none else match atS i ρ1 with
    | some (.lst b xs) => if xs.length < 100000 then some (.next, ρ1.set i (some (.lst b (xs ++ [u.fz])))) else none
    | _ => none) ρ
  | _ => none
theorem ss_app {i : Nat} {x : Str} {px apos cpos : Pos} (h : SE X W e ma) (hN : X.N[i]? = some x := by rfl) (hv : Vis X.env.scope x := by first | exact Or.inl rfl | exact Or.inr (Or.inl rfl) | exact Or.inr (Or.inr rfl)) (hd : (x == ("__debug__" : Str)) = false := by decide) (hcd : (x == ("__classdict__" : Str)) = false := by decide)
    (hbase : attributeBase (.Name x px) "append" X.env (eval (.Name x px) X.env) = eval (.Name x px) X.env := by rfl)
    (hfew : ((backTo cpos (starEach (e :: []) X.env)).all (fun x => !x.1) && (backToKw cpos (keywordEach [] X.env)).all (fun x => x.1.isSome)
      && decide ((e :: []).length + ([] : List Keyword).length + (if ([] : List Keyword).isEmpty then 0 else 1) < 30)) = true := by rfl)
    (hline : (apos.endLine == cpos.line) = true := by rfl) (hst : starEach (e :: []) X.env = (false, eval e X.env) :: starEach [] X.env := by rfl) (hplain : (backTo cpos (starEach [] X.env)).any (·.1) = false := by rfl)
    (hs : swapsWith (.Call (.Attribute (.Name x px) "append" apos) [e] [] cpos) none pos.line X.env = pure false := by rfl) :
    SS X W (.Expr (.Call (.Attribute (.Name x px) "append" apos) [e] [] cpos) pos) (sApp i ma) := by
  obtain ⟨te, p, z⟩ := h
  refine ⟨_, ps_expr (pe_bm PySem.F.plainAttrs_list PySem.F.slot_list_append PySem.F.type_list_append mt_append (pe_var hN hv hd hcd) (pa_cons p pa_nil hst) hbase hfew hline hst hplain) hs, ?_⟩
  intro G F H ρ σ us ws D fl ρ' j hl ht hm k
  unfold sApp at hm
  cases e0 : atS i ρ with
  | none => rw [e0] at hm; cases hm
  | some t0 =>
    rw [e0] at hm
    cases t0 with
    | dat d => cases hm
    | ins _ _ _ _ => cases hm
    | lst b0 xs0 =>
      simp only at hm
      obtain ⟨v, h1, h2, hi, _, _⟩ := j.slot hl e0
      obtain ⟨a, vs0, rfl, g1, g2, g3⟩ := h2
      refine ⟨.ref a, h1, ?_⟩
      refine ⟨Or.inl ⟨rfl, vs0, Or.inl (Or.inl g2)⟩, ?_⟩
      unfold toS at hm
      cases em : ma ρ with
      | none => rw [em] at hm; cases hm
      | some q =>
        obtain ⟨r, ρ1⟩ := q
        rw [em] at hm
        refine z G F H ρ σ us ws _ r ρ1 (by simpa using j) hl ht em ?_
        cases r with
        | exc x => cases hm; exact fun c d F' H' e1 l1 j1 x1 => k c d σ F' H' e1 l1 rfl j1 x1
        | ok u =>
          intro y F' H' e1 l1 _ j1
          simp only at hm
          by_cases hb : u.brw = true
          · rw [if_pos hb] at hm; cases hm
          · rw [if_neg hb] at hm
            obtain ⟨F2, x2, j2, rd⟩ := j1.fzLast l1 ht (by simpa using hb)
            have j3 := app_pre j2 l1 ht
            cases e2 : atS i ρ1 with
            | none => rw [e2] at hm; cases hm
            | some t1 =>
              rw [e2] at hm
              cases t1 with
              | dat d => cases hm
              | ins _ _ _ _ => cases hm
              | lst b xs =>
                simp only at hm
                by_cases hz : xs.length < 100000
                · rw [if_pos hz] at hm
                  cases hm
                  obtain ⟨v', m1, m2, m3, m4, m5⟩ := j3.slot l1 e2
                  rw [h1] at m1; cases m1
                  obtain ⟨a', vs, q1, q2, q3, q4⟩ := m2
                  cases q1
                  refine ⟨a, vs, y, rfl, rfl, q3, by rw [q4.len]; exact lt_line hz, ?_⟩
                  have j4 := j3.mut (t' := .lst b (xs ++ [u.fz])) (o := .lst (vs ++ [y])) m4 rfl rfl rfl m5 ⟨a, _, rfl, q2, upd_same, Reps.app q4 (reps_cons rd reps_nil)⟩
                  rw [List.set_append_left _ _ m3] at j4
                  exact k σ F2 _ (e1.trans x2) (by simpa using l1) rfl j4
                · rw [if_neg hz] at hm; cases hm
/-! ### x[e] = v, the list of slot i -/
def sSetI (i : Nat) (mv mi : Mo T) : So := toS mv fun u => fun ρ1 => if u.brw = true then none else match atS i ρ1 with
  | none => none
  | some _ => toS mi (fun w ρ2 => match w, atS i ρ2 with
    | .dat (.int q), some (.lst b xs) => (match ixN xs.length q with
      | some jj => some (.next, ρ2.set i (some (.lst b (xs.set jj u.fz))))
      | none => none)
    | _, _ => none) ρ1
theorem ss_setI {i : Nat} {x : Str} {px spos : Pos} {ix : Expr} (h : SE X W e ma) (g : SE X W ix mb) (hN : X.N[i]? = some x := by rfl) (hv : Vis X.env.scope x := by first | exact Or.inl rfl | exact Or.inr (Or.inl rfl) | exact Or.inr (Or.inr rfl)) (hd : (x == ("__debug__" : Str)) = false := by decide)
    (hcd : (x == ("__classdict__" : Str)) = false := by decide) (hp : ∀ {to ti : TE}, PE X (.Name x px) to → PE X ix ti → PG X (.Subscript (.Name x px) ix spos) (gSub to ti rSetL))
    (hs : swapsWithSole [.Subscript (.Name x px) ix spos] e pos.line X.env = pure false := by rfl) (hw : swappedStores [.Subscript (.Name x px) ix spos] e X.env = pure none := by rfl)
    (h1 : List.map (fun x => x.snd) (assignEach [.Subscript (.Name x px) ix spos] X.env) = [assign (.Subscript (.Name x px) ix spos) X.env] := by rfl) :
    SS X W (.Assign [.Subscript (.Name x px) ix spos] e pos) (sSetI i ma mb) := by
  obtain ⟨te, p, z⟩ := h
  obtain ⟨ti, p2, z2⟩ := g
  refine ⟨_, ps_asg p (hp (pe_var hN hv hd hcd) p2) hs hw h1, ?_⟩
  refine z.toS (tk := fun y D σ H => gSub (tVar i) ti rSetL y σ H D.nx) fun u y _ G F H ρ σ us ws D fl ρ' j hl ht hm k => ?_
  by_cases hb : u.brw = true
  · simp only [if_pos hb] at hm; cases hm
  · simp only [if_neg hb] at hm
    obtain ⟨F1, x1, j1, rd⟩ := j.fzLast hl ht (by simpa using hb)
    cases e0 : atS i ρ with
    | none => rw [e0] at hm; cases hm
    | some t0 =>
    rw [e0] at hm
    simp only at hm
    have hslot : ∃ v, σ[i]? = some (some v) := by
      obtain ⟨v, h, _⟩ := (app_pre j1 hl ht).slot hl e0
      exact ⟨v, h⟩
    unfold toS at hm
    cases em : mb ρ with
    | none => rw [em] at hm; cases hm
    | some q =>
      obtain ⟨r, ρ1⟩ := q
      rw [em] at hm
      -- the value of slot i: by the end of the index's run where there is one
      have hlen : (us ++ [some (T.dat u.fz)]).length = (ws ++ [some y]).length := by simp [ht]
      have key : ∀ v, σ[i]? = some (some v) → (ti σ H fun i' H2 => rSetL v i' y H2 fun H3 => D.nx σ H3) := by
        intro v hσ
        refine z2 G F1 H ρ σ (us ++ [some (T.dat u.fz)]) (ws ++ [some y]) _ r ρ1 (by simpa using j1) hl hlen em ?_
        cases r with
        | exc x => cases hm; exact fun c d F' H' e1 l1 j2 x2 => k c d σ F' H' (x1.trans e1) l1 rfl (app_pre (by simpa using j2) l1 ht) x2
        | ok w =>
          intro iv F' H' e1 l1 _ j2
          dsimp only at hm
          cases w with
          | lst _ _ => cases hm
          | ins _ _ _ _ => cases hm
          | dat dd =>
            cases dd with
            | int qq =>
              cases e2 : atS i ρ1 with
              | none => rw [e2] at hm; cases hm
              | some t1 =>
                rw [e2] at hm
                cases t1 with
                | dat d => cases hm
                | ins _ _ _ _ => cases hm
                | lst b xs =>
                  dsimp only at hm
                  cases ei : ixN xs.length qq with
                  | none => rw [ei] at hm; cases hm
                  | some jj =>
                    rw [ei] at hm
                    cases hm
                    have hiv := j2.last l1 hlen
                    have hiv2 : Rep X.K F' (.int qq) iv := hiv
                    cases ri hiv2
                    have j3 := app_pre j2 l1 hlen
                    have rd2 : Rep X.K F' u.fz y := Rep.mono e1 _ _ rd
                    have j4 := app_pre j3 l1 ht
                    obtain ⟨v', m1, m2, m3, m4, m5⟩ := j4.slot l1 e2
                    rw [hσ] at m1; cases m1
                    obtain ⟨a', vs, q1, q2, q3, q4⟩ := m2
                    subst q1
                    refine ⟨a', vs, qq, jj, rfl, rfl, q3, by rw [q4.len]; exact ei, ?_⟩
                    have j5 := j4.mut (t' := .lst b (xs.set jj u.fz)) (o := .lst (vs.set jj y)) m4 rfl rfl rfl m5 ⟨a', _, rfl, q2, upd_same, Reps.set jj q4 rd2⟩
                    rw [List.set_append_left _ _ m3] at j5
                    exact k σ F' _ (x1.trans e1) (by simpa using l1) rfl j5
            | _ => cases hm
      obtain ⟨v, hσ⟩ := hslot
      exact ⟨v, hσ, key v hσ⟩
end
end SL

set_option Elab.async false
set_option linter.all false
set_option maxRecDepth 100000
set_option maxHeartbeats 4000000
namespace SL
open PySem PySem.Spec L2
section
variable {X : Cx} {W : WX} {a b c e : Expr} {es : List Expr} {ma mb mc : Mo T} {pos : Pos} {n : Mo (List T)} {K : PySem.W.Frag}
/-! ### o.f = e, o the instance of slot i -/
def putO (f : Str) (d : D) : List Str → List D → List Str × List D
  | g :: ns, x :: ds => if g = f then (g :: ns, d :: ds) else (g :: (putO f d ns ds).1, x :: (putO f d ns ds).2)
  | _, _ => ([f], [d])
theorem putO_rep {F : Hp} {f : Str} {d : D} {y : V} (r : Rep K F d y) : ∀ {ns : List Str} {ds : List D} {vs : List V}, ns.length = ds.length → Reps K F ds vs →
    ∃ vs', putF f y (ns.zip vs) = (putO f d ns ds).1.zip vs' ∧ (putO f d ns ds).1.length = (putO f d ns ds).2.length ∧ Reps K F (putO f d ns ds).2 vs'
  | [], [], vs, hl, rs => by
    unfold Reps at rs
    subst rs
    exact ⟨[y], rfl, rfl, reps_cons r reps_nil⟩
  | [], _ :: _, vs, hl, rs => by simp at hl
  | _ :: _, [], vs, hl, rs => by simp at hl
  | g :: ns, x :: ds, vs, hl, rs => by
    unfold Reps at rs
    obtain ⟨v, vr, rfl, r1, r2⟩ := rs
    have hl2 : ns.length = ds.length := by simpa using hl
    rw [List.zip_cons_cons, show putF f y ((g, v) :: ns.zip vr) = (if g = f then (g, y) :: ns.zip vr else (g, v) :: putF f y (ns.zip vr)) from rfl]
    unfold putO
    by_cases h : g = f
    · rw [if_pos h, if_pos h]
      exact ⟨y :: vr, rfl, by simp [hl2], reps_cons r r2⟩
    · rw [if_neg h, if_neg h]
      obtain ⟨vs', e1, e2, e3⟩ := putO_rep r hl2 r2
      exact ⟨v :: vs', by rw [e1]; rfl, by simp [e2], reps_cons r1 e3⟩
def sFldSet (cs : List Str) (i : Nat) (f : Str) (m : Mo T) : So := toS m fun u ρ => if u.brw = true then none else match atS i ρ with
  | some (.ins b C ns xs) => if cs.contains C = true ∧ ns.length < 900 then some (.next, ρ.set i (some (.ins b C (putO f u.fz ns xs).1 (putO f u.fz ns xs).2))) else none
  | _ => none
theorem ss_fldSet {i : Nat} {x f : Str} {cs : List Str} {px p2 : Pos} (hc : FldOk X.K cs f) (h : SE X W e ma) (hN : X.N[i]? = some x := by rfl) (hv : Vis X.env.scope x := by first | exact Or.inl rfl | exact Or.inr (Or.inl rfl) | exact Or.inr (Or.inr rfl)) (hd : (x == ("__debug__" : Str)) = false := by decide)
    (hcd : (x == ("__classdict__" : Str)) = false := by decide) (hs : swapsWith e (some (.Attribute (.Name x px) f p2)) pos.line X.env = pure false := by rfl) : SS X W (.Assign [.Attribute (.Name x px) f p2] e pos) (sFldSet cs i f ma) := by
  obtain ⟨te, p, z⟩ := h
  refine ⟨_, ps_fld (pe_var hN hv hd hcd) p hs, ?_⟩
  refine z.toS (tk := fun y D σ H => tVar i σ H fun x H2 => ∃ a C dx fs, x = .ref a ∧ H2 a = some (.ins C dx fs) ∧ Cls X.K C ∧ NoAttr X.K C f ∧ fs.length < 1000 ∧ D.nx σ (upd H2 a (.ins C dx (putF f y fs)))) fun u y _ G F H ρ σ us ws D fl ρ' j hl ht hm k => ?_
  by_cases hb : u.brw = true
  · simp only [if_pos hb] at hm; cases hm
  · simp only [if_neg hb] at hm
    obtain ⟨F1, x1, j1, rd⟩ := j.fzLast hl ht (by simpa using hb)
    have j2 := app_pre j1 hl ht
    cases e2 : atS i ρ with
    | none => rw [e2] at hm; cases hm
    | some t =>
      rw [e2] at hm
      cases t with
      | dat d => cases hm
      | lst _ _ => cases hm
      | ins b C ns xs =>
        simp only at hm
        by_cases hz : cs.contains C = true ∧ ns.length < 900
        · rw [if_pos hz] at hm
          cases hm
          obtain ⟨v, m1, m2, m3, m4, m5⟩ := j2.slot hl e2
          obtain ⟨aa, dx, vs, q1, q2, q3, q4, q5⟩ := m2
          subst q1
          obtain ⟨vs', p1, p2, p3⟩ := putO_rep (f := f) rd q4 q5
          obtain ⟨c1, c2⟩ := hc.ok C (by simpa using hz.1)
          refine ⟨_, m1, aa, _, dx, _, rfl, q3, c1, c2, ?_, ?_⟩
          · rw [List.length_zip]
            have := hz.2
            omega
          · rw [p1]
            have j3 := j2.mut (t' := .ins b C (putO f u.fz ns xs).1 (putO f u.fz ns xs).2) (o := .ins (He.ga X.K C) dx ((putO f u.fz ns xs).1.zip vs')) m4 rfl rfl rfl m5 ⟨aa, dx, vs', rfl, q2, upd_same, p2, p3⟩
            rw [List.set_append_left _ _ m3] at j3
            exact k σ F1 _ x1 (by simpa using hl) rfl j3
        · rw [if_neg hz] at hm; cases hm
/-! ### x += e on ints -/
def sAug (i : Nat) (f : Int → Int → Int) (m : Mo T) : So := fun ρ => match atS i ρ with
  | some (.dat (.int a)) => toS m (fun u ρ1 => match u with
    | .dat (.int b) => if i < ρ1.length then some (.next, ρ1.set i (some (.dat (.int (f a b))))) else none
    | _ => none) ρ
  | _ => none
theorem ss_aug {i : Nat} {x : Str} {op : Operator} {f : Int → Int → Int} {p2 : Pos} (hN : X.N.Nodup) (ho : PIp X op (ipI f)) (h : SE X W e ma) (hi : X.N[i]? = some x := by rfl) (hx : Loc X.env.scope x := by first | exact Or.inl rfl | exact Or.inr rfl)
    (hf : X.fn x = true ∨ X.env.scope.names.lookup x = some .local := by first | exact .inl rfl | exact .inr rfl) : SS X W (.AugAssign (.Name x p2) op e pos) (sAug i f ma) := by
  obtain ⟨te, p, z⟩ := h
  refine ⟨_, ps_aug hN hi hx p ho hf, ?_⟩
  intro G F H ρ σ us ws D fl ρ' j hl ht hm k
  unfold sAug at hm
  cases e0 : atS i ρ with
  | none => rw [e0] at hm; cases hm
  | some t0 =>
    rw [e0] at hm
    cases t0 with
    | lst _ _ => cases hm
    | ins _ _ _ _ => cases hm
    | dat d0 =>
      cases d0 with
      | int aa =>
        simp only at hm
        obtain ⟨v, h1, h2, _, _, _⟩ := j.slot hl e0
        have h2' : Rep X.K F (.int aa) v := h2
        cases ri h2'
        refine ⟨.int aa, h1, ?_⟩
        unfold toS at hm
        cases em : ma ρ with
        | none => rw [em] at hm; cases hm
        | some q =>
          obtain ⟨r, ρ1⟩ := q
          rw [em] at hm
          refine z G F H ρ σ us ws _ r ρ1 (by simpa using j) hl ht em ?_
          cases r with
          | exc x => cases hm; exact fun c d F' H' e1 l1 j1 x1 => k c d σ F' H' e1 l1 rfl j1 x1
          | ok u =>
            intro y F' H' e1 l1 _ j1
            cases u with
            | lst _ _ => cases hm
            | ins _ _ _ _ => cases hm
            | dat dd =>
              cases dd with
              | int bb =>
                dsimp only at hm
                by_cases hlt : i < ρ1.length
                · rw [if_pos hlt] at hm
                  cases hm
                  have hy : Rep X.K F' (.int bb) y := j1.last l1 ht
                  cases ri hy
                  refine ⟨aa, bb, rfl, rfl, ?_⟩
                  have j2 := app_pre j1 l1 ht
                  have j3 := (j2.dat (d := .int (f aa bb)) rep_int).take (i := i) (by simp [l1, ht])
                  rw [List.set_append_left _ _ hlt, List.set_append_left _ _ (by rw [← l1]; exact hlt)] at j3
                  exact k _ F' H' e1 (by simpa using l1) (by simp) j3
                · rw [if_neg hlt] at hm; cases hm
              | _ => cases hm
      | _ => cases hm
/-! ### a, b = x, y -/
def sPar (i jj : Nat) (n : Mo (List T)) : So := toS n fun ts ρ => match ts with
  | [t, u] => if t.brw = false ∧ u.brw = false ∧ i < ρ.length ∧ jj < ρ.length then some (.next, (ρ.set jj (some u)).set i (some t)) else none
  | _ => none
theorem ss_par {i jj : Nat} {x y : Str} {px py pt : Pos} {kt k2 pt2} (hc : X.calm = true) (hN : X.N.Nodup) (ha : SA X W [a, b] n) (hij : i ≠ jj) (hi : X.N[i]? = some x := by rfl) (hj : X.N[jj]? = some y := by rfl)
    (hx : X.env.scope.names.lookup x = some .local := by rfl) (hy : X.env.scope.names.lookup y = some .local := by rfl)
    (hw : swappedStores [.Tuple [.Name x px, .Name y py] kt pt] (.Tuple [a, b] k2 pt2) X.env = pure (some [x, y]) := by rfl)
    (hs : swapsWithSole [.Tuple [.Name x px, .Name y py] kt pt] (.Tuple [a, b] k2 pt2) pos.line X.env = pure false := by rfl)
    (hp : ∀ {ta : TA}, PA X [a, b] ta → PS X (.Assign [.Tuple [.Name x px, .Name y py] kt pt] (.Tuple [a, b] k2 pt2) pos) (tPar i jj ta)) :
    SS X W (.Assign [.Tuple [.Name x px, .Name y py] kt pt] (.Tuple [a, b] k2 pt2) pos) (sPar i jj n) := by
  obtain ⟨ta, q, z⟩ := ha
  refine ⟨_, hp q, ?_⟩
  refine z.toS (tk := fun vs D σ H => ∃ v w, vs = [v, w] ∧ D.nx ((σ.set i (some v)).set jj (some w)) H) fun ts vs _ G F H ρ σ us ws D fl ρ' j hl ht hm k => ?_
  match ts, hm with
  | [t, u], hm =>
    dsimp only at hm
    by_cases hlt : t.brw = false ∧ u.brw = false ∧ i < ρ.length ∧ jj < ρ.length
    · rw [if_pos hlt] at hm
      cases hm
      have hv : ∃ v w, vs = [v, w] := by
        have := j.len
        simp at this
        match vs, this with
        | [v, w], _ => exact ⟨v, w, rfl⟩
        | [], h => simp at h; omega
        | [_], h => simp at h; omega
        | _ :: _ :: _ :: _, h => simp at h; omega
      obtain ⟨v, w, rfl⟩ := hv
      refine ⟨v, w, rfl, ?_⟩
      have e1 : ρ ++ (us ++ List.map some [t, u]) = (ρ ++ us ++ [some t]) ++ [some u] := by simp
      have e2 : σ ++ (ws ++ List.map some [v, w]) = (σ ++ ws ++ [some v]) ++ [some w] := by simp
      rw [e1, e2] at j
      have j3 := j.take (i := jj) (by simp [hl, ht])
      have e3 : (ρ ++ us ++ [some t]).set jj (some u) = (ρ.set jj (some u) ++ us) ++ [some t] := by
        rw [List.append_assoc, List.set_append_left _ _ hlt.2.2.2, List.append_assoc]
      have e4 : (σ ++ ws ++ [some v]).set jj (some w) = (σ.set jj (some w) ++ ws) ++ [some v] := by
        rw [List.append_assoc, List.set_append_left _ _ (by rw [← hl]; exact hlt.2.2.2), List.append_assoc]
      rw [e3, e4] at j3
      have j4 := j3.take (i := i) (by simp [hl, ht])
      rw [List.set_append_left _ _ (by simpa using hlt.2.2.1), List.set_append_left _ _ (by rw [List.length_set, ← hl]; exact hlt.2.2.1)] at j4
      rw [List.set_comm _ _ hij]
      exact k _ F H Ex.rfl (by simpa using hl) (by simp) j4
    · rw [if_neg hlt] at hm; cases hm
/-! ### f(x, ..): the thing of slot i is lent -/
def T.setB (b : Bool) : T → T
  | .dat d => .dat d
  | .lst _ xs => .lst b xs
  | .ins _ C ns xs => .ins b C ns xs
theorem setB_own (b : Bool) (t : T) : (t.setB b).own = t.own := by cases t <;> rfl
theorem setB_brw {b : Bool} {t : T} (h : t.own = true) : (t.setB b).brw = b := by
  cases t with
  | dat d => cases h
  | lst _ _ => rfl
  | ins _ _ _ _ => rfl
theorem setB_hold {F H : Hp} {b : Bool} {t : T} {v : V} (h : Hold K F H t v) : Hold K F H (t.setB b) v := by cases t <;> exact h
theorem J.call {G : Gm} {F F' H H' : Hp} {L : Sl} {M : St} {i : Nat} {t t' : T} {ad : Addr} (j : J K G F H L M) (e : L[i]? = some (some t)) (ho : t.own = true) (hm : M[i]? = some (some (.ref ad))) (ef : Ex F F') (ap : Apart H H' (.ref ad)) (ex : Ex F' H')
    (fr : ∀ a o, F' a = some o → F a = some o ∨ H a = none) (hold : Hold K F' H' t' (.ref ad)) (ho' : t'.own = true) : J K G F' H' (L.set i (some (t'.setB t.brw))) M := by
  obtain ⟨v, hv, h0, br⟩ := j.ok i t e
  rw [hm] at hv; cases hv
  obtain ⟨a', u, ea, fa, ha⟩ := h0.adr ho
  cases ea
  obtain ⟨a2, u2, ea2, fa2, ha2⟩ := hold.adr ho'
  cases ea2
  have j1 : J K G F' (fun b => if b = ad then H ad else H' b) L M := by
    refine j.grow ef (fun b o hb => ?_) (fun b o hb => ?_) fr
    · by_cases z : b = ad
      · subst z; show (if b = b then H b else H' b) = some o; rw [if_pos rfl]; exact hb
      · show (if b = ad then H ad else H' b) = some o; rw [if_neg z]; exact ap b o hb (by rintro q; cases q; exact z rfl)
    · have z : b ≠ ad := by rintro rfl; rw [fa2] at hb; cases hb
      show (if b = ad then H ad else H' b) = some o
      rw [if_neg z]; exact ex b o hb
  have hH : upd (fun b => if b = ad then H ad else H' b) ad u2 = H' := by
    funext b
    by_cases z : b = ad
    · subst z; rw [upd_same, ha2]
    · rw [upd_ne z]; simp [z]
  have j2 := j1.mut (t' := t'.setB t.brw) (o := u2) e ho (by rw [setB_own]; exact ho') (setB_brw ho') hm (by rw [hH]; exact setB_hold hold)
  rw [hH] at j2
  exact j2
structure DefB (P : Program) (w : World) (K : PySem.W.Frag) (mg : Str → Option Value) (base : Heap) (k : Nat) (x : Str) (a : Nat) (f : FnB) : Prop where
  ex : ∃ fa fd ps, FnOk P w K mg base (L2.CX P w) k fa fd ps (spB K a f) ∧ mg x = some (.ref fa) ∧ PySem.W.keepIn K (.ref fa) = true ∧ Binds K fd ps []
def eCallB (k : Nat) (f : FnB) (i : Nat) (n : Mo (List T)) : Mo T := fun ρ => match atS i ρ with
  | none => none
  | some _ => bnd n (fun ts ρ1 => match frzs ts, atS i ρ1 with
    | some ds, some t => if t.own = true ∧ ds.length = k then (match f (t.setB true) ds with
      | some (.ok d, t') => if t'.own = true then some (.ok (.dat d), ρ1.set i (some (t'.setB t.brw))) else none
      | _ => none) else none
    | _, _ => none) ρ
theorem se_callB {k : Nat} {f x : Str} {i ar : Nat} {g : FnB} {p px : Pos} (h : DefB X.prog X.w X.K X.mg X.base k f ar g) (hr : Room k X.A) (ha : SA X W es n) (hg : Gl X f := by rfl) (hN : X.N[i]? = some x := by rfl)
    (hv : Vis X.env.scope x := by first | exact Or.inl rfl | exact Or.inr (Or.inl rfl) | exact Or.inr (Or.inr rfl)) (hd : (x == ("__debug__" : Str)) = false := by decide) (hcd : (x == ("__classdict__" : Str)) = false := by decide)
    (hdb : (f == ("__debug__" : Str)) = false := by decide) (he : starEach (.Name x px :: es) X.env = (false, eval (.Name x px) X.env) :: starEach es X.env := by rfl) (hpl : (backTo pos (starEach es X.env)).any (·.1) = false := by rfl) :
    SE X W (.Call (.Name f p) (.Name x px :: es) [] pos) (eCallB ar g i n) := by
  obtain ⟨fa, fd, ps, F0, hm0, kp, hb⟩ := h.ex
  obtain ⟨ta, q, z⟩ := ha
  refine ⟨_, pe_call F0 hr hg hm0 kp hb .nil passL (pa_cons (pe_var hN hv hd hcd) q he) hdb he hpl, ?_⟩
  intro G F H ρ σ us ws Q r ρ' j hl ht hm k
  simp only [List.append_nil] at j
  unfold eCallB at hm
  cases e0 : atS i ρ with
  | none => rw [e0] at hm; cases hm
  | some t0 =>
    rw [e0] at hm
    simp only at hm
    obtain ⟨v, h1, _⟩ := j.slot hl e0
    refine ⟨v, h1, ?_⟩
    unfold bnd at hm
    cases en : n ρ with
    | none => rw [en] at hm; cases hm
    | some qq =>
      obtain ⟨r1, ρ1⟩ := qq
      rw [en] at hm
      refine z G F H ρ σ us ws _ r1 ρ1 (by simpa using j) hl ht en ?_
      cases r1 with
      | exc x => cases hm; exact k
      | ok ts =>
        intro vs F' H' e1 l1 _ j1
        dsimp only at hm
        cases hf : frzs ts with
        | none => rw [hf] at hm; cases hm
        | some ds =>
          rw [hf] at hm
          cases e2 : atS i ρ1 with
          | none => rw [e2] at hm; cases hm
          | some t =>
            rw [e2] at hm
            dsimp only at hm
            by_cases hc : t.own = true ∧ ds.length = ar
            · rw [if_pos hc] at hm
              cases eg : g (t.setB true) ds with
              | none => rw [eg] at hm; cases hm
              | some o =>
                obtain ⟨o1, t'⟩ := o
                rw [eg] at hm
                cases o1 with
                | exc x => cases hm
                | ok d =>
                  dsimp only at hm
                  by_cases ho' : t'.own = true
                  · rw [if_pos ho'] at hm
                    cases hm
                    unfold frzs at hf
                    by_cases hb : ts.any T.brw = true
                    · rw [if_pos hb] at hf; cases hf
                    · rw [if_neg hb] at hf
                      cases hf
                      rw [← List.append_assoc, ← List.append_assoc] at j1
                      obtain ⟨F1, x1, j2, rd⟩ := j1.freezes (by simp [l1, ht]) (by simpa using hb)
                      have j3 := j2.pre (by simp [l1, ht])
                      obtain ⟨v', m1, m2, m3, m4, m5⟩ := j3.slot l1 e2
                      rw [h1] at m1; cases m1
                      obtain ⟨ad, u, ea, _, _⟩ := m2.adr hc.1
                      subst ea
                      refine ⟨F1, t.setB true, .ref ad, _, vs ++ [], .ok d, t', rfl, j3.ex, setB_hold m2, by rw [setB_own]; exact hc.1, setB_brw hc.1, by rw [List.append_nil]; exact rd, hc.2, eg, ?_⟩
                      intro rv F2 H2 g1 g2 g3 g4 g5 g6
                      have j4 := j3.call m4 hc.1 m5 g1 g2 g3 g4 g5 ho'
                      rw [List.set_append_left _ _ m3] at j4
                      refine k rv F2 H2 ((e1.trans x1).trans g1) (by simpa using l1) trivial ?_
                      rw [← List.append_assoc, ← List.append_assoc]
                      exact j4.dat g6
                  · rw [if_neg ho'] at hm; cases hm
            · rw [if_neg hc] at hm; cases hm
end
end SL

set_option Elab.async false
set_option linter.all false
set_option maxRecDepth 100000
set_option maxHeartbeats 4000000
namespace SL
open PySem PySem.Spec L2
/-! ### own operators of a class -/
section
open PySem.W PySem.Calls PyProof.Rows Builtin
variable {prog : Program} {w : World} {A : Around} {E : Value → Shared → Prop} {s : Shared} {K : Frag} {x C f : Addr} {ox : Obj} {od : Option Obj} {b tb : Value}
theorem obj_ne_K {Q : Fin → Shared → Prop} (hu : A.units < cLine) (X : K.In s.heap) (I : PySem.W.InstAt s.heap x ox C od) (hs : findIn K (.ref C) "__eq__" = some (some (.ref f))) (hf : isFn K (.ref f) = true)
    (h : wpAny (model prog w) A (call (.ref f) [.ref x, b]) (fun v s' => ∃ r, v = .bool r ∧ Q (.done (.ret (.bool (!r)))) s') E s) : wpAny (model prog w) A (Builtin.«object.__ne__» ⟨[.ref x, b], []⟩) Q E s := by
  unfold Builtin.«object.__ne__»
  refine wpAny_bind (m := slotArgs "__ne__" 1 _) (wpAny_pure ?_)
  refine wpAny_bind (m := cRoomFor _ _) (wpAny_cRoomFor hu ?_)
  refine wpAny_bind (m := callSpecialIfBound? (.ref x) (Str.ofString "__eq__") _) (ifBound_K X I hs hf (wpAny_mono h (fun r s' hq => ?_) fun _ _ y => y))
  obtain ⟨c, rfl, hq⟩ := hq
  exact wpAny_bind (m := truthy (.bool c)) (wpAny_truthy_bool (wpAny_pure hq))
theorem ne_K {Q : Value → Shared → Prop} (hu : A.in1.units < cLine) (hu0 : A.units < cLine) (X : K.In s.heap) (I : PySem.W.InstAt s.heap x ox C od) (hb : Looks (model prog w) s.heap (typeOf b) tb) (hn : notFirst K C tb = true)
    (hne : findIn K (.ref C) "__ne__" = some (some (.builtin "object.__ne__"))) (hm : mroIn K C (.type "object") = some true) (hs : findIn K (.ref C) "__eq__" = some (some (.ref f))) (hf : isFn K (.ref f) = true)
    (h : wpAny (model prog w) A.in1 (call (.ref f) [.ref x, b]) (fun v s' => ∃ r, v = .bool r ∧ Q (.bool (!r)) s') E s) : wpAny (model prog w) A (richCompare .NotEq (.ref x) b) Q E s := by
  have one : wpAny (model prog w) A (tryCompare (.ref x) (cmpInfo .NotEq).2.1 b) (fun r s' => ∃ v, r = some v ∧ Q v s') E s := by
    unfold tryCompare
    refine wpAny_bind ?_
    have hc : wpAny (model prog w) A (call (.builtin "object.__ne__") [.ref x, b]) (fun v s' => ∃ r, v = .bool r ∧ Q (.bool r) s') E s := by
      refine wpAny_call (codeAny_call_builtin PySem.F.cmp_object.ne.plain PySem.F.cmpEntry_ne (check_slot (i := "object.__ne__") (owner := "object") (n := "__ne__") PySem.F.cmpKind_ne PySem.F.cmpSplit_ne (I.type.andThen (looks_mroIn X hm)) (PySem.F.cmpArgs_ne _ _) ?_))
      exact obj_ne_K hu X I hs hf (wpAny_mono h (fun v s' hv => by obtain ⟨r, rfl, q⟩ := hv; exact ⟨r, rfl, ⟨_, rfl, q⟩⟩) fun _ _ e => e)
    have fin : wpAny (model prog w) A (call (.builtin "object.__ne__") ([.ref x] ++ [b]) >>= fun v => pure (some v)) (fun r s' => ∃ v, r = some (.bool v) ∧ Q (.bool v) s') E s :=
      wpAny_bind (wpAny_mono hc (fun v s' h' => by obtain ⟨r, rfl, q⟩ := h'; exact wpAny_pure ⟨r, rfl, q⟩) fun _ _ h' => h')
    have bnd : wpAny (model prog w) A (callSpecialIfBound? (.ref x) (cmpInfo .NotEq).2.1 [b]) (fun r s' => ∃ v, r = some (.bool v) ∧ Q (.bool v) s') E s := by
      simp only [callSpecialIfBound?, bindSpecialIfBound?]
      refine wpAny_holding (wpAny_bind (wpAny_bind (wpAny_bind (I.type.here ((looks_findIn X hne).here ?_)))))
      refine wpAny_bind (wpAny_askSetting (wpAny_ite ?_))
      split
      · exact wpAny_bind ((Looks.of_pure (PySem.F.cmp_object.ne.bind _)).here (wpAny_pure (by exact fin)))
      · exact wpAny_tryCatch (wpAny_bind ((Looks.of_pure (PySem.F.cmp_object.ne.bind _)).here (wpAny_pure (by exact fin))))
    refine wpAny_mono bnd (fun r s' hr => ?_) fun _ _ e => e
    obtain ⟨v, rfl, q⟩ := hr
    exact wpAny_pure ⟨_, rfl, q⟩
  unfold richCompare
  simp only [oneThing_ref]
  refine wpAny_holding (wpAny_bind (wpAny_cRoomFor hu0 ?_))
  refine wpAny_bind (I.type.here (wpAny_bind (hb.here ?_)))
  split
  · rename_i q
    have e : subIn K tb (.ref C) = some false := by
      rcases Bool.or_eq_true_iff.mp hn with e | e
      · rw [beq_iff_eq.mp e] at q; simp at q
      · exact beq_iff_eq.mp e
    refine wpAny_bind ((looks_subIn X e).here ?_)
    simp only [Bool.false_eq_true, if_false]
    refine wpAny_bind (wpAny_mono one (fun r s' z => ?_) fun _ _ e => e)
    obtain ⟨v, rfl, hq⟩ := z
    exact wpAny_pure hq
  · refine wpAny_bind (wpAny_pure ?_)
    simp only [Bool.false_eq_true, if_false]
    refine wpAny_bind (wpAny_mono one (fun r s' z => ?_) fun _ _ e => e)
    obtain ⟨v, rfl, hq⟩ := z
    exact wpAny_pure hq
end
/-- the own operator's promise at two values, the first an instance of C -/
def rOwn (K : PySem.W.Frag) (C : Str) (f : FnD) (g : VK → VK) : R2 := fun x y H Q => ∃ a dx fs t, x = .ref a ∧ H a = some (.ins (He.ga K C) dx fs) ∧ TyX K H y t ∧ PySem.W.notFirst K (He.ga K C) t = true ∧ spD K 2 f ([x, y] ++ []) H (g Q) E0
def gEq (Q : VK) : VK := fun v H => ∃ b, v = .bl b ∧ Q (.bl b) H
def gNe (Q : VK) : VK := fun v H => ∃ b, v = .bl b ∧ Q (.bl (!b)) H
def gRef (Q : VK) : VK := fun v H => (∃ a, v = .ref a) ∧ Q v H
theorem dvs_nil {K : PySem.W.Frag} {dvs : List V} (h : ∀ F, Reps K F [] dvs) : dvs = [] := by
  have := (h (fun _ => none)).len
  exact List.eq_nil_of_length_eq_zero this
section
variable {X : Cx} {k : Nat} {C m : Str} {f : FnD}
theorem passE0 : Passes (L2.CX X.prog X.w) X E0 := fun _ _ _ _ _ _ _ h => by
  obtain ⟨_, _, _, _, _, _, _, _, _, _, _, _, z⟩ := h
  exact z.elim
theorem op_ownEq (h : MetOk X.prog X.w X.K X.mg X.base k C "__eq__" 2 [] f) (hr : Room (k + 1) X.A) : OpR X (compareOp .Eq) (rOwn X.K C f gEq) := by
  intro pins s σ H x y v u Q I rx ry hq
  obtain ⟨a, dx, fs, t, rfl, ha, ht, hn, hsp⟩ := hq
  cases rx
  obtain ⟨fa, fd, ps, dvs, ds, F, hc, hm, hb, hd, hd2⟩ := h.ex
  obtain ⟨mA, J, _⟩ := ins_get I.hok ha
  obtain ⟨od, J, _⟩ := J.look
  obtain ⟨mm, hF⟩ := I.fr
  obtain ⟨P, Z, hP, _⟩ := kit_of I ry ht
  obtain rfl := dvs_nil hd2
  show wpAny (model X.prog X.w) X.A (richCompare .Eq _ u) (EP X pins σ Q) X.xe s
  refine PySem.W.cmp_K (op := .Eq) hr.units0 hF I.ok.mod.kin J (Z.ty _ _ I.kIn hP) hn hm.at_ hm.fn ?_
  refine wpAny_mono (run_fn (us := [Value.ref a, u]) (vs := [V.ref a, y]) F (hr.mono (Nat.le_succ _)) hb hd passE0 I (.cons (show RelV (V.ref a) (Value.ref a) from rfl) (.cons ry .nil)) hsp) (fun v s' hv => ?_) fun _ _ e => e
  obtain ⟨z, H', I', rz, b, ez, q⟩ := hv
  subst ez
  cases rz
  exact ⟨.bl b, H', I', rfl, q⟩
theorem op_ownBin {op : Operator} (h : MetOk X.prog X.w X.K X.mg X.base k C (PySem.dunder op.info.2) 2 [] f) (hr : Room (k + 1) X.A) (hc : PySem.W.selfFirst X.K (He.ga X.K C) = true) :
    OpR X (binaryOp op) (fun x y H Q => ∃ a dx fs b dy gs, x = .ref a ∧ y = .ref b ∧ H a = some (.ins (He.ga X.K C) dx fs) ∧ H b = some (.ins (He.ga X.K C) dy gs) ∧ spD X.K 2 f ([x, y] ++ []) H (gRef Q) E0) := by
  intro pins s σ H x y v u Q I rx ry hq
  obtain ⟨a, dx, fs, b, dy, gs, rfl, rfl, ha, hb', hsp⟩ := hq
  cases rx
  cases ry
  obtain ⟨fa, fd, ps, dvs, ds, F, _, hm, hb, hd, hd2⟩ := h.ex
  obtain ⟨mA, J, _⟩ := ins_get I.hok ha
  obtain ⟨od, J, _⟩ := J.look
  obtain ⟨mB, J', _⟩ := ins_get I.hok hb'
  obtain ⟨od', J', _⟩ := J'.look
  obtain ⟨mm, hF⟩ := I.fr
  obtain rfl := dvs_nil hd2
  refine PySem.W.binop_K hF I.ok.mod.kin J J'.type hc hm.at_ hm.fn ?_
  refine wpAny_mono (run_fn (us := [Value.ref a, Value.ref b]) (vs := [V.ref a, V.ref b]) F (hr.mono (Nat.le_succ _)) hb hd passE0 I (.cons (show RelV (V.ref a) (Value.ref a) from rfl) (.cons (show RelV (V.ref b) (Value.ref b) from rfl) .nil)) hsp) (fun v s' hv => ?_) fun _ _ e => e
  obtain ⟨z, H', I', rz, ⟨c, ez⟩, q⟩ := hv
  subst ez
  cases rz
  exact ⟨.ref c, H', I', rfl, q⟩
theorem un_ownInv (h : MetOk X.prog X.w X.K X.mg X.base k C "__invert__" 1 [] f) (hr : Room (k + 1) X.A) :
    UnR X (unaryOp .Invert) (fun x H Q => ∃ a dx fs, x = .ref a ∧ H a = some (.ins (He.ga X.K C) dx fs) ∧ spD X.K 1 f ([x] ++ []) H (gRef Q) E0) := by
  intro pins s σ H x v Q I rx hq
  obtain ⟨a, dx, fs, rfl, ha, hsp⟩ := hq
  cases rx
  obtain ⟨fa, fd, ps, dvs, ds, F, _, hm, hb, hd, hd2⟩ := h.ex
  obtain ⟨mA, J, _⟩ := ins_get I.hok ha
  obtain ⟨od, J, _⟩ := J.look
  obtain ⟨mm, hF⟩ := I.fr
  obtain rfl := dvs_nil hd2
  refine PySem.W.ksp_inv hF I.ok.mod.kin J hm.at_ hm.fn ?_
  refine wpAny_mono (run_fn (us := [Value.ref a]) (vs := [V.ref a]) F (hr.mono (Nat.le_succ _)) hb hd passE0 I (.cons (show RelV (V.ref a) (Value.ref a) from rfl) .nil) hsp) (fun v s' hv => ?_) fun _ _ e => e
  obtain ⟨z, H', I', rz, ⟨c, ez⟩, q⟩ := hv
  subst ez
  cases rz
  exact ⟨.ref c, H', I', rfl, q⟩
/-- what != asks of the class -/
structure NeC (K : PySem.W.Frag) (C : Str) : Prop where
  ne : PySem.W.findIn K (.ref (He.ga K C)) "__ne__" = some (some (.builtin "object.__ne__"))
  ob : PySem.W.mroIn K (He.ga K C) (.type "object") = some true
theorem op_ownNe (h : MetOk X.prog X.w X.K X.mg X.base k C "__eq__" 2 [] f) (c : NeC X.K C) (hr : Room (k + 1) X.A) : OpR X (compareOp .NotEq) (rOwn X.K C f gNe) := by
  intro pins s σ H x y v u Q I rx ry hq
  obtain ⟨a, dx, fs, t, rfl, ha, ht, hn, hsp⟩ := hq
  cases rx
  obtain ⟨fa, fd, ps, dvs, ds, F, hc, hm, hb, hd, hd2⟩ := h.ex
  obtain ⟨mA, J, _⟩ := ins_get I.hok ha
  obtain ⟨od, J, _⟩ := J.look
  obtain ⟨P, Z, hP, _⟩ := kit_of I ry ht
  obtain rfl := dvs_nil hd2
  show wpAny (model X.prog X.w) X.A (richCompare .NotEq _ u) (EP X pins σ Q) X.xe s
  refine ne_K hr.in1.units0 hr.units0 I.kIn J (Z.ty _ _ I.kIn hP) hn c.ne c.ob hm.at_ hm.fn ?_
  have r2 : Vals [V.ref a, y] [Value.ref a, u] := .cons (show RelV (V.ref a) (Value.ref a) from rfl) (.cons ry .nil)
  refine wpAny_call (codeAny_mono (F.raw hb hd X.A.in1 X.stack s H [Value.ref a, u] [V.ref a, y] _ E0 hr.in1 I.env0.in1 r2 hsp) fun r s' hq => ?_)
  cases r with
  | error e => exact passE0 pins σ H s e s' I hq
  | ok fl =>
    cases fl with
    | ret u =>
      obtain ⟨z, H', I', rz, b, ez, q⟩ := I.after hq
      subst ez
      cases rz
      exact ⟨b, rfl, .bl (!b), H', I', rfl, q⟩
    | next => exact False.elim hq
    | brk => exact False.elim hq
    | cont => exact False.elim hq
end
/-! the same over data -/
theorem notFirst_ty {K : PySem.W.Frag} {C : Addr} : ∀ n ∈ tyNs, PySem.W.notFirst K C (.type n) = true := by
  intro n hn
  have h : ∀ n ∈ tyNs, ∃ l, fastBuiltinMro n = some l ∧ l.all (fun v => match v with | .type _ => true | _ => false) = true := by decide +kernel
  obtain ⟨l, h1, h2⟩ := h n hn
  have : PySem.W.subIn K (.type n) (.ref C) = some false := by
    show (fastBuiltinMro n).map (·.contains (Value.ref C)) = some false
    rw [h1]
    have : l.contains (Value.ref C) = false := by
      clear h1
      induction l with
      | nil => rfl
      | cons a l ih =>
        simp only [List.all_cons, Bool.and_eq_true] at h2
        rw [List.contains_cons, ih h2.2, Bool.or_false]
        cases a <;> first | rfl | simp at h2
    show some (l.contains (Value.ref C)) = some false
    rw [this]
  unfold PySem.W.notFirst
  rw [this]; simp
def okR (C : Str) : D → Bool
  | .obj C' _ _ => decide (C' = C)
  | .exn _ _ _ _ => false
  | _ => true
def ownG (C : Str) (f : FnD) (g : Bool → Bool) (d u : D) : Option Out := match d with
  | .obj C' _ _ => if C' = C ∧ okR C u = true then (match f [d, u] with
    | some (.ok (.dat (.bl b))) => some (.dt (.bl (g b)))
    | _ => none) else none
  | _ => none
/-- == and !=, the left perhaps an instance of C -/
def eqO (C : Str) (f : FnD) (d u : D) : Option Out := match d with
  | .obj _ _ _ => ownG C f (fun b => b) d u
  | _ => eqF d u
def neO (C : Str) (f : FnD) (d u : D) : Option Out := match d with
  | .obj _ _ _ => ownG C f (fun b => !b) d u
  | _ => neF d u
theorem own_ty {K : PySem.W.Frag} {C : Str} (c : IsC K C) {F H : Hp} {u : D} {y : V} (e : Ex F H) (r : Rep K F u y) (h : okR C u = true) : ∃ t, TyX K H y t ∧ PySem.W.notFirst K (He.ga K C) t = true := by
  cases hn : tyN u with
  | some n => exact ⟨_, tyX_of e hn r, notFirst_ty n (tyN_mem hn)⟩
  | none =>
    cases u with
    | obj C' ns fs =>
      obtain rfl : C' = C := by simpa [okR] using h
      exact ⟨_, obj_ty c e r, by simp [PySem.W.notFirst]⟩
    | exn _ _ _ _ => cases h
    | _ => cases hn
theorem o2_own {K : PySem.W.Frag} {C : Str} {f : FnD} {g : Bool → Bool} {gg : VK → VK} (c : IsC K C) (hg : ∀ Q b H, gg Q (.bl b) H ↔ Q (.bl (g b)) H) : Op2 K (rOwn K C f gg) (ownG C f g) := by
  intro F H Q x y d u o e r1 r2 hf q
  unfold ownG at hf
  cases d with
  | obj C' ns fs =>
    simp only at hf
    by_cases h : C' = C ∧ okR C u = true
    · rw [if_pos h] at hf
      obtain ⟨rfl, hu⟩ := h
      obtain ⟨t, h1, h2⟩ := own_ty c e r2 hu
      have r1' := r1
      unfold Rep at r1'
      obtain ⟨a, dx, vs, rfl, h3, h4⟩ := r1'
      refine ⟨a, dx, _, t, rfl, e _ _ h3, h1, h2, ?_⟩
      cases hq : f [.obj C' ns fs, u] with
      | none => rw [hq] at hf; cases hf
      | some z =>
        rw [hq] at hf
        cases z with
        | exc x => cases hf
        | ok t =>
          cases t with
          | dat d =>
            cases d with
            | bl b =>
              cases hf
              refine ⟨F, _, _, e, reps_cons r1 (reps_cons r2 reps_nil), rfl, hq, rfl, fun v F' H' e1 e2 e3 e4 hold _ => ?_⟩
              have hv : v = .bl b := rb (show Rep K F' (.bl b) v from hold)
              subst hv
              exact (hg Q b H').mpr (q (.bl (g b)) F' H' e1 e2 e3 e4 rep_bl)
            | _ => cases hf
          | lst _ _ => cases hf
          | ins _ _ _ _ => cases hf
    · rw [if_neg h] at hf; cases hf
  | _ => cases hf
theorem o2_eqO {K : PySem.W.Frag} {C : Str} {f : FnD} (c : IsC K C) : Op2 K (fun x y H Q => rOwn K C f gEq x y H Q ∨ rEqD K x y H Q) (eqO C f) := by
  intro F H Q x y d u o e r1 r2 hf q
  unfold eqO at hf
  cases d with
  | obj C' ns fs => exact .inl (o2_own c (fun Q b H => ⟨fun ⟨b', h, q⟩ => by cases h; exact q, fun q => ⟨b, rfl, q⟩⟩) F H Q x y _ u o e r1 r2 hf q)
  | non => exact .inr (o2_eq F H Q x y _ u o e r1 r2 hf q)
  | bl _ => exact .inr (o2_eq F H Q x y _ u o e r1 r2 hf q)
  | int _ => exact .inr (o2_eq F H Q x y _ u o e r1 r2 hf q)
  | str _ => exact .inr (o2_eq F H Q x y _ u o e r1 r2 hf q)
  | tup _ => exact .inr (o2_eq F H Q x y _ u o e r1 r2 hf q)
  | lst _ => exact .inr (o2_eq F H Q x y _ u o e r1 r2 hf q)
  | scr _ => exact .inr (o2_eq F H Q x y _ u o e r1 r2 hf q)
  | exn _ _ _ _ => exact .inr (o2_eq F H Q x y _ u o e r1 r2 hf q)
  | dic _ _ => exact .inr (o2_eq F H Q x y _ u o e r1 r2 hf q)
theorem o2_neO {K : PySem.W.Frag} {C : Str} {f : FnD} (c : IsC K C) : Op2 K (fun x y H Q => rOwn K C f gNe x y H Q ∨ rNeD K x y H Q) (neO C f) := by
  intro F H Q x y d u o e r1 r2 hf q
  unfold neO at hf
  cases d with
  | obj C' ns fs => exact .inl (o2_own c (fun Q b H => ⟨fun ⟨b', h, q⟩ => by cases h; exact q, fun q => ⟨b, rfl, q⟩⟩) F H Q x y _ u o e r1 r2 hf q)
  | non => exact .inr (o2_ne F H Q x y _ u o e r1 r2 hf q)
  | bl _ => exact .inr (o2_ne F H Q x y _ u o e r1 r2 hf q)
  | int _ => exact .inr (o2_ne F H Q x y _ u o e r1 r2 hf q)
  | str _ => exact .inr (o2_ne F H Q x y _ u o e r1 r2 hf q)
  | tup _ => exact .inr (o2_ne F H Q x y _ u o e r1 r2 hf q)
  | lst _ => exact .inr (o2_ne F H Q x y _ u o e r1 r2 hf q)
  | scr _ => exact .inr (o2_ne F H Q x y _ u o e r1 r2 hf q)
  | exn _ _ _ _ => exact .inr (o2_ne F H Q x y _ u o e r1 r2 hf q)
  | dic _ _ => exact .inr (o2_ne F H Q x y _ u o e r1 r2 hf q)
section
variable {X : Cx} {k : Nat} {C : Str} {f : FnD}
theorem op_eqO (h : MetOk X.prog X.w X.K X.mg X.base k C "__eq__" 2 [] f) (hr : Room (k + 1) X.A) : OpR X (compareOp .Eq) (fun x y H Q => rOwn X.K C f gEq x y H Q ∨ rEqD X.K x y H Q) := OpR.or (op_ownEq h hr) (op_eqD hr.units)
theorem op_neO (h : MetOk X.prog X.w X.K X.mg X.base k C "__eq__" 2 [] f) (c : NeC X.K C) (hr : Room (k + 1) X.A) : OpR X (compareOp .NotEq) (fun x y H Q => rOwn X.K C f gNe x y H Q ∨ rNeD X.K x y H Q) := OpR.or (op_ownNe h c hr) (op_neD hr.units)
end
end SL

set_option Elab.async false
set_option linter.all false
set_option maxRecDepth 100000
set_option maxHeartbeats 4000000
namespace SL
open PySem PySem.Spec L2
/-! ### own operators that hand back an instance -/
theorem Hold.fzd {K : PySem.W.Frag} {F F' H H' : Hp} {t : T} {v : V} (h : Hold K F' H' t v) (e3 : Ex F' H') (e4 : ∀ a o, F' a = some o → F a = some o ∨ H a = none) (hn : t.own = true → ∀ a, v = .ref a → H a = none) :
    ∃ F2, Ex F' F2 ∧ Ex F2 H' ∧ (∀ a o, F2 a = some o → F a = some o ∨ H a = none) ∧ Rep K F2 t.fz v := by
  have main : ∀ (a : Addr) (o : HO), v = .ref a → H a = none → F' a = none → H' a = some o → Rep K (upd F' a o) t.fz v → ∃ F2, Ex F' F2 ∧ Ex F2 H' ∧ (∀ a o, F2 a = some o → F a = some o ∨ H a = none) ∧ Rep K F2 t.fz v := by
    intro a o ea ha fa ho r
    refine ⟨upd F' a o, Ex.new fa, fun b u hb => ?_, fun b u hb => ?_, r⟩
    · by_cases z : b = a
      · subst z; rw [upd_same] at hb; cases hb; exact ho
      · rw [upd_ne z] at hb; exact e3 b u hb
    · by_cases z : b = a
      · subst z; exact .inr ha
      · rw [upd_ne z] at hb; exact e4 b u hb
  cases t with
  | dat d => exact ⟨F', Ex.rfl, e3, e4, h⟩
  | lst b xs =>
    have h' := h
    obtain ⟨a, vs, rfl, q2, q3, q4⟩ := h'
    refine main a _ rfl (hn rfl a rfl) q2 q3 ?_
    show Rep K _ (.lst xs) _
    unfold Rep
    exact ⟨a, vs, rfl, upd_same, Reps.mono (Ex.new q2) _ _ q4⟩
  | ins b C ns xs =>
    have h' := h
    obtain ⟨a, dx, vs, rfl, q2, q3, q4, q5⟩ := h'
    refine main a _ rfl (hn rfl a rfl) q2 q3 ?_
    show Rep K _ (.obj C ns xs) _
    unfold Rep
    exact ⟨a, dx, vs, rfl, upd_same, q4, Reps.mono (Ex.new q2) _ _ q5⟩
theorem RetOk.of {K : PySem.W.Frag} {F H : Hp} {Q : VK} {t : T} (hb : t.brw = false) (q : OutOk K F H Q (.dt t.fz)) : RetOk K F H Q E0 (.ok t) :=
  ⟨hb, fun v F' H' e1 e2 e3 e4 hold hn => by
    obtain ⟨F2, g1, g2, g3, g4⟩ := hold.fzd e3 e4 hn
    exact q v F2 H' (e1.trans g1) e2 g2 g3 g4⟩
def isObj : D → Bool
  | .obj _ _ _ => true
  | _ => false
def outR : Option (Rs T) → Option Out
  | some (.ok t) => if t.brw = false ∧ isObj t.fz = true then some (.dt t.fz) else none
  | _ => none
theorem outR_ok {K : PySem.W.Frag} {F H : Hp} {Q : VK} {o : Out} {r : Option (Rs T)} (h : outR r = some o) (q : OutOk K F H Q o) : ∃ z, r = some z ∧ RetOk K F H (gRef Q) E0 z := by
  cases r with
  | none => cases h
  | some z =>
    cases z with
    | exc x => cases h
    | ok t =>
      unfold outR at h
      dsimp only at h
      by_cases c : t.brw = false ∧ isObj t.fz = true
      · rw [if_pos c] at h
        cases h
        refine ⟨_, rfl, RetOk.of c.1 fun v F' H' e1 e2 e3 e4 rd => ⟨?_, q v F' H' e1 e2 e3 e4 rd⟩⟩
        have hc := c.2
        cases hz : t.fz with
        | obj C ns fs =>
          rw [hz] at rd
          unfold Rep at rd
          obtain ⟨a, dx, vs, rfl, _⟩ := rd
          exact ⟨a, rfl⟩
        | _ => rw [hz] at hc; cases hc
      · rw [if_neg c] at h; cases h
/-- an operation that the class C has and, at what is not an instance, the built-in one -/
def binO (C : Str) (f : FnD) (g : D → D → Option Out) (d u : D) : Option Out := match d, u with
  | .obj C1 n1 f1, .obj C2 n2 f2 => if C1 = C ∧ C2 = C then outR (f [.obj C1 n1 f1, .obj C2 n2 f2]) else none
  | d, u => g d u
def rOwnB (K : PySem.W.Frag) (C : Str) (f : FnD) : R2 := fun x y H Q => ∃ a dx fs b dy gs, x = .ref a ∧ y = .ref b ∧ H a = some (.ins (He.ga K C) dx fs) ∧ H b = some (.ins (He.ga K C) dy gs) ∧ spD K 2 f ([x, y] ++ []) H (gRef Q) E0
theorem o2_binO {K : PySem.W.Frag} {C : Str} {f : FnD} {g : D → D → Option Out} {r : R2} (h : Op2 K r g) : Op2 K (fun x y H Q => rOwnB K C f x y H Q ∨ r x y H Q) (binO C f g) := by
  intro F H Q x y d u o e r1 r2 hf q
  unfold binO at hf
  split at hf
  · next C1 n1 f1 C2 n2 f2 =>
    by_cases c : C1 = C ∧ C2 = C
    · rw [if_pos c] at hf
      obtain ⟨rfl, rfl⟩ := c
      have r1' := r1
      have r2' := r2
      unfold Rep at r1' r2'
      obtain ⟨a, dx, vs, rfl, h3, h4⟩ := r1'
      obtain ⟨b, dy, ws, rfl, h5, h6⟩ := r2'
      obtain ⟨z, hz, hr⟩ := outR_ok hf q
      exact .inl ⟨a, dx, _, b, dy, _, rfl, rfl, e _ _ h3, e _ _ h5, F, _, z, e, reps_cons r1 (reps_cons r2 reps_nil), rfl, hz, hr⟩
    · rw [if_neg c] at hf; cases hf
  · exact .inr (h F H Q x y _ _ o e r1 r2 hf q)
def invO (C : Str) (f : FnD) (d : D) : Option Out := match d with
  | .obj C1 n1 f1 => if C1 = C then outR (f [.obj C1 n1 f1]) else none
  | _ => none
theorem o1_invO {K : PySem.W.Frag} {C : Str} {f : FnD} : Op1 K (fun x H Q => ∃ a dx fs, x = .ref a ∧ H a = some (.ins (He.ga K C) dx fs) ∧ spD K 1 f ([x] ++ []) H (gRef Q) E0) (invO C f) := by
  intro F H Q x d o e r1 hf q
  unfold invO at hf
  cases d with
  | obj C1 n1 f1 =>
    dsimp only at hf
    by_cases c : C1 = C
    · rw [if_pos c] at hf
      subst c
      have r1' := r1
      unfold Rep at r1'
      obtain ⟨a, dx, vs, rfl, h3, h4⟩ := r1'
      obtain ⟨z, hz, hr⟩ := outR_ok hf q
      exact ⟨a, dx, _, rfl, e _ _ h3, F, _, z, e, reps_cons r1 reps_nil, rfl, hz, hr⟩
    · rw [if_neg c] at hf; cases hf
  | _ => cases hf
section
variable {X : Cx} {W : WX} {a b e : Expr} {es : List Expr} {ma mb : Mo T} {pos : Pos} {n : Mo (List T)} {K : PySem.W.Frag}
theorem se_binO {op : Operator} {k : Nat} {C : Str} {f : FnD} {g : D → D → Option Out} {r : R2} (h : MetOk X.prog X.w X.K X.mg X.base k C (PySem.dunder op.info.2) 2 [] f) (hr : Room (k + 1) X.A) (hc : PySem.W.selfFirst X.K (He.ga X.K C) = true)
    (ho : OpR X (binaryOp op) r) (h2 : Op2 X.K r g) (ha : SE X W a ma) (hb : SE X W b mb) : SE X W (.BinOp a op b pos) (bin (binO C f g) ma mb) :=
  se_bin (OpR.or (op_ownBin h hr hc) ho) (o2_binO h2) ha hb
theorem op_no {op : Operator} : OpR X (binaryOp op) (fun _ _ _ _ => False) := fun _ _ _ _ _ _ _ _ _ _ _ _ h => h.elim
theorem o2_no : Op2 K (fun _ _ _ _ => False) (fun _ _ => none) := fun _ _ _ _ _ _ _ _ _ _ _ hf _ => by cases hf
theorem se_invO {k : Nat} {C : Str} {f : FnD} (h : MetOk X.prog X.w X.K X.mg X.base k C "__invert__" 1 [] f) (hr : Room (k + 1) X.A) (ha : SE X W a ma) : SE X W (.UnaryOp .Invert a pos) (una (invO C f) ma) :=
  se_un (un_ownInv h hr) o1_invO ha
/-! ### an instance is called -/
structure CalOk (P : Program) (w : World) (K : PySem.W.Frag) (mg : Str → Option Value) (base : Heap) (k : Nat) (C : Str) (a : Nat) (f : FnD) : Prop where
  ex : ∃ fa, FnR P w K mg base (L2.CX P w) k fa (spD K a f) ∧ StX.CallO K (He.ga K C) fa
theorem MetOk.cal {P : Program} {w : World} {mg : Str → Option Value} {base : Heap} {k : Nat} {C : Str} {a : Nat} {f : FnD} (h : MetOk P w K mg base k C "__call__" a [] f) (hi : ∀ fa, PySem.W.findIn K (.ref (He.ga K C)) "__call__" = some (some (.ref fa)) → PySem.W.fnIn K fa = true) : CalOk P w K mg base k C a f := by
  obtain ⟨fa, fd, ps, dvs, ds, F, hc, hm, hb, hd, hd2⟩ := h.ex
  obtain rfl := dvs_nil hd2
  refine ⟨fa, (F.raw hb hd).imp fun vs H Q E q => by rw [List.append_nil]; exact q, ⟨hm.at_, hm.fn, hi fa hm.at_⟩⟩
def refM (t : T) : Mo T := if isObj t.fz = true then ret t else nop
theorem snd_refM {t : T} {x : V} : SndX K W [some t] [some x] plT pmT (fun t v => v = x) (fun σ H Q => ∃ a, x = .ref a ∧ Q x H) (refM t) := by
  intro G F H ρ σ us ws Q r ρ' j hl ht hm k
  unfold refM at hm
  by_cases c : isObj t.fz = true
  · rw [if_pos c] at hm
    cases hm
    have hold := j.last hl ht
    have : ∃ a, x = .ref a := by
      cases t with
      | dat d =>
        cases d with
        | obj C ns fs =>
          have h : Rep K F (.obj C ns fs) x := hold
          unfold Rep at h
          obtain ⟨a, dx, vs, rfl, _⟩ := h
          exact ⟨a, rfl⟩
        | _ => cases c
      | lst _ _ => cases c
      | ins b C ns fs => obtain ⟨a, dx, vs, rfl, _⟩ := hold; exact ⟨a, rfl⟩
    obtain ⟨a, rfl⟩ := this
    exact ⟨a, rfl, k (.ref a) F H Ex.rfl hl rfl j⟩
  · rw [if_neg c] at hm; cases hm
def adr : V → Addr
  | .ref a => a
  | _ => 0
def hdObj (C : Str) : List D → Bool
  | .obj C' _ _ :: _ => decide (C' = C)
  | _ => false
def calM (C : Str) (a : Nat) (f : FnD) (ts : List T) : Mo T := match frzs ts with
  | none => nop
  | some ds => if hdObj C ds = true then noX (callM a f [] ts) else nop
/-- the callee and the arguments -/
def eCal (C : Str) (a : Nat) (f : FnD) (mo : Mo T) (n : Mo (List T)) : Mo T := bnd mo fun t => bnd (refM t) fun t => bnd n fun ts => calM C a f (t :: ts)
theorem snd_calM {C : Str} {k : Nat} {f : FnD} (ts : List T) (x : V) (vs : List V) :
    SndX X.K W (ts.map some) ((x :: vs).map some) plT pmT (fun _ _ => True) (fun σ H Q => StX.InsC X H (adr x) (He.ga X.K C) ∧ spD X.K k f (.ref (adr x) :: vs) H Q E0) (calM C k f ts) := by
  intro G F H ρ σ us ws Q r ρ' j hl ht hm kk
  unfold calM at hm
  cases hf : frzs ts with
  | none => rw [hf] at hm; cases hm
  | some ds =>
    rw [hf] at hm
    dsimp only at hm
    by_cases c : hdObj C ds = true
    · rw [if_pos c] at hm
      have key : x = .ref (adr x) ∧ StX.InsC X H (adr x) (He.ga X.K C) := by
        unfold frzs at hf
        by_cases hb : ts.any T.brw = true
        · rw [if_pos hb] at hf; cases hf
        · rw [if_neg hb] at hf
          cases hf
          have j' := j
          rw [← List.append_assoc, ← List.append_assoc] at j'
          obtain ⟨F1, x1, j1, r1⟩ := j'.freezes (by simp [hl, ht]) (by simpa using hb)
          have e := j1.ex
          cases ts with
          | nil => cases c
          | cons t ts =>
            rw [List.map_cons] at r1 c
            unfold Reps at r1
            obtain ⟨v, vr, e1, r2, _⟩ := r1
            cases e1
            cases hz : t.fz with
            | obj C' ns fs =>
              rw [hz] at c r2
              obtain rfl : C' = C := by simpa [hdObj] using c
              unfold Rep at r2
              obtain ⟨b, dx, ws', eb, h1, _⟩ := r2
              subst eb
              exact ⟨rfl, .inr ⟨dx, _, e _ _ h1⟩⟩
            | _ => rw [hz] at c; cases c
      refine ⟨key.2, ?_⟩
      have z := snd_callM0 (K := X.K) (W := W) (k := k) (f := f) (dds := []) (dvs := []) (fun _ => reps_nil) ts (x :: vs) G F H ρ σ us ws Q r ρ' j hl ht hm kk
      rw [List.append_nil] at z
      rw [← key.1]
      exact z
    · rw [if_neg c] at hm; cases hm
theorem se_cal {k : Nat} {C : Str} {ar : Nat} {f : FnD} {fe : Expr} (h : CalOk X.prog X.w X.K X.mg X.base k C ar f) (hr : Room k X.A) (ho : SE X W fe ma) (g : SA X W (e :: es) n)
    (ht : eval (.Call fe (e :: es) [] pos) X.env = (do callWith pos (← eval fe X.env) [] (backTo pos (starEach (e :: es) X.env)) (backToKw pos (keywordEach [] X.env))) := by rfl)
    (he : starEach (e :: es) X.env = (false, eval e X.env) :: starEach es X.env := by rfl) (hpl : (backTo pos (starEach es X.env)).any (·.1) = false := by rfl) : SE X W (.Call fe (e :: es) [] pos) (eCal C ar f ma n) := by
  obtain ⟨fa, F, co⟩ := h.ex
  obtain ⟨to, q1, z1⟩ := ho
  obtain ⟨ta, q, z⟩ := g
  refine ⟨_, StX.pe_callO q1 co F hr passE0 q ht he hpl, ?_⟩
  refine SndX.bnd (t2 := fun x σ H Q => ∃ a, x = V.ref a ∧ ta σ H fun vs H2 => StX.InsC X H2 a (He.ga X.K C) ∧ spD X.K ar f (V.ref a :: vs) H2 Q E0) rfl z1 fun u x _ => ?_
  have q : SndX X.K W [some u] [some x] plT pmT (fun _ _ => True) (fun σ H Q => ∃ a, x = .ref a ∧ ta σ H fun vs H2 => StX.InsC X H2 (adr x) (He.ga X.K C) ∧ spD X.K ar f (.ref (adr x) :: vs) H2 Q E0) (bnd (refM u) fun t => bnd n fun ts => calM C ar f (t :: ts)) := by
    refine SndX.pre (t1 := fun σ H Q => ∃ a, x = .ref a ∧ Q x H) (t2 := fun y σ H Q => ta σ H fun vs H2 => StX.InsC X H2 (adr x) (He.ga X.K C) ∧ spD X.K ar f (.ref (adr x) :: vs) H2 Q E0) rfl snd_refM fun u y hy => ?_
    subst hy
    refine SndX.bnd (L0 := [some u]) (M0 := [some y]) (t2 := fun vs σ H2 Q => StX.InsC X H2 (adr y) (He.ga X.K C) ∧ spD X.K ar f (.ref (adr y) :: vs) H2 Q E0) rfl z fun us xs _ => ?_
    exact snd_calM (u :: us) y xs
  refine q.cg fun σ H Q ⟨a, e1, e2⟩ => ⟨a, e1, ?_⟩
  subst e1
  exact e2
/-! ### f(g(..), ..): what is lent is new -/
def tmpM (k : Nat) (f : FnB) (ts : List T) : Mo T := match ts with
  | [] => nop
  | t :: us => match frzs us with
    | none => nop
    | some ds => if t.own = true ∧ t.brw = false ∧ ds.length = k then (match f (t.setB true) ds with
      | some (.ok d, t') => if t'.own = true then ret (.dat d) else nop
      | _ => nop) else nop
def eCallT (k : Nat) (f : FnB) (n : Mo (List T)) : Mo T := bnd n (tmpM k f)
theorem snd_tmpM {k : Nat} {f : FnB} (ts : List T) (vs : List V) :
    SndX K W (ts.map some) (vs.map some) plT pmT (fun _ _ => True) (fun σ H Q => spB K k f (vs ++ []) H Q E0) (tmpM k f ts) := by
  intro G F H ρ σ us ws Q r ρ' j hl ht hm kk
  unfold tmpM at hm
  cases ts with
  | nil => cases hm
  | cons t tr =>
    cases vs with
    | nil => have := j.len; simp at this; omega
    | cons v vr =>
      dsimp only at hm
      cases hf : frzs tr with
      | none => rw [hf] at hm; cases hm
      | some ds =>
        rw [hf] at hm
        dsimp only at hm
        by_cases c : t.own = true ∧ t.brw = false ∧ ds.length = k
        · rw [if_pos c] at hm
          cases hq : f (t.setB true) ds with
          | none => rw [hq] at hm; cases hm
          | some o =>
            obtain ⟨o1, t'⟩ := o
            rw [hq] at hm
            cases o1 with
            | exc x => cases hm
            | ok d =>
              dsimp only at hm
              by_cases ho' : t'.own = true
              · rw [if_pos ho'] at hm
                cases hm
                unfold frzs at hf
                by_cases hb : tr.any T.brw = true
                · rw [if_pos hb] at hf; cases hf
                · rw [if_neg hb] at hf
                  cases hf
                  have e1 : ρ ++ (us ++ List.map some (t :: tr)) = (ρ ++ us ++ [some t]) ++ tr.map some := by simp
                  have e2 : σ ++ (ws ++ List.map some (v :: vr)) = (σ ++ ws ++ [some v]) ++ vr.map some := by simp
                  rw [e1, e2] at j
                  obtain ⟨F1, x1, j1, r1⟩ := j.freezes (by simp [hl, ht]) (by simpa using hb)
                  have j2 := j1.pre (by simp [hl, ht])
                  have hL : (ρ ++ us ++ [some t])[(ρ ++ us).length]? = some (some t) := by simp
                  have hM : (σ ++ ws ++ [some v])[(ρ ++ us).length]? = some (some v) := by
                    have : (ρ ++ us).length = (σ ++ ws).length := by simp [hl, ht]
                    rw [this]; simp
                  obtain ⟨v', m1, m2, _⟩ := j2.ok _ _ hL
                  rw [hM] at m1; cases m1
                  obtain ⟨ad, u, ea, _, _⟩ := m2.adr c.1
                  subst ea
                  refine ⟨F1, t.setB true, .ref ad, _, vr ++ [], .ok d, t', by simp, j2.ex, setB_hold m2, by rw [setB_own]; exact c.1, setB_brw c.1, by rw [List.append_nil]; exact r1, c.2.2, hq, ?_⟩
                  intro rv F2 H2 g1 g2 g3 g4 g5 g6
                  have j4 := j2.call hL c.1 hM g1 g2 g3 g4 g5 ho'
                  have e3 : (ρ ++ us ++ [some t]).set (ρ ++ us).length (some (t'.setB t.brw)) = (ρ ++ us) ++ [some (t'.setB t.brw)] := by simp
                  rw [e3] at j4
                  have j5 := j4.pre (by simp [hl, ht])
                  refine kk rv F2 H2 (x1.trans g1) hl trivial ?_
                  rw [← List.append_assoc, ← List.append_assoc]
                  exact j5.dat g6
              · rw [if_neg ho'] at hm; cases hm
        · rw [if_neg c] at hm; cases hm
theorem se_callT {k : Nat} {f : Str} {ar : Nat} {g : FnB} {p : Pos} (h : DefB X.prog X.w X.K X.mg X.base k f ar g) (hr : Room k X.A) (ha : SA X W (e :: es) n) (hg : Gl X f := by rfl)
    (hdb : (f == ("__debug__" : Str)) = false := by decide) (he : starEach (e :: es) X.env = (false, eval e X.env) :: starEach es X.env := by rfl) (hpl : (backTo pos (starEach es X.env)).any (·.1) = false := by rfl) :
    SE X W (.Call (.Name f p) (e :: es) [] pos) (eCallT ar g n) := by
  obtain ⟨fa, fd, ps, F0, hm0, kp, hb⟩ := h.ex
  obtain ⟨ta, q, z⟩ := ha
  exact ⟨_, pe_call F0 hr hg hm0 kp hb .nil passL q hdb he hpl, SndX.bnd (t2 := fun vs σ H Q => spB X.K ar g (vs ++ []) H Q E0) rfl z fun us xs _ => snd_tmpM us xs⟩
/-! ### list(range(n)) -/
def lrgF (d : D) : Option Out := match d with
  | .int n => if n ≤ 100000 then some (.nl ((List.range n.toNat).map fun i => .int (i : Nat))) else none
  | _ => none
end
end SL

set_option Elab.async false
set_option linter.all false
set_option maxRecDepth 100000
set_option maxHeartbeats 4000000
namespace SL
open PySem PySem.Spec L2
section
variable {X : Cx} {W : WX} {a b c e : Expr} {es : List Expr} {ma mb mc : Mo T} {pos : Pos} {n : Mo (List T)} {K : PySem.W.Frag}
theorem sl_all : SlR X (fun x lo hi H Q => rSlL X.K x lo hi H Q ∨ (rSlA X.K x lo hi H Q ∨ rSlS x lo hi H Q)) := by
  intro pins s σ H x v vl vu lo hi sl Q I rx hs pl pu h
  rcases h with h | h | h
  · exact sl_list pins s σ H x v vl vu lo hi sl Q I rx hs pl pu h
  · exact sl_tupA pins s σ H x v vl vu lo hi sl Q I rx hs pl pu h
  · exact sl_str pins s σ H x v vl vu lo hi sl Q I rx hs pl pu h
theorem o3_sl : Sl3 K (fun x lo hi H Q => rSlL K x lo hi H Q ∨ (rSlA K x lo hi H Q ∨ rSlS x lo hi H Q)) slF :=
  fun F H Q x d lo hi o ex r hf q => sv_sl F H Q x d lo hi o ex (SV.of ex r) hf q
/-! list(range(..)) -/
theorem reps_rg {F : Hp} : ∀ (l : List Nat) (a : Int), Reps K F (l.map fun (i : Nat) => D.int (a + (i : Nat))) (l.map fun i => V.int (a + (i : Nat)))
  | [], _ => reps_nil
  | _ :: l, a => reps_cons rep_int (reps_rg l a)
def lrg2F (d u : D) : Option Out := match d, u with
  | .int i, .int j => if 0 ≤ i ∧ 0 ≤ j ∧ i ≤ 16777216 ∧ j ≤ 16777216 then some (.nl ((List.range (j - i).toNat).map fun (k : Nat) => .int (i + (k : Nat)))) else none
  | _, _ => none
theorem se_lrg {p p2 pos2 : Pos} (hc : X.calm = true) (hm : X.mg "list" = none) (hm2 : X.mg "range" = none) (ha : SE X W a ma) (hg : Gl X "list" := by rfl) (hg2 : Gl X "range" := by rfl) (na : starEach [a] X.env = (false, eval a X.env) :: starEach [] X.env := by rfl)
    (na2 : starEach [.Call (.Name "range" p2) [a] [] pos2] X.env = (false, eval (.Call (.Name "range" p2) [a] [] pos2) X.env) :: starEach [] X.env := by rfl) :
    SE X W (.Call (.Name "list" p) [.Call (.Name "range" p2) [a] [] pos2] [] pos) (una (lrg2F (.int 0)) ma) := by
  obtain ⟨ta, pa, sa⟩ := ha
  refine ⟨_, pe_listRg hc hg hm (prg_1 hg2 hm2 pa na) na2, ?_⟩
  refine SndX.bnd (t2 := fun (x : V) σ H (Q : VK) => ∃ n, x = .int n ∧ (RgOk 0 n ∧ ∀ q, H q = none → Q (.ref q) (upd H q (.lst (rgV 0 n))))) rfl sa fun t x _ => ?_
  refine snd_out (f := one (lrg2F (.int 0))) [t] [x] fun F H σ Q ds o ex rd hf q => ?_
  obtain ⟨d, rfl, r1⟩ := reps1 rd
  unfold one lrg2F at hf
  cases d with
  | int j =>
    dsimp only at hf
    split at hf
    · next h =>
      cases hf
      cases ri r1
      exact ⟨j, rfl, RgOk.of_le (by omega) (by omega) (by omega) (by omega), fun p hp => q p _ hp (by unfold rgV; exact reps_rg _ _)⟩
    · cases hf
  | _ => cases hf
theorem se_lrg2 {p p2 pos2 : Pos} (hc : X.calm = true) (hm : X.mg "list" = none) (hm2 : X.mg "range" = none) (ha : SE X W a ma) (hb : SE X W b mb) (hg : Gl X "list" := by rfl) (hg2 : Gl X "range" := by rfl) (na : starEach [a, b] X.env = (false, eval a X.env) :: starEach [b] X.env := by rfl)
    (nb : starEach [b] X.env = (false, eval b X.env) :: starEach [] X.env := by rfl) (hp : (backTo pos2 (starEach [b] X.env)).any (·.1) = false := by rfl)
    (na2 : starEach [.Call (.Name "range" p2) [a, b] [] pos2] X.env = (false, eval (.Call (.Name "range" p2) [a, b] [] pos2) X.env) :: starEach [] X.env := by rfl) :
    SE X W (.Call (.Name "list" p) [.Call (.Name "range" p2) [a, b] [] pos2] [] pos) (bin lrg2F ma mb) := by
  obtain ⟨ta, pa, sa⟩ := ha
  obtain ⟨tb, pb, sb⟩ := hb
  refine ⟨_, pe_listRg hc hg hm (prg_2 hg2 hm2 pa pb na nb hp) na2, ?_⟩
  refine (snd_bin (r := fun x y H Q => ∃ i j, x = .int i ∧ y = .int j ∧ (RgOk i j ∧ ∀ q, H q = none → Q (.ref q) (upd H q (.lst (rgV i j))))) ?_ sa sb).cg fun σ H Q h => h
  intro F H Q x y d u o ex r1 r2 hf q
  unfold lrg2F at hf
  split at hf
  · next i j =>
    split at hf
    · next h =>
      cases hf
      cases ri r1
      cases ri r2
      exact ⟨i, j, rfl, rfl, RgOk.of_le (by omega) (by omega) (by omega) (by omega), fun p hp => q p _ hp (by unfold rgV; exact reps_rg _ _)⟩
    · cases hf
  · cases hf
/-! a op b op2 c -/
def eChn (f g : D → D → Option Out) (ma mb mc : Mo T) : Mo T := bnd ma fun t => bnd mb fun u => if u.brw = true then nop else bnd (opM (two f) [t, .dat u.fz]) fun z => bnd (asB z) fun k => if k = true then bnd mc fun w => opM (two g) [.dat u.fz, w] else ret (.dat (.bl false))
/-! a, b, c = x, y, z -/
def sPar3 (i jj l : Nat) (n : Mo (List T)) : So := toS n fun ts ρ => match frzs ts with
  | some [d, e, g] => if i < ρ.length ∧ jj < ρ.length ∧ l < ρ.length then some (.next, ((ρ.set i (some (.dat d))).set jj (some (.dat e))).set l (some (.dat g))) else none
  | _ => none
theorem reps_three {F : Hp} {d e g : D} {vs : List V} (h : Reps K F [d, e, g] vs) : ∃ u v w, vs = [u, v, w] ∧ Rep K F d u ∧ Rep K F e v ∧ Rep K F g w := by
  unfold Reps at h
  obtain ⟨u, r, rfl, h1, h⟩ := h
  unfold Reps at h
  obtain ⟨v, r, rfl, h2, h⟩ := h
  unfold Reps at h
  obtain ⟨w, r, rfl, h3, h⟩ := h
  unfold Reps at h
  subst h
  exact ⟨u, v, w, rfl, h1, h2, h3⟩
theorem ss_par3 {i jj l : Nat} {x y z : Str} {px py pz pt : Pos} {kt k2 pt2} (hc : X.calm = true) (hN : X.N.Nodup) (ha : SA X W [a, b, c] n) (hij : i ≠ jj) (hil : i ≠ l) (hjl : jj ≠ l)
    (hp : ∀ {ta : TA}, PA X [a, b, c] ta → PS X (.Assign [.Tuple [.Name x px, .Name y py, .Name z pz] kt pt] (.Tuple [a, b, c] k2 pt2) pos) (tPar3 i jj l ta)) :
    SS X W (.Assign [.Tuple [.Name x px, .Name y py, .Name z pz] kt pt] (.Tuple [a, b, c] k2 pt2) pos) (sPar3 i jj l n) := by
  obtain ⟨ta, q, z⟩ := ha
  refine ⟨_, hp q, ?_⟩
  refine z.toS (tk := fun vs D σ H => ∃ u v w, vs = [u, v, w] ∧ D.nx (((σ.set i (some u)).set jj (some v)).set l (some w)) H) fun ts vs _ G F H ρ σ us ws D fl ρ' j hl ht hm k => ?_
  cases hf : frzs ts with
  | none => rw [hf] at hm; cases hm
  | some ds =>
    rw [hf] at hm
    unfold frzs at hf
    by_cases hb : ts.any T.brw = true
    · rw [if_pos hb] at hf; cases hf
    · rw [if_neg hb] at hf
      cases hf
      rw [← List.append_assoc, ← List.append_assoc] at j
      obtain ⟨F1, x1, j1, r1⟩ := j.freezes (by simp [hl, ht]) (by simpa using hb)
      have j2 := j1.pre (by simp [hl, ht])
      generalize ts.map T.fz = ds at hm r1
      match ds, hm with
      | [d, e, g], hm =>
        dsimp only at hm
        by_cases hlt : i < ρ.length ∧ jj < ρ.length ∧ l < ρ.length
        · rw [if_pos hlt] at hm
          cases hm
          obtain ⟨u, v, w, rfl, q1, q2, q3⟩ := reps_three r1
          refine ⟨u, v, w, rfl, ?_⟩
          have j3 := (j2.dat q1).take (i := i) (by simp [hl, ht])
          rw [List.set_append_left _ _ hlt.1, List.set_append_left _ _ (by rw [← hl]; exact hlt.1)] at j3
          have j4 := (j3.dat q2).take (i := jj) (by simp [hl, ht])
          rw [List.set_append_left _ _ (by simpa using hlt.2.1), List.set_append_left _ _ (by rw [List.length_set, ← hl]; exact hlt.2.1)] at j4
          have j5 := (j4.dat q3).take (i := l) (by simp [hl, ht])
          rw [List.set_append_left _ _ (by simpa using hlt.2.2), List.set_append_left _ _ (by rw [List.length_set, List.length_set, ← hl]; exact hlt.2.2)] at j5
          exact k _ F1 H x1 (by simpa using hl) (by simp) j5
        · rw [if_neg hlt] at hm; cases hm
/-! range(i, j, -1) -/
def rngC (lo : Int) (n : Nat) : List D := (List.range n).map fun (k : Nat) => D.int (lo + (k : Nat) * (-1))
def rng3 : List D → Option (List D)
  | [.int i, .int j, .int c] => if c = -1 ∧ -100000 ≤ i ∧ i ≤ 100000 ∧ -100000 ≤ j ∧ j ≤ 100000 then some (rngC i (i - j).toNat) else none
  | _ => none
theorem wk_rngC {F : Hp} {lo : Int} {n : Nat} : Wk K (Itc lo (-1) n) F (rngC lo n) := by
  intro F1 H e1 e2 i
  refine ⟨fun hi => (show n ≤ i by simpa [rngC] using hi), fun d hd => ?_⟩
  unfold rngC at hd
  rw [List.getElem?_map] at hd
  cases e : (List.range n)[i]? with
  | none => rw [e] at hd; cases hd
  | some k =>
    rw [e] at hd
    have hk := List.getElem?_eq_some_iff.mp e
    obtain ⟨h1, h2⟩ := hk
    simp at h1 h2
    subst h2
    cases hd
    refine ⟨h1, fun x H' y => ?_⟩
    obtain ⟨rfl, rfl⟩ := y
    exact ⟨F1, Ex.rfl, Ex.rfl, e2, fun _ _ z => .inl z, rep_int⟩
theorem si_rng3 {tg : Expr} {p : Pos} (hm : X.mg "range" = none) (g : SA X W [a, b, c] n) (hg : Gl X "range" := by rfl) (hs : starEach [a, b, c] X.env = (false, eval a X.env) :: starEach [b, c] X.env := by rfl) (hpl : (backTo pos (starEach [b, c] X.env)).any (·.1) = false := by rfl) :
    SI X W tg (.Call (.Name "range" p) [a, b, c] [] pos) (iOf rng3 n) := by
  obtain ⟨ta, q, z⟩ := g
  refine ⟨_, pi_range3 hg hm q hs hpl, snd_iOf (t2 := fun vs σ H1 R => ∃ (i j c : Int) (n : Nat), vs = [.int i, .int j, .int c] ∧ RgC i j c n ∧ R (Itc i c n) H1) z fun F H σ R vs ds xs e rd hf k => ?_⟩
  match ds, hf with
  | [.int ii, .int jj, .int cc], hf =>
    simp only [rng3] at hf
    by_cases hz : cc = -1 ∧ -100000 ≤ ii ∧ ii ≤ 100000 ∧ -100000 ≤ jj ∧ jj ≤ 100000
    · rw [if_pos hz] at hf
      cases hf
      obtain ⟨u, v, w, rfl, q1, q2, q3⟩ := reps_three rd
      cases ri q1
      cases ri q2
      cases ri q3
      obtain ⟨rfl, hz⟩ := hz
      exact ⟨ii, jj, -1, _, rfl, RgC.neg (by omega) (by omega) (by omega) (by omega), k _ F H Ex.rfl Ex.rfl e (fun _ _ z => .inl z) wk_rngC⟩
    · rw [if_neg hz] at hf; cases hf
end
end SL

set_option Elab.async false
set_option linter.all false
set_option maxRecDepth 100000
set_option maxHeartbeats 4000000
namespace SL
open PySem PySem.Spec PyProof.Rows L2
/-! ### the head: facts and defs at paths -/
/-- where a def's function stands, how it is written -/
structure Df where
  at_ : PySem.W.Frag → Addr
  name : Str
  qual : Str
  params : Arguments
  body : List Stmt
  scope : Scope
  dfl : List He.Dv := []
  free : List Str := []
def fnAt (K : PySem.W.Frag) (a : Addr) : He.FnW := match K.lookup a with
  | some ⟨_, _, .func fd, _⟩ => some (fd.name, fd.qualname, fd.params, fd.body, fd.scope, fd.globals, fd.closure.map (fun p => (p.1, 0)), fd.builtins)
  | _ => none
def Df.val (d : Df) : He.FnW := some (d.name, d.qual, d.params, .stmts d.body, d.scope, mainGlobals, d.free.map (fun x => (x, 0)), builtinsNs)
def Df.dvs (K : PySem.W.Frag) (d : Df) : List V := d.dfl.map (He.Dv.v K)
def Df.ok (K : PySem.W.Frag) (d : Df) : Bool := PySem.W.keepIn K (.ref (d.at_ K)) && (match K.lookup (d.at_ K) with
  | some ⟨_, _, .func fd, _⟩ => PySem.W.codeIn K fd.code d.qual && He.dflB K fd.defaults (d.dvs K)
  | _ => false)
theorem Df.funD {K : PySem.W.Frag} {d : Df} (hf : d.free = []) (e : fnAt K (d.at_ K) = d.val) (c : d.ok K = true) : ∃ fd, FunD K d.name d.qual d.params d.body d.scope (d.dvs K) [] (d.at_ K) fd := by
  obtain ⟨kp, c2⟩ := He.ba c
  unfold fnAt at e
  split at e
  · next fc fo fd fs q =>
    rw [q] at c2
    dsimp only at c2
    obtain ⟨k1, k3⟩ := He.ba c2
    obtain ⟨n1, n2, n3, n4, n5, n6, n7, n8, n9, n10, n11, n12, n13, n14, n15⟩ := fd
    unfold Df.val at e
    rw [hf] at e
    simp only [Option.some.injEq, Prod.mk.injEq, List.map_nil, List.map_eq_nil_iff] at e
    obtain ⟨h1, h2, h3, h4, h5, h6, h7, h8⟩ := e
    subst h1 h2 h3 h4 h5 h6 h7 h8
    exact ⟨_, ⟨fc, fo, n8, n9, n10, n11, n12, n13, n14, fs, rfl, q, k1, He.dflB_ok k3, .inl rfl⟩, kp⟩
  · cases e
abbrev Ft : Type := PySem.W.Frag → Bool
def obsP (fa : List Ft) (fn : List Df) (K : PySem.W.Frag) : He.AlD := ((fa.all fun f => f K) && fn.all fun d => d.ok K, fn.map fun d => fnAt K (d.at_ K))
def valP (fn : List Df) : He.AlD := (true, fn.map Df.val)
def SaysP (fa : List Ft) (fn : List Df) (K : PySem.W.Frag) : Prop := obsP fa fn K = valP fn
def obsPG (n : Nat) (fa : List Ft) (fn : List Df) (g : Addr → Option Obj) : He.AlD := obsP fa fn (He.frG g (He.asD g n))
def hookP (n : Nat) (fa : List Ft) (fn : List Df) : PySem.W.Hook where
  α := He.AlD
  obs := fun s => obsPG n fa fn s.heap.get?
  val := fun _ => valP fn
  says := fun _ h => ∃ K : PySem.W.Frag, K.In h ∧ SaysP fa fn K
  of := fun _ _ e => ⟨_, He.frG_in, e⟩
  keeps := fun _ _ _ ⟨K, hK, c⟩ k => ⟨K, PySem.W.Frag.In.keeps hK k, c⟩
theorem obsPG_eq {n : Nat} {fa : List Ft} {fn : List Df} {g : Addr → Option Obj} {s : Shared} (h : ∀ a, g a = s.heap.get? a) : obsPG n fa fn g = (hookP n fa fn).obs s := by
  have e : g = s.heap.get? := funext h
  rw [e] <;> rfl
section
variable {fa : List Ft} {fn : List Df} {K : PySem.W.Frag}
theorem SaysP.fact (c : SaysP fa fn K) (i : Nat) {f : Ft} (h : fa[i]? = some f := by rfl) : f K = true := by
  have c1 := (He.ba (show ((fa.all fun f => f K) && fn.all fun d => d.ok K) = true from congrArg (fun z : He.AlD => z.1) c)).1
  exact List.all_eq_true.mp c1 f (List.mem_of_getElem? h)
theorem SaysP.def_ (c : SaysP fa fn K) (i : Nat) {d : Df} (h : fn[i]? = some d := by rfl) (hf : d.free = [] := by rfl) : ∃ fd, FunD K d.name d.qual d.params d.body d.scope (d.dvs K) [] (d.at_ K) fd := by
  have c2 := (He.ba (show ((fa.all fun f => f K) && fn.all fun d => d.ok K) = true from congrArg (fun z : He.AlD => z.1) c)).2
  have e : fn.map (fun d => fnAt K (d.at_ K)) = fn.map Df.val := congrArg (fun z : He.AlD => z.2) c
  have e2 : (fn.map fun d => fnAt K (d.at_ K))[i]? = (fn.map Df.val)[i]? := by rw [e]
  rw [List.getElem?_map, List.getElem?_map, h] at e2
  exact Df.funD hf (Option.some.inj e2) (List.all_eq_true.mp c2 d (List.mem_of_getElem? h))
end
/-! ### the facts -/
def pGlo (x : Str) : Ft := (He.Fa.glo x).ok
def pFree (x : Str) : Ft := (He.Fa.free x).ok
def pCls (C : Str) : Ft := (He.Fa.cls C).ok
def pNoat (C f : Str) : Ft := (He.Fa.noat C f).ok
def pMeth (C m : Str) : Ft := (He.Fa.meth C m).ok
def pMkr (C : Str) : Ft := (He.Fa.mkr C).ok
def eqB (a b : Option Bool) : Bool := match a, b with
  | some x, some y => x == y
  | _, _ => false
theorem eqB_ok {a : Option Bool} {b : Bool} (h : eqB a (some b) = true) : a = some b := by
  cases a with
  | none => cases h
  | some x => cases x <;> cases b <;> first | rfl | cases h
def pIsC (C : Str) : Ft := fun K => (He.Fa.cls C).ok K && (He.eqO (PySem.W.findIn K (.ref (He.ga K C)) "__class__") (some (some (.builtin "object.__class__"))) &&
  (He.eqO (PySem.W.specialIn K (.builtin "object.__class__") "__get__") (some (some (.builtin "getset_descriptor.__get__"))) && (eqB (PySem.W.takesIn K (.builtin "object.__class__")) (some true) &&
  (eqB (PySem.W.mroIn K (He.ga K C) (.type "object")) (some true) && ((tyNs.all fun n => eqB (PySem.W.kitOne K (.type n) (.ref (He.ga K C))) (some false)) && (tyNs.all fun n => eqB (PySem.W.kitOne K (.ref (He.ga K C)) (.type n)) (some false)))))))
theorem cls_of {K : PySem.W.Frag} {C : Str} (c : pCls C K = true) : Cls K (He.ga K C) := by
  have c : (PySem.W.plainGet K (He.ga K C) Str.empty && (PySem.W.hasDictIn K (He.ga K C) && (PySem.W.plainOver K (He.ga K C) && He.eqO (PySem.W.findIn K (.ref (He.ga K C)) "__setattr__") (some (some (.builtin "object.__setattr__")))))) = true := c
  obtain ⟨h1, c⟩ := He.ba c
  obtain ⟨h2, c⟩ := He.ba c
  obtain ⟨h3, h4⟩ := He.ba c
  exact ⟨h1, h2, h3, He.eqO_ok h4⟩
theorem isC_of {K : PySem.W.Frag} {C : Str} (c : pIsC C K = true) : IsC K C := by
  obtain ⟨h0, c⟩ := He.ba c
  obtain ⟨h1, c⟩ := He.ba c
  obtain ⟨h2, c⟩ := He.ba c
  obtain ⟨h3, c⟩ := He.ba c
  obtain ⟨h4, c⟩ := He.ba c
  obtain ⟨h5, h6⟩ := He.ba c
  exact ⟨cls_of h0, He.eqO_ok h1, He.eqO_ok h2, eqB_ok h3, eqB_ok h4, fun n hn => eqB_ok (List.all_eq_true.mp h5 n hn), fun n hn => eqB_ok (List.all_eq_true.mp h6 n hn)⟩
def pNe (C : Str) : Ft := fun K => He.eqO (PySem.W.findIn K (.ref (He.ga K C)) "__ne__") (some (some (.builtin "object.__ne__"))) && eqB (PySem.W.mroIn K (He.ga K C) (.type "object")) (some true)
theorem neC_of {K : PySem.W.Frag} {C : Str} (c : pNe C K = true) : NeC K C := by
  obtain ⟨h1, h2⟩ := He.ba c
  exact ⟨He.eqO_ok h1, eqB_ok h2⟩
def pSelf (C : Str) : Ft := fun K => PySem.W.selfFirst K (He.ga K C)
def pFn (C m : Str) : Ft := fun K => PySem.W.fnIn K (He.ma K (He.ga K C) m)
theorem noat_of {K : PySem.W.Frag} {C f : Str} (c : pNoat C f K = true) : NoAttr K (He.ga K C) f := He.eqO_ok c
theorem fld_of {K : PySem.W.Frag} {cs : List Str} {f : Str} (h1 : ∀ C ∈ cs, pCls C K = true) (h2 : ∀ C ∈ cs, pNoat C f K = true) : FldOk K cs f := ⟨fun C hC => ⟨cls_of (h1 C hC), noat_of (h2 C hC)⟩⟩
theorem meth_of {K : PySem.W.Frag} {C m : Str} (c : pMeth C m K = true) : Meth K (He.ga K C) m (He.ma K (He.ga K C) m) := by
  have c : (He.eqO (PySem.W.findIn K (.ref (He.ga K C)) m) (some (some (.ref (He.ma K (He.ga K C) m)))) && (PySem.W.isFn K (.ref (He.ma K (He.ga K C) m)) && PySem.W.keepIn K (.ref (He.ma K (He.ga K C) m)))) = true := c
  obtain ⟨h1, c⟩ := He.ba c
  obtain ⟨h2, h3⟩ := He.ba c
  exact ⟨He.eqO_ok h1, h2, h3⟩
theorem mkr_of {K : PySem.W.Frag} {C : Str} (c : pMkr C K = true) : Mk K (He.ga K C) (He.ma K (He.ga K C) "__init__") := by
  have c : (PySem.W.makesIn K (He.ga K C) && (He.eqO (PySem.W.findIn K (.ref (He.ga K C)) "__init__") (some (some (.ref (He.ma K (He.ga K C) "__init__")))) && (PySem.W.isFn K (.ref (He.ma K (He.ga K C) "__init__")) && PySem.W.keepIn K (.ref (He.ga K C))))) = true := c
  obtain ⟨h1, c⟩ := He.ba c
  obtain ⟨h2, c⟩ := He.ba c
  obtain ⟨h3, h4⟩ := He.ba c
  exact ⟨h1, He.eqO_ok h2, h3, h4⟩
/-- a property's getter -/
def gtr (C m : Str) (K : PySem.W.Frag) : Addr := match PySem.W.recIn K (He.ma K (He.ga K C) m) "property" with
  | some (.ref g :: _) => g
  | _ => 0
def pPrp (C m : Str) : Ft := fun K => He.eqO (PySem.W.findIn K (.ref (He.ga K C)) m) (some (some (.ref (He.ma K (He.ga K C) m)))) && (He.eqO (PySem.W.specialIn K (.ref (He.ma K (He.ga K C) m)) "__get__") (some (some (.builtin "property.__get__"))) &&
  (eqB (PySem.W.takesIn K (.ref (He.ma K (He.ga K C) m))) (some true) && (match PySem.W.recIn K (He.ma K (He.ga K C) m) "property" with
    | some (.ref _ :: _) => true
    | _ => false)))
theorem prp_of {K : PySem.W.Frag} {C m : Str} (c : pPrp C m K = true) : PropOf K (He.ga K C) m (He.ma K (He.ga K C) m) (gtr C m K) := by
  obtain ⟨h1, c⟩ := He.ba c
  obtain ⟨h2, c⟩ := He.ba c
  obtain ⟨h3, h4⟩ := He.ba c
  refine ⟨He.eqO_ok h1, He.eqO_ok h2, eqB_ok h3, ?_⟩
  unfold gtr
  split at h4
  · next g r e => exact ⟨r, by rw [e]⟩
  · cases h4
/-- an empty tuple among the defaults -/
def pTup0 (p : PySem.W.Frag → Addr) : Ft := fun K => match K.lookup (p K) with
  | some ⟨.type c, _, .seq its _, _⟩ => decide (c = "tuple") && decide (its = #[])
  | _ => false
theorem tup0_of {K : PySem.W.Frag} {p : PySem.W.Frag → Addr} (c : pTup0 p K = true) (F : Hp) : Rep K F (.tup []) (.ref (p K)) := by
  unfold pTup0 at c
  split at c
  · next cc d its n sl e =>
    obtain ⟨h1, h2⟩ := He.ba c
    have h1 := of_decide_eq_true h1
    have h2 := of_decide_eq_true h2
    subst h1 h2
    unfold Rep
    exact ⟨_, [], rfl, .inr ⟨_, #[], n, e, rfl, rfl, by decide, .nil⟩, reps_nil⟩
  · cases c
/-- the default's address of a method -/
def dflM (C m : Str) (i : Nat) (K : PySem.W.Frag) : Addr := He.dflAt (C, some m) i K
def dflF (x : Str) (i : Nat) (K : PySem.W.Frag) : Addr := He.dflAt (x, none) i K
section
variable {P : Program} {w : World} {K : PySem.W.Frag} {mg : Str → Option Value} {base : Heap} {k n : Nat} {x q C m : Str} {fa : Addr} {fd : FuncData} {ps : List Str} {pr : Arguments} {bd : List Stmt} {sc : Scope} {dv : List V} {f : FnD} {g : FnB} {ds : List Value} {dds : List D} {dvs : List V}
theorem defOk_of (h : FnOk P w K mg base (L2.CX P w) k fa fd ps (spD K n f)) (F : FunD K x q pr bd sc dv [] fa fd) (gm : mg x = some (.ref fa)) (b : Binds K fd ps []) : DefOk P w K mg base k x n [] f :=
  ⟨fa, fd, ps, [], [], h, gm, F.kp, b, .nil, fun _ => reps_nil⟩
theorem fnOk_no : FnOk P w K mg base (L2.CX P w) k fa fd ps (spD K n (fun _ => none)) :=
  ⟨fun vs H Q E h => (by obtain ⟨_, _, _, _, _, _, h, _⟩ := h; cases h), fun A outer s H args us vs Q E hr he hb hv h => (by obtain ⟨_, _, _, _, _, _, h, _⟩ := h; cases h)⟩
theorem metOk_of (h : FnOk P w K mg base (L2.CX P w) k (He.ma K (He.ga K C) m) fd ps (spD K n f)) (c : Cls K (He.ga K C)) (mm : Meth K (He.ga K C) m (He.ma K (He.ga K C) m)) (b : Binds K fd ps []) : MetOk P w K mg base k C m n [] f :=
  ⟨_, fd, ps, [], [], h, c, mm, b, .nil, fun _ => reps_nil⟩
theorem calOk_of (h : FnOk P w K mg base (L2.CX P w) k (He.ma K (He.ga K C) "__call__") fd ps (spD K n f)) (mm : Meth K (He.ga K C) "__call__" (He.ma K (He.ga K C) "__call__")) (c : pFn C "__call__" K = true) (b : Binds K fd ps []) : CalOk P w K mg base k C n f :=
  ⟨_, (h.raw b .nil).imp fun vs H Q E q => by rw [List.append_nil]; exact q, ⟨mm.at_, mm.fn, c⟩⟩
theorem prpOk_of (h : FnOk P w K mg base (L2.CX P w) k (gtr C m K) fd ps (spD K 1 f)) (c : Cls K (He.ga K C)) (p : PropOf K (He.ga K C) m (He.ma K (He.ga K C) m) (gtr C m K)) (b : Binds K fd ps []) : PrpOk P w K mg base k C m f :=
  ⟨_, _, fd, ps, h, c, p, b⟩
theorem makOk_of (h : FnOk P w K mg base (L2.CX P w) k (He.ma K (He.ga K C) "__init__") fd ps (spB K n g)) (M : Mk K (He.ga K C) (He.ma K (He.ga K C) "__init__")) (gm : mg C = some (.ref (He.ga K C))) (b : Binds K fd ps []) : MakOk P w K mg base k C n [] g :=
  ⟨_, fd, ps, [], [], h, M, gm, b, .nil, fun _ => reps_nil⟩
theorem makOk_ofD (h : FnOk P w K mg base (L2.CX P w) k (He.ma K (He.ga K C) "__init__") fd ps (spB K n g)) (M : Mk K (He.ga K C) (He.ma K (He.ga K C) "__init__")) (gm : mg C = some (.ref (He.ga K C))) (b : Binds K fd ps ds) (v : Vals dvs ds) (r : ∀ F, Reps K F dds dvs) : MakOk P w K mg base k C n dds g :=
  ⟨_, fd, ps, dvs, ds, h, M, gm, b, v, r⟩
end
/-- the end: the law's def over the script -/
theorem spD_law {K : PySem.W.Frag} {f : FnD} {H : Hp} {a : Addr} {ns : List Int} (hH : SqL K H a (ns.map V.int)) (hf : f [.scr ns] = some (.ok (.dat (.bl true)))) : spD K 1 f [.ref a] H (fun v _ => v = .bl true) E0 := by
  refine ⟨H, [.scr ns], _, Ex.rfl, reps_cons ?_ reps_nil, rfl, hf, rfl, fun v F' H' e1 e2 e3 e4 hold _ => rb (show Rep K F' (.bl true) v from hold)⟩
  unfold Rep
  exact ⟨a, rfl, hH⟩
end SL

set_option Elab.async false
set_option linter.all false
set_option maxRecDepth 100000
set_option maxHeartbeats 4000000
namespace SL
open PySem PySem.Spec PyProof.Rows L2
theorem walk_ofW {l : PySem.W.OpenLaw} {n k : Nat} {q : Program} {loose : List Str} {XP : (Str → Option Value) → Heap → Prop} {YP : World → Heap → Prop} {d : DefRec} {x : Str} {f : FnD}
    (hn : l.most = some n) (hn2 : n ≤ sizeLine) (hdf : d.params.defaults = []) (hr : Room k callerA)
    (F : ∀ (w : World) (mg : Str → Option Value) (fa : Addr) (h : Heap), YP w h → h.Ns mainGlobals mg → mg d.name = some (.ref fa) →
      ∃ (K : PySem.W.Frag) (fd : FuncData), K.In h ∧ (∀ (s : Shared) (u : Value), BindsTo s fd ⟨[u], []⟩ [(x, u)]) ∧ ∀ base : Heap, K.In base → base.Ns mainGlobals mg → FnOk l.prog w K mg base (L2.CX l.prog w) k fa fd [x] (spD K 1 f))
    (law : ∀ ns : List Int, ns.length ≤ n → (∀ k ∈ ns, Builtin.Int.intBits k ≤ 1048576) → f [.scr ns] = some (.ok (.dat (.bl true)))) :
    PySem.W.WalkO q loose XP YP l.row.toRowW d [] (fun f vs => PySem.call f vs) := by
  refine Att.attach_callB hn hdf fun w s₀ s₁ mg mb fa o pm cd doc a vs ns G Y ho hd hcd hmg hobj hints hlen hbits hg => ?_
  obtain ⟨K, fd, KX, hb, hF⟩ := F w mg fa _ Y G.T.g hmg
  refine law_call KX G.T.g G.T.b G.T.builtins G.T.nolimit hg hobj hints (Nat.le_trans hlen hn2) hr hF hb (fun H hO hS => spD_law hS (law ns hlen hbits)) fun H e s' h => ?_
  obtain ⟨_, _, _, _, _, _, _, _, _, _, _, _, z⟩ := h
  exact z
end SL

set_option Elab.async false
set_option linter.all false
set_option maxRecDepth 100000
set_option maxHeartbeats 4000000
namespace SL
open PySem PySem.Spec L2
/-! ### comparisons that leave the left name's list as it is -/
theorem sv_rep {K : PySem.W.Frag} {F H : Hp} {d : D} {x : V} (e : Ex F H) (h : SV K F H d x) : ∃ F', Ex F F' ∧ Ex F' H ∧ Rep K F' d x := by
  have main : ∀ (a : Addr) (o : HO), H a = some o → (∀ F', Ex F F' → F' a = some o → Rep K F' d x) → ∃ F', Ex F F' ∧ Ex F' H ∧ Rep K F' d x := by
    intro a o ha r
    cases hf : F a with
    | none =>
      refine ⟨upd F a o, Ex.new hf, fun b u hb => ?_, r _ (Ex.new hf) upd_same⟩
      by_cases z : b = a
      · subst z; rw [upd_same] at hb; cases hb; exact ha
      · rw [upd_ne z] at hb; exact e b u hb
    | some u =>
      have := e a u hf
      rw [ha] at this; cases this
      exact ⟨F, Ex.rfl, e, r F Ex.rfl hf⟩
  cases d with
  | lst xs =>
    obtain ⟨a, vs, rfl, h1, h2⟩ := h
    refine main a _ h1 fun F' e' hf => ?_
    unfold Rep
    exact ⟨a, vs, rfl, hf, Reps.mono e' _ _ h2⟩
  | obj C ns xs =>
    obtain ⟨a, dx, vs, rfl, h1, h2, h3⟩ := h
    refine main a _ h1 fun F' e' hf => ?_
    unfold Rep
    exact ⟨a, dx, vs, rfl, hf, h2, Reps.mono e' _ _ h3⟩
  | non => exact ⟨F, Ex.rfl, e, h⟩
  | bl _ => exact ⟨F, Ex.rfl, e, h⟩
  | int _ => exact ⟨F, Ex.rfl, e, h⟩
  | str _ => exact ⟨F, Ex.rfl, e, h⟩
  | tup _ => exact ⟨F, Ex.rfl, e, h⟩
  | scr _ => exact ⟨F, Ex.rfl, e, h⟩
  | exn _ _ _ _ => exact ⟨F, Ex.rfl, e, h⟩
  | dic _ _ => exact ⟨F, Ex.rfl, e, h⟩
def isBlO : Out → Bool
  | .dt (.bl _) => true
  | _ => false
theorem op2_sv {K : PySem.W.Frag} {r : R2} {f : D → D → Option Out} (h : Op2 K r f) (hb : ∀ d u o, f d u = some o → isBlO o = true) :
    ∀ F H Q x y d u o, Ex F H → SV K F H d x → Rep K F u y → f d u = some o → OutOk K F H Q o → r x y H Q := by
  intro F H Q x y d u o e s r2 hf q
  obtain ⟨F', e1, e2, r1⟩ := sv_rep e s
  refine h F' H Q x y d u o e2 r1 (Rep.mono e1 _ _ r2) hf ?_
  have := hb d u o hf
  cases o with
  | nl _ => cases this
  | dt z =>
    cases z with
    | bl b =>
      intro v F2 H' g1 g2 g3 g4 g5
      have hv : v = .bl b := rb g5
      subst hv
      exact q (.bl b) F H' Ex.rfl g2 ((e1.trans g1).trans g3) (fun _ _ z => .inl z) rep_bl
    | _ => cases this
theorem bl_eqF {d u : D} {o : Out} (h : eqF d u = some o) : isBlO o = true := by
  unfold eqF at h
  split at h
  · cases h; rfl
  · cases h
theorem bl_neF {d u : D} {o : Out} (h : neF d u = some o) : isBlO o = true := by
  unfold neF at h
  split at h
  · cases h; rfl
  · cases h
theorem bl_ownG {C : Str} {f : FnD} {g : Bool → Bool} {d u : D} {o : Out} (h : ownG C f g d u = some o) : isBlO o = true := by
  unfold ownG at h
  split at h
  · split at h
    · split at h
      · cases h; rfl
      · cases h
    · cases h
  · cases h
theorem bl_eqO {C : Str} {f : FnD} {d u : D} {o : Out} (h : eqO C f d u = some o) : isBlO o = true := by
  unfold eqO at h
  split at h
  · exact bl_ownG h
  · exact bl_eqF h
theorem bl_neO {C : Str} {f : FnD} {d u : D} {o : Out} (h : neO C f d u = some o) : isBlO o = true := by
  unfold neO at h
  split at h
  · exact bl_ownG h
  · exact bl_neF h
section
variable {X : Cx} {W : WX} {a b c e : Expr} {es : List Expr} {ma mb mc : Mo T} {pos : Pos} {n : Mo (List T)} {K : PySem.W.Frag}
theorem se_cmpS {op : CmpOp} {r : R2} {f : D → D → Option Out} {i : Nat} {x : Str} {px : Pos} (ho : OpR X (compareOp op) r) (h : Op2 X.K r f) (hbl : ∀ d u o, f d u = some o → isBlO o = true) (hm : behindInMarks op b = false) (hb : SE X W b mb)
    (hN : X.N[i]? = some x := by rfl) (hv : Vis X.env.scope x := by first | exact Or.inl rfl | exact Or.inr (Or.inl rfl) | exact Or.inr (Or.inr rfl)) (hd : (x == ("__debug__" : Str)) = false := by decide) (hcd : (x == ("__classdict__" : Str)) = false := by decide) :
    SE X W (.Compare (.Name x px) [op] [b] pos) (s2M f i mb) := by
  obtain ⟨tb, pb, sb⟩ := hb
  exact ⟨_, pe_cmpR ho (pe_var hN hv hd hcd) pb hm, snd_s2 sb (op2_sv h hbl)⟩
theorem sc_cmpS {op : CmpOp} {r : R2} {f : D → D → Option Out} {i : Nat} {x : Str} {px : Pos} (ho : OpR X (compareOp op) r) (h : Op2 X.K r f) (hbl : ∀ d u o, f d u = some o → isBlO o = true) (hm : behindInMarks op b = false) (hb : SE X W b mb)
    (hN : X.N[i]? = some x := by rfl) (hv : Vis X.env.scope x := by first | exact Or.inl rfl | exact Or.inr (Or.inl rfl) | exact Or.inr (Or.inr rfl)) (hd : (x == ("__debug__" : Str)) = false := by decide) (hcd : (x == ("__classdict__" : Str)) = false := by decide) :
    SC X W (.Compare (.Name x px) [op] [b] pos) (tst (s2M f i mb)) := by
  obtain ⟨tb, pb, sb⟩ := hb
  exact ⟨_, pt_cmpR ho (pe_var hN hv hd hcd) pb hm, snd_tst (snd_s2 sb (op2_sv h hbl))⟩
/-! ### a class made over two lists that stay the maker's own -/
mutual
def noLst : D → Bool
  | .non => true
  | .bl _ => true
  | .int _ => true
  | .str _ => true
  | .tup xs => noLsts xs
  | _ => false
def noLsts : List D → Bool
  | [] => true
  | x :: xs => noLst x && noLsts xs
end
def Keep (F F' : Hp) : Prop := ∀ b o, F b = some o → (∀ vs, o ≠ .lst vs) → F' b = some o
mutual
theorem rep_keep {F F' : Hp} (k : Keep F F') : ∀ (d : D) (v : V), noLst d = true → Rep K F d v → Rep K F' d v
  | .non, v, _, h => by unfold Rep at h ⊢; exact h
  | .bl _, v, _, h => by unfold Rep at h ⊢; exact h
  | .int _, v, _, h => by unfold Rep at h ⊢; exact h
  | .str _, v, _, h => by unfold Rep at h ⊢; exact h
  | .tup xs, v, hn, h => by
    unfold Rep at h ⊢
    obtain ⟨a, vs, rfl, h1, h2⟩ := h
    unfold noLst at hn
    refine ⟨a, vs, rfl, ?_, reps_keep k xs vs hn h2⟩
    rcases h1 with (h1 | ⟨o, h1⟩) | h1
    · exact .inl (.inl (k _ _ h1 fun _ => nofun))
    · exact .inl (.inr ⟨o, k _ _ h1 fun _ => nofun⟩)
    · exact .inr h1
  | .lst _, v, hn, _ => by unfold noLst at hn; cases hn
  | .scr _, v, hn, _ => by unfold noLst at hn; cases hn
  | .obj _ _ _, v, hn, _ => by unfold noLst at hn; cases hn
  | .exn _ _ _ _, v, hn, _ => by unfold noLst at hn; cases hn
  | .dic _ _, v, hn, _ => by unfold noLst at hn; cases hn
theorem reps_keep {F F' : Hp} (k : Keep F F') : ∀ (ds : List D) (vs : List V), noLsts ds = true → Reps K F ds vs → Reps K F' ds vs
  | [], vs, _, h => by unfold Reps at h ⊢; exact h
  | d :: ds, vs, hn, h => by
    unfold Reps at h ⊢
    obtain ⟨v, r, rfl, h1, h2⟩ := h
    unfold noLsts at hn
    obtain ⟨n1, n2⟩ := Bool.and_eq_true_iff.mp hn
    exact ⟨v, r, rfl, rep_keep k d v n1 h1, reps_keep k ds r n2 h2⟩
end
def mak2M (C : Str) (a : Nat) (f : FnB) (dds : List D) (i jj : Nat) (ts : List T) : Mo T := fun ρ => match atS i ρ, atS jj ρ, frzs ts with
  | some (.lst _ xs), some (.lst _ ys), some ds => if i ≠ jj ∧ (.lst xs :: .lst ys :: (ds ++ dds)).length = a then (match f (.ins true C [] []) (.lst xs :: .lst ys :: (ds ++ dds)) with
    | some (.ok .non, .ins true C' ns fs) => if noLsts fs = true then some (.ok (.ins false C' ns fs), ρ) else none
    | _ => none) else none
  | _, _, _ => none
def eMak2 (C : Str) (a : Nat) (f : FnB) (dds : List D) (i jj : Nat) (n : Mo (List T)) : Mo T := fun ρ => match atS i ρ, atS jj ρ with
  | some _, some _ => bnd n (mak2M C a f dds i jj) ρ
  | _, _ => none
theorem se_mak2 {k : Nat} {C x y : Str} {p px py : Pos} {ar i jj : Nat} {dds : List D} {f : FnB} (h : MakOk X.prog X.w X.K X.mg X.base k C ar dds f) (hr : Room (k + 1) X.A) (g : SA X W es n) (hg : Gl X C := by rfl)
    (hN : X.N[i]? = some x := by rfl) (hv : Vis X.env.scope x := by first | exact Or.inl rfl | exact Or.inr (Or.inl rfl) | exact Or.inr (Or.inr rfl)) (hd : (x == ("__debug__" : Str)) = false := by decide) (hcd : (x == ("__classdict__" : Str)) = false := by decide)
    (hN2 : X.N[jj]? = some y := by rfl) (hv2 : Vis X.env.scope y := by first | exact Or.inl rfl | exact Or.inr (Or.inl rfl) | exact Or.inr (Or.inr rfl)) (hd2 : (y == ("__debug__" : Str)) = false := by decide) (hcd2 : (y == ("__classdict__" : Str)) = false := by decide)
    (hdb : (C == ("__debug__" : Str)) = false := by decide) (he : starEach (.Name x px :: .Name y py :: es) X.env = (false, eval (.Name x px) X.env) :: starEach (.Name y py :: es) X.env := by rfl)
    (he2 : starEach (.Name y py :: es) X.env = (false, eval (.Name y py) X.env) :: starEach es X.env := by rfl) (hpl : (backTo pos (starEach (.Name y py :: es) X.env)).any (·.1) = false := by rfl) :
    SE X W (.Call (.Name C p) (.Name x px :: .Name y py :: es) [] pos) (eMak2 C ar f dds i jj n) := by
  obtain ⟨fa, fd, ps, dvs, dl, F0, M, hm, hb, hdl, hr2⟩ := h.ex
  obtain ⟨ta, q, z⟩ := g
  refine ⟨_, pe_make M F0 hr hg hm hb hdl passL (pa_cons (pe_var hN hv hd hcd) (pa_cons (pe_var hN2 hv2 hd2 hcd2) q he2) he) hdb he hpl, ?_⟩
  intro G F H ρ σ us ws Q r ρ' j hl ht hm0 kk
  simp only [List.append_nil] at j
  unfold eMak2 at hm0
  cases e0 : atS i ρ with
  | none => rw [e0] at hm0; cases hm0
  | some t0 =>
    rw [e0] at hm0
    cases e1 : atS jj ρ with
    | none => rw [e1] at hm0; cases hm0
    | some t1 =>
      rw [e1] at hm0
      dsimp only at hm0
      obtain ⟨v, h1, _⟩ := j.slot hl e0
      obtain ⟨v', h1', _⟩ := j.slot hl e1
      refine ⟨v, h1, v', h1', ?_⟩
      unfold bnd at hm0
      cases en : n ρ with
      | none => rw [en] at hm0; cases hm0
      | some qq =>
        obtain ⟨r1, ρ1⟩ := qq
        rw [en] at hm0
        refine z G F H ρ σ us ws _ r1 ρ1 (by simpa using j) hl ht en ?_
        cases r1 with
        | exc x => cases hm0; exact kk
        | ok ts =>
          intro vs F1 H1 x1 l1 _ j1 x dx hx hdx hne
          dsimp only at hm0
          unfold mak2M at hm0
          split at hm0
          · next b0 xs b1 ys ds g0 g1 gf =>
            by_cases hc : i ≠ jj ∧ (D.lst xs :: D.lst ys :: (ds ++ dds)).length = ar
            · rw [if_pos hc] at hm0
              unfold frzs at gf
              by_cases hbw : ts.any T.brw = true
              · rw [if_pos hbw] at gf; cases gf
              · rw [if_neg hbw] at gf
                cases gf
                rw [← List.append_assoc, ← List.append_assoc] at j1
                obtain ⟨F2, x2, j2, rd⟩ := j1.freezes (by simp [l1, ht]) (by simpa using hbw)
                have j3 := j2.pre (by simp [l1, ht])
                obtain ⟨w0, m0, hold0, _, k0, k0'⟩ := j3.slot l1 g0
                obtain ⟨w1, m1, hold1, _, k1, k1'⟩ := j3.slot l1 g1
                rw [h1] at m0; cases m0
                rw [h1'] at m1; cases m1
                obtain ⟨ai, li, ea, fai, hai, rxs⟩ := hold0
                obtain ⟨aj, lj, eb, faj, haj, rys⟩ := hold1
                subst ea eb
                have nij : ai ≠ aj := by
                  rintro rfl
                  exact j3.ne i jj _ _ _ hc.1 k0 k1 rfl rfl k0' k1'
                have dai : ai ≠ dx := by rintro rfl; rw [hai] at hdx; cases hdx
                have daj : aj ≠ dx := by rintro rfl; rw [haj] at hdx; cases hdx
                have xai : ai ≠ x := by rintro rfl; rw [hai] at hx; cases hx
                have xaj : aj ≠ x := by rintro rfl; rw [haj] at hx; cases hx
                cases hq : f (.ins true C [] []) (.lst xs :: .lst ys :: (ts.map T.fz ++ dds)) with
                | none => rw [hq] at hm0; cases hm0
                | some o =>
                  obtain ⟨o1, t'⟩ := o
                  rw [hq] at hm0
                  cases o1 with
                  | exc x => cases hm0
                  | ok d =>
                    cases d with
                    | non =>
                      cases t' with
                      | dat d => cases hm0
                      | lst b xs => cases hm0
                      | ins b C' ns fs =>
                        cases b with
                        | false => cases hm0
                        | true =>
                          dsimp only at hm0
                          by_cases hnl : noLsts fs = true
                          · rw [if_pos hnl] at hm0
                            cases hm0
                            have j4 : J X.K G (upd F2 dx (.own x)) (upd H1 dx (.own x)) (ρ' ++ us) (σ ++ ws) := j3.frz hdx
                            have hx2 : (upd H1 dx (.own x)) x = none := by rw [upd_ne (Ne.symm hne)]; exact hx
                            have fx : (upd F2 dx (.own x)) x = none := j4.ex.back hx2
                            have f3i : (upd F2 dx (.own x)) ai = none := by rw [upd_ne dai]; exact fai
                            have f3j : (upd F2 dx (.own x)) aj = none := by rw [upd_ne daj]; exact faj
                            have j5 := j4.heap (o := .ins (He.ga X.K C) dx []) hx2
                            have eF3 : Ex F2 (upd F2 dx (.own x)) := Ex.new (j3.ex.back hdx)
                            -- lent
                            have eA : Ex (upd F2 dx (.own x)) (upd (upd F2 dx (.own x)) ai (.lst li)) := Ex.new f3i
                            have f4j : (upd (upd F2 dx (.own x)) ai (.lst li)) aj = none := by rw [upd_ne (Ne.symm nij)]; exact f3j
                            have eB : Ex (upd (upd F2 dx (.own x)) ai (.lst li)) (upd (upd (upd F2 dx (.own x)) ai (.lst li)) aj (.lst lj)) := Ex.new f4j
                            have eAB := eF3.trans (eA.trans eB)
                            have eH : Ex (upd (upd (upd F2 dx (.own x)) ai (.lst li)) aj (.lst lj)) (upd (upd H1 dx (.own x)) x (.ins (He.ga X.K C) dx [])) := by
                              intro b o hb
                              by_cases zj : b = aj
                              · subst zj; rw [upd_same] at hb; cases hb; rw [upd_ne xaj, upd_ne daj]; exact haj
                              · rw [upd_ne zj] at hb
                                by_cases zi : b = ai
                                · subst zi; rw [upd_same] at hb; cases hb; rw [upd_ne xai, upd_ne dai]; exact hai
                                · rw [upd_ne zi] at hb; exact j5.ex b o hb
                            refine ⟨_, .ins true C [] [], .ref x, _, _, .ok .non, .ins true C' ns fs, rfl, eH, ⟨x, dx, [], rfl, by rw [upd_ne (Ne.symm xaj), upd_ne (Ne.symm xai)]; exact fx, by rw [upd_same]; rfl, rfl, reps_nil⟩, rfl, rfl, ?_, hc.2, hq, ?_⟩
                            · refine reps_cons ?_ (reps_cons ?_ ?_)
                              · unfold Rep
                                exact ⟨ai, li, rfl, by rw [upd_ne nij, upd_same], Reps.mono eAB _ _ rxs⟩
                              · unfold Rep
                                exact ⟨aj, lj, rfl, upd_same, Reps.mono eAB _ _ rys⟩
                              · exact Reps.mono eAB _ _ (rd.app (hr2 F2))
                            · intro v F' H' e1 e2 e3 e4 hold rdn
                              unfold Rep at rdn
                              -- what was lent comes back
                              have hk : ∃ F5 : Hp, (∀ b, b ≠ ai → b ≠ aj → F5 b = F' b) ∧ F5 ai = none ∧ F5 aj = none := ⟨fun b => if b = ai ∨ b = aj then none else F' b, fun b h1 h2 => by simp [h1, h2], by simp, by simp⟩
                              obtain ⟨F5, p1, p2, p3⟩ := hk
                              have fi' : F' ai = some (.lst li) := e1 _ _ (by rw [upd_ne nij, upd_same])
                              have fj' : F' aj = some (.lst lj) := e1 _ _ upd_same
                              have g1 : Ex (upd F2 dx (.own x)) F5 := by
                                intro b o hb
                                have zi : b ≠ ai := by rintro rfl; rw [f3i] at hb; cases hb
                                have zj : b ≠ aj := by rintro rfl; rw [f3j] at hb; cases hb
                                rw [p1 b zi zj]
                                exact e1 b o (by rw [upd_ne zj, upd_ne zi]; exact hb)
                              have g2 : Ex F5 F' := by
                                intro b o hb
                                have zi : b ≠ ai := by rintro rfl; rw [p2] at hb; cases hb
                                have zj : b ≠ aj := by rintro rfl; rw [p3] at hb; cases hb
                                rw [p1 b zi zj] at hb; exact hb
                              have g3 : Keep F' F5 := by
                                intro b o hb hnl
                                have zi : b ≠ ai := by rintro rfl; rw [fi'] at hb; cases hb; exact hnl _ rfl
                                have zj : b ≠ aj := by rintro rfl; rw [fj'] at hb; cases hb; exact hnl _ rfl
                                rw [p1 b zi zj]; exact hb
                              obtain ⟨a', dx', vs', q1, q2, q3, q4, q5⟩ := hold
                              cases q1
                              have q2' : F5 x = none := by
                                cases hz : F5 x with
                                | none => rfl
                                | some o => have := g2 _ _ hz; rw [q2] at this; cases this
                              refine ⟨rdn, kk (.ref x) F5 H' ((x1.trans x2).trans (eF3.trans g1)) l1 trivial ?_⟩
                              have jg : J X.K G F5 (fun b => if b = x then none else H' b) (ρ' ++ us) (σ ++ ws) := by
                                refine j4.grow g1 (fun b o hbo => ?_) (fun b o hbo => ?_) (fun b o hbo => ?_)
                                · have hbx : b ≠ x := by rintro rfl; rw [hx2] at hbo; cases hbo
                                  show (if b = x then none else H' b) = some o
                                  rw [if_neg hbx]
                                  exact e2 b o (by rw [upd_ne hbx]; exact hbo) (by rintro z; cases z; exact hbx rfl)
                                · have hbx : b ≠ x := by rintro rfl; rw [q2'] at hbo; cases hbo
                                  show (if b = x then none else H' b) = some o
                                  rw [if_neg hbx]
                                  exact e3 b o (g2 b o hbo)
                                · have zi : b ≠ ai := by rintro rfl; rw [p2] at hbo; cases hbo
                                  have zj : b ≠ aj := by rintro rfl; rw [p3] at hbo; cases hbo
                                  rcases e4 b o (g2 b o hbo) with z | z
                                  · rw [upd_ne zj, upd_ne zi] at z; exact Or.inl z
                                  · have hbx : b ≠ x := by rintro rfl; rw [upd_same] at z; cases z
                                    rw [upd_ne hbx] at z
                                    exact Or.inr z
                              have hpush := jg.push (p := x) (o := .ins (He.ga X.K C') dx' (ns.zip vs')) (t := .ins false C' ns fs) (by simp) rfl rfl ⟨x, dx', vs', rfl, q2', upd_same, q4, reps_keep g3 _ _ hnl q5⟩
                              have hH : upd (fun b => if b = x then none else H' b) x (.ins (He.ga X.K C') dx' (ns.zip vs')) = H' := by
                                funext b
                                by_cases hbx : b = x
                                · subst hbx; rw [upd_same, q3]
                                · rw [upd_ne hbx]; simp [hbx]
                              rw [hH] at hpush
                              rw [← List.append_assoc, ← List.append_assoc]
                              exact hpush
                          · rw [if_neg hnl] at hm0; cases hm0
                    | _ => cases hm0
            · rw [if_neg hc] at hm0; cases hm0
          · cases hm0
end
end SL

set_option Elab.async false
set_option linter.all false
set_option maxRecDepth 100000
set_option maxHeartbeats 4000000
/-! S-layer 19: defs that say super().__init__(..) in a class of the program's own -/
namespace SL
open PySem L2 PyProof.Rows
/-! ### at a known activation -/
def PSAx (X : Cx) (body : List Stmt) (st : Stmt) (t : TS) : Prop :=
  ∀ (pins : List (Addr × Obj)) (s : Shared) (σ : L2.St) (H : Hp) (D : Ends), Inv X pins σ H s → t D σ H → _root_.PySem.wpAt (model X.prog X.w) X.A (.func body X.env) (exec st X.env) (SP X pins D) X.xe s
def PSsAx (X : Cx) (body : List Stmt) (sts : List Stmt) (t : TS) : Prop :=
  ∀ (pins : List (Addr × Obj)) (s : Shared) (σ : L2.St) (H : Hp) (D : Ends), Inv X pins σ H s → t D σ H → _root_.PySem.wpAt (model X.prog X.w) X.A (.func body X.env) (execs sts X.env) (SP X pins D) X.xe s
theorem PSAx.of {X : Cx} {body : List Stmt} {st : Stmt} {t : TS} (h : PS X st t) : PSAx X body st t := fun pins s σ H D I q => _root_.PySem.wpAt_of_wpAny (h.run pins s σ H D I q)
theorem PSsAx.of {X : Cx} {body : List Stmt} {sts : List Stmt} {t : TS} (h : PSs X sts t) : PSsAx X body sts t := fun pins s σ H D I q => _root_.PySem.wpAt_of_wpAny (h.run pins s σ H D I q)
theorem PSsAx.cons {X : Cx} {body : List Stmt} {st : Stmt} {rest : List Stmt} {t u : TS} (h1 : PSAx X body st t) (h2 : PSsAx X body rest u) : PSsAx X body (st :: rest) (tSeq t u) := by
  intro pins s σ H D I h
  refine PySem.ks_wpAt_execs_cons (PySem.wpAt_mono (h1 pins s σ H { D with nx := u D } I h) (fun f s1 q => ?_) fun _ _ x => x)
  cases f with
  | next => obtain ⟨σ', H', I', q⟩ := q; exact h2 pins s1 σ' H' D I' q
  | brk => exact q
  | cont => exact q
  | ret u => exact q
def SSA (X : Cx) (W : WX) (body : List Stmt) (st : Stmt) (s : So) : Prop := ∃ t, PSAx X body st t ∧ SndS X.K W t s
def SSsA (X : Cx) (W : WX) (body : List Stmt) (st : List Stmt) (s : So) : Prop := ∃ t, PSsAx X body st t ∧ SndS X.K W t s
theorem ssA_of {X : Cx} {W : WX} {body : List Stmt} {st : Stmt} {s : So} (h : SS X W st s) : SSA X W body st s := let ⟨t, p, z⟩ := h; ⟨t, .of p, z⟩
theorem sssA_of {X : Cx} {W : WX} {body : List Stmt} {st : List Stmt} {s : So} (h : SSs X W st s) : SSsA X W body st s := let ⟨t, p, z⟩ := h; ⟨t, .of p, z⟩
theorem sssA_cons {X : Cx} {W : WX} {body : List Stmt} {st : Stmt} {rest : List Stmt} {s u : So} (h : SSA X W body st s) (g : SSsA X W body rest u) : SSsA X W body (st :: rest) (sSeq s u) := by
  obtain ⟨t, p, z⟩ := h
  obtain ⟨v, q, y⟩ := g
  exact ⟨_, PSsAx.cons p q, snd_seq z y⟩
theorem sssA_one {X : Cx} {W : WX} {body : List Stmt} {st : Stmt} {s : So} (h : SSA X W body st s) : SSsA X W body [st] s := by
  obtain ⟨t, p, z⟩ := h
  refine ⟨t, fun pins s σ H D I q => ?_, z⟩
  refine PySem.ks_wpAt_execs_cons (PySem.wpAt_mono (p pins s σ H D I q) (fun f s1 q => ?_) fun _ _ x => x)
  cases f with
  | next => exact _root_.PySem.wpAt_of_wpAny (wpAny_pure q)
  | brk => exact q
  | cont => exact q
  | ret u => exact q
/-! ### the def -/
structure FnScopeS (N P : List Str) (sc : Scope) : Prop where
  kind : sc.kind = .function
  co : sc.isCoroutine = false
  gen : sc.isGenerator = false
  nd : N.Nodup
  pre : N.take P.length = P
  par : ∀ x ∈ P, sc.names.lookup x = some .local
  nocell : ∀ y ∈ sc.names, y.2 ≠ .cell
  fr : ∀ y ∈ sc.names, y.2 = .free → y.1 = ("__class__" : Str)
structure FunS (P : Program) (K : PySem.W.Frag) (x qual : Str) (params : Arguments) (body : List Stmt) (scope : Scope) (D f cc cda : Addr) (fd : FuncData) : Prop where
  fdE : ∃ (kV doc pm : Value) (an : Option Addr) (ct oc : Value) (od : Option Addr) (osl : Array (Option Value)), fd = PySem.W.fnX x qual params body scope [("__class__", cc)] .none kV doc pm an (.ref cda) ct ∧ K.lookup f = some ⟨oc, od, .func fd, osl⟩
  code : PySem.W.codeIn K (.ref cda) qual = true
  file : ∃ (ccl : Value) (cdd : Option Addr) (vs : Array Value) (ccs : Array (Option Value)) (file : Str) (tf : Tok), K.lookup cda = some ⟨ccl, cdd, .fields vs, ccs⟩ ∧ vs[2]? = some (.str file tf) ∧ ((P.main.file : Str) == file) = true
  cell : ∃ (cl : Value) (cld : Option Addr) (csl : Array (Option Value)), K.lookup cc = some ⟨cl, cld, .cell (some (.ref D)), csl⟩
  cls : ∃ cdD, PySem.W.clsIn K D = some cdD
def cxS (CX : CXT) (P : Program) (w : World) (K : PySem.W.Frag) (mg : Str → Option Value) (base : Heap) (N : List Str) (qual : Str) (scope : Scope) (f cda cc : Addr) (A : Around) (outer : List Env) (s : Shared) (H : Hp) (E : XK) : Cx where
  prog := P
  w := w
  K := K
  mg := mg
  base := base
  A := A.deeper (PySem.W.envX qual scope s.heap.objs.size f (.ref cda) [("__class__", cc)])
  N := N
  s_0 := s
  H_0 := H
  env := PySem.W.envX qual scope s.heap.objs.size f (.ref cda) [("__class__", cc)]
  outer := outer
  stack := PySem.W.envX qual scope s.heap.objs.size f (.ref cda) [("__class__", cc)] :: outer
  ex := []
  calm := true
  fn := fun x => !(x == ("__class__" : Str))
  pn := []
  xe := fun e s' => wpAny (model P w) (A.deeper (PySem.W.envX qual scope s.heap.objs.size f (.ref cda) [("__class__", cc)])) (leaving (PySem.W.envX qual scope s.heap.objs.size f (.ref cda) [("__class__", cc)]) e) (fun _ s'' => CX outer H s E e s'') (fun e' s'' => CX outer H s E e' s'') s'
theorem rev_lookup : ∀ {ps : List Str} {us : List Value} {i : Nat} {y : Str} {u : Value}, ps.Nodup → ps[i]? = some y → us[i]? = some u → (ps.zip us).reverse.lookup y = some u
  | [], _, _, _, _, _, h, _ => by simp at h
  | _ :: _, [], _, _, _, _, _, h => by simp at h
  | p :: ps, v :: us, i, y, u, nd, hp, hu => by
    simp only [List.zip_cons_cons, List.reverse_cons, List.lookup_append]
    have nd2 := List.nodup_cons.mp nd
    cases i with
    | zero =>
      simp at hp hu
      subst hp hu
      have : (ps.zip us).reverse.lookup p = none := by
        rw [List.lookup_eq_none_iff]
        intro q hq
        have := (List.of_mem_zip (List.mem_reverse.mp hq)).1
        have hne : p ≠ q.1 := fun e => nd2.1 (by rw [e]; exact this)
        simpa using hne
      rw [this]
      simp
    | succ i =>
      rw [rev_lookup nd2.2 (by simpa using hp) (by simpa using hu)]
      rfl
theorem cell_one {cc c : Addr} {x : Str} (h : List.lookup x [(("__class__" : Str), cc)] = some c) : x = ("__class__" : Str) ∧ c = cc := by
  simp only [List.lookup] at h
  split at h
  · next e => cases h; exact ⟨by simpa using e, rfl⟩
  · cases h
theorem inv_startS {CX : CXT} {P : Program} {w : World} {K : PySem.W.Frag} {mg : Str → Option Value} {base : Heap} {N ps : List Str} {qual : Str} {scope : Scope} {f cda cc D : Addr} {A : Around} {outer : List Env} {s : Shared} {H : Hp} {E : XK} {us : List Value} {vs : List V} {h₀ : Heap} {tk : Nat}
    (S : FnScopeS N ps scope) (hd : A.handled = none) (e0 : Env0 P w K mg base A outer s H) (hl : vs.length = ps.length) (r : Vals vs us) (hc : ∃ (cl : Value) (cld : Option Addr) (csl : Array (Option Value)), K.lookup cc = some ⟨cl, cld, .cell (some (.ref D)), csl⟩)
    (hns : h₀.Ns s.heap.objs.size (fun x => (ps.zip us).reverse.lookup x)) (hk : ∀ b o, s.heap.get? b = some o → h₀.get? b = some o) :
    Inv (cxS CX P w K mg base N qual scope f cda cc A outer s H E) [] (L2.start N vs) H { s with heap := h₀, toks := tk } := by
  have hpl : ps.length ≤ N.length := by have := congrArg List.length S.pre; rw [List.length_take] at this; omega
  have noA : ∀ b : Addr, b ∉ (cxS CX P w K mg base N qual scope f cda cc A outer s H E).ex := fun b z => absurd (show b ∈ ([] : List Addr) from z) (by simp)
  obtain ⟨cl, cld, csl, hcc⟩ := hc
  have hb : base.get? cc = some ⟨cl, cld, .cell (some (.ref D)), csl⟩ := e0.mod.kin _ _ hcc
  refine ⟨⟨e0.mod, S.kind, rfl, rfl, Nat.le_refl _, fun y z c h1 h2 => ?_, fun y hy => ?_, fun y c hf h => ?_, fun _ => hd, Around.frames_deeper e0.frames, .inr ⟨rfl, rfl⟩, fun b z => absurd z (noA b), e0.bs, e0.bsz, fun b _ _ => noA b, fun b z => absurd z (noA b), e0.funs, e0.frf⟩,
    rfl, e0.bare, Un.kept hk, ⟨_, hns, fun i y v h1 h2 h3 => ?_⟩, fun y c h => ?_, e0.hok.fresh (Nat.le_refl _), fun y c h => ?_, fun p hp => absurd (show p ∈ ([] : List (Addr × Obj)) from hp) (by simp), e0.hok.kept hk, ?_⟩
  · exact (cell_one h1).1.trans (cell_one h2).1.symm
  · have hy : scope.names.lookup y = some .cell ∨ scope.names.lookup y = some .free := hy
    rcases hy with hy | hy
    · exact absurd rfl (S.nocell _ (PySem.mem_of_lookup hy))
    · have := S.fr _ (PySem.mem_of_lookup hy) rfl
      have e : y = ("__class__" : Str) := this
      subst e
      exact ⟨cc, by show List.lookup _ [(("__class__" : Str), cc)] = some cc; simp [List.lookup]⟩
  · have := (cell_one h).1
    subst this
    have hf : (!((("__class__" : Str)) == ("__class__" : Str))) = true := hf
    rw [beq_self_eq_true] at hf
    cases hf
  · have hi : i < vs.length := by
      unfold L2.start at h2
      by_cases hi : i < vs.length
      · exact hi
      · rw [List.getElem?_append_right (by simpa using hi)] at h2
        rw [List.getElem?_replicate] at h2
        split at h2 <;> cases h2
    have ha : vs[i]? = some v := by
      unfold L2.start at h2
      rw [List.getElem?_append_left (by simpa using hi), List.getElem?_map] at h2
      cases e : vs[i]? with
      | none => rw [e] at h2; cases h2
      | some a => rw [e] at h2; cases h2; rfl
    obtain ⟨u, hu, rv⟩ := r.get ha
    have hp : ps[i]? = some y := by
      rw [← S.pre, List.getElem?_take_of_lt (by omega)]; exact h1
    have ndP : ps.Nodup := by rw [← S.pre]; exact S.nd.sublist (List.take_sublist _ _)
    exact ⟨u, rv, .inl ⟨S.par y (List.mem_of_getElem? hp), rev_lookup ndP hp hu⟩⟩
  · obtain ⟨rfl, rfl⟩ := cell_one h
    exact ⟨some (.ref D), ⟨_, hk _ _ (e0.bs _ _ hb).1, rfl⟩⟩
  · obtain ⟨rfl, rfl⟩ := cell_one h
    exact (e0.bs _ _ hb).2
  · unfold L2.start
    show _ = N.length
    rw [List.length_append, List.length_map, List.length_replicate]
    omega
section
variable {P : Program} {w : World} {K : PySem.W.Frag} {mg : Str → Option Value} {base : Heap} {x qual : Str} {params : Arguments} {body : List Stmt} {scope : Scope} {f D cc cda : Addr} {fd : FuncData} {N ps : List Str} {k : Nat}
theorem FunS.ok {CX : CXT} {sp : Sp} (F : FunS P K x qual params body scope D f cc cda fd) (S : FnScopeS N ps scope) (len : ∀ vs H Q E, sp vs H Q E → vs.length = ps.length)
    (hbody : ∀ (A : Around) (outer : List Env) (s : Shared) (H : Hp) (vs : List V) (Q : VK) (E : XK), Room k (A.deeper (PySem.W.envX qual scope s.heap.objs.size f (.ref cda) [("__class__", cc)])) → sp vs H Q E →
      ∃ t, PSsAx (cxS CX P w K mg base N qual scope f cda cc A outer s H E) body body t ∧ t { nx := fun _ H' => Q .non H', rt := Q } (L2.start N vs) H) : FnOk P w K mg base CX (k + 1) f fd ps sp := by
  obtain ⟨kV, doc, pm, an, ct, oc, od, osl, rfl, lk⟩ := F.fdE
  refine ⟨len, fun A outer s H args us vs Q E hr e0 hb r hsp => ?_⟩
  have hl := len _ _ _ _ hsp
  have KX : K.In s.heap := e0.mod.kin.keeps fun b o e => (e0.bs b o e).1
  have lim : s.heap.NoLimit := e0.mod.nolimit.keeps fun b o e => (e0.bs b o e).1
  refine PySem.ks_codeAny_call_defAt (body := body) (binds := ps.zip us) hr.depth (KX _ _ lk) rfl lim (PySem.W.codeRec_of KX F.code) rfl hb S.nocell (fun y hy => S.par _ (List.of_mem_zip hy).1) (fun h₀ hns hk => ?_) S.co S.gen S.kind
  obtain ⟨t, ht, hq⟩ := hbody A outer s H vs Q E (hr.deeper _) hsp
  have I : Inv (cxS CX P w K mg base N qual scope f cda cc A outer s H E) [] (L2.start N vs) H { s with heap := h₀, toks := s.toks + (ps.zip us).length } := inv_startS S hr.hd e0 hl r F.cell hns hk
  refine PySem.wpAt_mono (ht [] _ (L2.start N vs) H _ I hq) (fun fl s' hs => ?_) fun e s' hs => hs
  have fin : ∀ {σ' : L2.St} {H' : Hp} {v : V} {u : Value}, Inv (cxS CX P w K mg base N qual scope f cda cc A outer s H E) [] σ' H' s' → RelV v u → Q v H' → CE outer P w H s Q u s' :=
    fun {σ' H' v u} J rv q => ⟨v, H', J.os, J.bare, J.base, J.hok, rv, q⟩
  cases fl with
  | ret u =>
    obtain ⟨v, σ', H', J, rv, q⟩ := hs
    exact fin J rv q
  | next =>
    obtain ⟨σ', H', J, q⟩ := hs
    exact fin (v := V.non) (u := Value.none) J rfl q
  | brk =>
    obtain ⟨_, _, _, q⟩ := hs
    exact False.elim q
  | cont =>
    obtain ⟨_, _, _, q⟩ := hs
    exact False.elim q
end
end SL

set_option Elab.async false
set_option linter.all false
set_option maxRecDepth 100000
set_option maxHeartbeats 4000000
/-! S-layer 20: super().__init__(e, ..) -/
namespace SL
open PySem L2 PyProof.Rows
/-- super().__init__(..): the instance of slot 0, of the class at C -/
def tSup (C : Addr) (sp : Sp) (E : XK) (t : TA) : TS := fun D σ H => ∃ a dx fs, σ[0]? = some (some (.ref a)) ∧ H a = some (.ins C dx fs) ∧ t σ H fun vs H1 => sp (.ref a :: vs) H1 (fun _ H2 => D.nx σ H2) E
section
variable {P : Program} {w : World} {K : PySem.W.Frag} {mg : Str → Option Value} {base : Heap} {x qual : Str} {params : Arguments} {body : List Stmt} {scope : Scope} {f D cc cda : Addr} {fd : FuncData} {N ps : List Str} {k : Nat}
/-- what of the text is asked -/
structure SupF (P : Program) (K : PySem.W.Frag) (C D f2 : Addr) : Prop where
  top : (P.main.scope.names.lookup ("super" : Str)).isSome = false
  sub : PySem.W.mroIn K C (.ref D) = some true
  op : PySem.W.nsIn K cStatics "thirdparty.any" = some none
  sup : PySem.W.ks_superIn K C D "__init__" = some (some (.ref f2))
  ty : PySem.W.typeIn K (.ref f2) = some (.type "function")
  fn : PySem.W.fnIn K f2 = true
theorem psa_super {CX CX2 : CXT} {A : Around} {outer : List Env} {s0 : Shared} {H0 : Hp} {E0 E : XK} {k2 : Nat} {C f2 : Addr} {sp : Sp} {e : Expr} {es : List Expr} {t : TA} {ar : Arg} {p0 p1 ap pos pos2 : Pos} {pl : Sem Bool}
    (F : FunS P K x qual params body scope D f cc cda fd) (T : SupF P K C D f2) (hp : (params.posonlyargs ++ params.args).head? = some ar) (har : N[0]? = some ar.arg) (hloc : scope.names.lookup ar.arg = some .local)
    (hsp : scope.names.lookup ("super" : Str) = some .globalImplicit) (hcl : scope.names.lookup ("__class__" : Str) = some .free) (hms : mg "super" = none)
    (F2 : FnR P w K mg base CX2 k2 f2 sp) (hr : Room k2 (cxS CX P w K mg base N qual scope f cda cc A outer s0 H0 E0).A) (hx : Passes CX2 (cxS CX P w K mg base N qual scope f cda cc A outer s0 H0 E0) E)
    (ha : PA (cxS CX P w K mg base N qual scope f cda cc A outer s0 H0 E0) (e :: es) t)
    (hst : starEach (e :: es) (cxS CX P w K mg base N qual scope f cda cc A outer s0 H0 E0).env = (false, eval e (cxS CX P w K mg base N qual scope f cda cc A outer s0 H0 E0).env) :: starEach es (cxS CX P w K mg base N qual scope f cda cc A outer s0 H0 E0).env := by rfl)
    (hpl : (backTo pos (starEach es (cxS CX P w K mg base N qual scope f cda cc A outer s0 H0 E0).env)).any (·.1) = false := by rfl)
    (hev : eval (.Call (.Attribute (.Call (.Name "super" p0) [] [] p1) "__init__" ap) (e :: es) [] pos) (cxS CX P w K mg base N qual scope f cda cc A outer s0 H0 E0).env = (do
      let ov ← attributeBase (.Call (.Name "super" p0) [] [] p1) "__init__" (cxS CX P w K mg base N qual scope f cda cc A outer s0 H0 E0).env (eval (.Call (.Name "super" p0) [] [] p1) (cxS CX P w K mg base N qual scope f cda cc A outer s0 H0 E0).env)
      standAt ap.atName
      let (g, first) ← holding [ov] (getMethod ov "__init__" pl)
      callWith pos g first (backTo pos (starEach (e :: es) (cxS CX P w K mg base N qual scope f cda cc A outer s0 H0 E0).env)) []) := by rfl)
    (hsw : swapsWith (.Call (.Attribute (.Call (.Name "super" p0) [] [] p1) "__init__" ap) (e :: es) [] pos) none pos2.line (cxS CX P w K mg base N qual scope f cda cc A outer s0 H0 E0).env = pure false := by rfl) :
    PSAx (cxS CX P w K mg base N qual scope f cda cc A outer s0 H0 E0) body (.Expr (.Call (.Attribute (.Call (.Name "super" p0) [] [] p1) "__init__" ap) (e :: es) [] pos) pos2) (tSup C sp E t) := by
  intro pins s σ H D' I ⟨a, dx, fs, h0, hH, q⟩
  have KX : K.In s.heap := I.kIn
  obtain ⟨kV, doc, pm, an, ct, oc, od, osl, rfl, lk⟩ := F.fdE
  obtain ⟨ccl, cdd, vs, ccs, file, tf, hcda, hvs, hfile⟩ := F.file
  obtain ⟨cl, cld, csl, hcell⟩ := F.cell
  obtain ⟨cdD, hD⟩ := F.cls
  obtain ⟨mb, hb1, hb2⟩ := I.mod.blt
  obtain ⟨m, hn, hlook⟩ := I.loc
  obtain ⟨u, ru, lu⟩ := hlook 0 ar.arg (.ref a) har h0 (.inl hloc)
  obtain rfl : u = Value.ref a := ru
  have hmu : m ar.arg = some (.ref a) := by
    rcases lu with ⟨_, hmu⟩ | ⟨hk, _⟩
    · exact hmu
    · have hk : scope.names.lookup ar.arg = some .cell ∨ scope.names.lookup ar.arg = some .free := hk
      rw [hloc] at hk
      rcases hk with hk | hk <;> cases hk
  obtain ⟨oD, hD1, hD2⟩ : ∃ oD, s.heap.get? D = some oD ∧ oD.data = .cls cdD := by
    unfold PySem.W.clsIn at hD
    split at hD
    · rename_i c d cd' sl ho
      cases hD
      exact ⟨_, KX _ _ ho, rfl⟩
    · cases hD
  obtain ⟨mA, O, _, _, _, _⟩ := ins_get I.hok hH
  obtain ⟨od2, J, _⟩ := O.look
  cases hc : PySem.W.clsIn K C with
  | none => have := T.sup; unfold PySem.W.ks_superIn at this; rw [hc] at this; cases this
  | some cd =>
  have hm := T.sup
  unfold PySem.W.ks_superIn at hm
  rw [hc] at hm
  obtain ⟨of, hof, hofc⟩ : ∃ of, K.lookup f2 = some of ∧ of.cls = .type "function" := by
    have ht' : (K.lookup f2).map (·.cls) = some (.type "function") := T.ty
    cases z : K.lookup f2 with
    | none => rw [z] at ht'; cases ht'
    | some of => rw [z] at ht'; exact ⟨of, rfl, Option.some.inj ht'⟩
  have hne : a ≠ C := PySem.W.ks_ne KX J hc
  refine PySem.ks_wpAt_Expr_any (PySem.ks_wpAt_MethodCall (pl := pl) ?_ hev) I.quiet hsw
  refine PySem.ks_wpAt_super_base hsp hcl (by decide) rfl (KX _ _ lk) rfl hp rfl (KX _ _ hcda) rfl hvs hfile T.top ?_
  refine PySem.W.ks_loadName_global I.ok.kind hsp (Calls.loadGlobal_builtin (by rw [I.ok.glob]; exact I.mod.glob.keeps I.bk) hms (by rw [I.ok.blt]; exact hb1.keeps I.bk) ((hb2 "super" (by decide)).trans (by first | rfl | decide +kernel)) ⟨rfl, ?_⟩)
  refine wpAny_loadName_free I.ok.kind hcl rfl ⟨_, KX _ _ hcell, rfl⟩ ?_
  refine wpAny_loadName_local I.ok.kind hloc hn hmu ?_
  refine PySem.ks_wpAny_isType_cls hD1 hD2 ⟨rfl, ?_⟩
  refine PySem.ks_wpAny_call_super hD1 hD2 J.at_ J.cls (fun c e => ?_) (PySem.W.looks_mroIn KX T.sub) (fun h' e k => ?_)
  · have := J.no
    unfold PySem.W.notCls at this
    rw [e] at this
    exact Bool.noConfusion this
  · have I1 := ClX.pin_new (t' := s.toks) I k (Nat.le_refl _) e (fun v z => by cases z)
    refine PySem.ks_wpAny_getMethod_super (l₀ := cd.mro) (ClX.pin_at I1) (PySem.W.looks_opaque I1.kIn T.op) ?_ rfl I1.kIn hm (I1.kIn _ _ hof) hofc hne (by decide) ?_
    · exact fun A Q E s k q => wpAny_bind ((PySem.W.looks_clsIn I1.kIn hc) A _ E s k (wpAny_pure q))
    · have I2 := ClX.met_new (g := f2) (C := a) I1
      refine ClX.callwith_cm I2 (ClX.base_none I1 (Nat.le_refl _)) T.fn (thn (ha.run pos _ _ σ H _ I2 q) fun us s3 ⟨vs, H2, I3, rv, q2⟩ => ⟨⟨ClX.pin_at I3, I3.kIn⟩, ?_⟩) hst hpl
      refine thn (ClX.run_cm F2 hr hx I3 rv q2) fun v s4 z => ?_
      obtain ⟨_, H3, I4, _, q3⟩ := ClX.unpinE z
      exact ⟨σ, H3, I4, q3⟩
end

/-! the semantic side -/
theorem snd_callB {K : PySem.W.Frag} {W : WX} {ta : TA} {n : Mo (List T)} {i ar : Nat} {g : FnB} (z : SndA K W ta n) :
    SndE K W (fun σ H Q => ∃ v, σ[i]? = some (some v) ∧ ta σ H fun vs H1 => spB K ar g ((v :: vs) ++ []) H1 Q E0) (eCallB ar g i n) := by
  intro G F H ρ σ us ws Q r ρ' j hl ht hm k
  simp only [List.append_nil] at j
  unfold eCallB at hm
  cases e0 : atS i ρ with
  | none => rw [e0] at hm; cases hm
  | some t0 =>
    rw [e0] at hm
    simp only at hm
    obtain ⟨v, h1, _⟩ := j.slot hl e0
    refine ⟨v, h1, ?_⟩
    unfold bnd at hm
    cases en : n ρ with
    | none => rw [en] at hm; cases hm
    | some qq =>
      obtain ⟨r1, ρ1⟩ := qq
      rw [en] at hm
      refine z G F H ρ σ us ws _ r1 ρ1 (by simpa using j) hl ht en ?_
      cases r1 with
      | exc x => cases hm; exact k
      | ok ts =>
        intro vs F' H' e1 l1 _ j1
        dsimp only at hm
        cases hf : frzs ts with
        | none => rw [hf] at hm; cases hm
        | some ds =>
          rw [hf] at hm
          cases e2 : atS i ρ1 with
          | none => rw [e2] at hm; cases hm
          | some t =>
            rw [e2] at hm
            dsimp only at hm
            by_cases hc : t.own = true ∧ ds.length = ar
            · rw [if_pos hc] at hm
              cases eg : g (t.setB true) ds with
              | none => rw [eg] at hm; cases hm
              | some o =>
                obtain ⟨o1, t'⟩ := o
                rw [eg] at hm
                cases o1 with
                | exc x => cases hm
                | ok d =>
                  dsimp only at hm
                  by_cases ho' : t'.own = true
                  · rw [if_pos ho'] at hm
                    cases hm
                    unfold frzs at hf
                    by_cases hb : ts.any T.brw = true
                    · rw [if_pos hb] at hf; cases hf
                    · rw [if_neg hb] at hf
                      cases hf
                      rw [← List.append_assoc, ← List.append_assoc] at j1
                      obtain ⟨F1, x1, j2, rd⟩ := j1.freezes (by simp [l1, ht]) (by simpa using hb)
                      have j3 := j2.pre (by simp [l1, ht])
                      obtain ⟨v', m1, m2, m3, m4, m5⟩ := j3.slot l1 e2
                      rw [h1] at m1; cases m1
                      obtain ⟨ad, u, ea, _, _⟩ := m2.adr hc.1
                      subst ea
                      refine ⟨F1, t.setB true, .ref ad, _, vs ++ [], .ok d, t', rfl, j3.ex, setB_hold m2, by rw [setB_own]; exact hc.1, setB_brw hc.1, by rw [List.append_nil]; exact rd, hc.2, eg, ?_⟩
                      intro rv F2 H2 g1 g2 g3 g4 g5 g6
                      have j4 := j3.call m4 hc.1 m5 g1 g2 g3 g4 g5 ho'
                      rw [List.set_append_left _ _ m3] at j4
                      refine k rv F2 H2 ((e1.trans x1).trans g1) (by simpa using l1) trivial ?_
                      rw [← List.append_assoc, ← List.append_assoc]
                      exact j4.dat g6
                  · rw [if_neg ho'] at hm; cases hm
            · rw [if_neg hc] at hm; cases hm

def sSup (C : Str) (k : Nat) (f : FnB) (n : Mo (List T)) : So := fun ρ => match ρ[0]? with
  | some (some (SL.T.ins _ C' _ _)) => if C' = C then sDrop (eCallB k f 0 n) ρ else none
  | _ => none
theorem snd_sup {K : PySem.W.Frag} {W : WX} {ta : TA} {n : Mo (List T)} {ar : Nat} {g : FnB} {C : Str} (z : SndA K W ta n) :
    SndS K W (tSup (He.ga K C) (fun vs H Q E => spB K ar g (vs ++ []) H Q E) E0 ta) (sSup C ar g n) := by
  intro G F H ρ σ us ws D fl ρ' j hl ht hm k
  unfold sSup at hm
  cases e0 : ρ[0]? with
  | none => rw [e0] at hm; cases hm
  | some o =>
    cases o with
    | none => rw [e0] at hm; cases hm
    | some t0 =>
      cases t0 with
      | dat _ => rw [e0] at hm; cases hm
      | lst _ _ => rw [e0] at hm; cases hm
      | ins b C' ns xs =>
        rw [e0] at hm
        dsimp only at hm
        by_cases hC : C' = C
        · rw [if_pos hC] at hm
          subst hC
          have hi := (List.getElem?_eq_some_iff.mp e0).1
          obtain ⟨v, hv, hold, _⟩ := j.ok 0 (.ins b C' ns xs) (by rw [List.getElem?_append_left hi]; exact e0)
          obtain ⟨a, dx, vs, rfl, _, hH, _, _⟩ := hold
          have hs : σ[0]? = some (some (V.ref a)) := by rw [List.getElem?_append_left (by rw [← hl]; exact hi)] at hv; exact hv
          have dr : SndS K W (fun D σ H => ∃ v, σ[0]? = some (some v) ∧ ta σ H fun vs H1 => spB K ar g ((v :: vs) ++ []) H1 (fun _ H2 => D.nx σ H2) E0) (sDrop (eCallB ar g 0 n)) :=
            (snd_callB (i := 0) (ar := ar) (g := g) z).toS (tk := fun _ D σ H => D.nx σ H) fun a b _ G F H ρ σ us ws D fl ρ' j hl ht hm k => by
              cases hm
              exact k σ F H Ex.rfl hl rfl (app_pre j hl ht)
          obtain ⟨v, h1, h2⟩ := dr G F H ρ σ us ws D fl ρ' j hl ht hm k
          rw [hs] at h1; cases h1
          exact ⟨a, dx, _, hs, hH, h2⟩
        · rw [if_neg hC] at hm; cases hm
section
variable {P : Program} {w : World} {K : PySem.W.Frag} {mg : Str → Option Value} {base : Heap} {x qual : Str} {params : Arguments} {body : List Stmt} {scope : Scope} {f D cc cda : Addr} {fd : FuncData} {N ps : List Str} {k : Nat}
theorem ssa_super {W : WX} {A : Around} {outer : List Env} {s0 : Shared} {H0 : Hp} {EE : XK} {k2 ar : Nat} {g : FnB} {C : Str} {f2 : Addr} {fd2 : FuncData} {ps2 : List Str} {e : Expr} {es : List Expr} {n : Mo (List T)} {ag : Arg} {p0 p1 ap pos pos2 : Pos} {pl : Sem Bool}
    (F : FunS P K x qual params body scope D f cc cda fd) (T : SupF P K (He.ga K C) D f2) (F2 : FnOk P w K mg base (L2.CX P w) k2 f2 fd2 ps2 (spB K ar g)) (hb : Binds K fd2 ps2 []) (hr : Room k2 (cxS (L2.CX P w) P w K mg base N qual scope f cda cc A outer s0 H0 EE).A) (hms : mg "super" = none)
    (ha : SA (cxS (L2.CX P w) P w K mg base N qual scope f cda cc A outer s0 H0 EE) W (e :: es) n)
    (hp : (params.posonlyargs ++ params.args).head? = some ag := by rfl) (har : N[0]? = some ag.arg := by rfl) (hloc : scope.names.lookup ag.arg = some .local := by rfl)
    (hsp : scope.names.lookup ("super" : Str) = some .globalImplicit := by rfl) (hcl : scope.names.lookup ("__class__" : Str) = some .free := by rfl)
    (hst : starEach (e :: es) (cxS (L2.CX P w) P w K mg base N qual scope f cda cc A outer s0 H0 EE).env = (false, eval e (cxS (L2.CX P w) P w K mg base N qual scope f cda cc A outer s0 H0 EE).env) :: starEach es (cxS (L2.CX P w) P w K mg base N qual scope f cda cc A outer s0 H0 EE).env := by rfl)
    (hpl : (backTo pos (starEach es (cxS (L2.CX P w) P w K mg base N qual scope f cda cc A outer s0 H0 EE).env)).any (·.1) = false := by rfl)
    (hev : eval (.Call (.Attribute (.Call (.Name "super" p0) [] [] p1) "__init__" ap) (e :: es) [] pos) (cxS (L2.CX P w) P w K mg base N qual scope f cda cc A outer s0 H0 EE).env = (do
      let ov ← attributeBase (.Call (.Name "super" p0) [] [] p1) "__init__" (cxS (L2.CX P w) P w K mg base N qual scope f cda cc A outer s0 H0 EE).env (eval (.Call (.Name "super" p0) [] [] p1) (cxS (L2.CX P w) P w K mg base N qual scope f cda cc A outer s0 H0 EE).env)
      standAt ap.atName
      let (g, first) ← holding [ov] (getMethod ov "__init__" pl)
      callWith pos g first (backTo pos (starEach (e :: es) (cxS (L2.CX P w) P w K mg base N qual scope f cda cc A outer s0 H0 EE).env)) []) := by rfl)
    (hsw : swapsWith (.Call (.Attribute (.Call (.Name "super" p0) [] [] p1) "__init__" ap) (e :: es) [] pos) none pos2.line (cxS (L2.CX P w) P w K mg base N qual scope f cda cc A outer s0 H0 EE).env = pure false := by rfl) :
    SSA (cxS (L2.CX P w) P w K mg base N qual scope f cda cc A outer s0 H0 EE) W body (.Expr (.Call (.Attribute (.Call (.Name "super" p0) [] [] p1) "__init__" ap) (e :: es) [] pos) pos2) (sSup C ar g n) := by
  obtain ⟨ta, q, z⟩ := ha
  exact ⟨_, psa_super F T hp har hloc hsp hcl hms (F2.raw hb .nil) hr passE0 q hst hpl hev hsw, snd_sup z⟩
theorem fnBS (F : FunS P K x qual params body scope D f cc cda fd) (S : FnScopeS N ps scope) (sem : So) (m a : Nat) (ha : ps.length = a + 1) (hm : N.length = ps.length + m)
    (hb : ∀ (A : Around) (outer : List Env) (s : Shared) (H : Hp) (E : XK), Room k (A.deeper (PySem.W.envX qual scope s.heap.objs.size f (.ref cda) [("__class__", cc)])) → SSsA (cxS (L2.CX P w) P w K mg base N qual scope f cda cc A outer s H E) (fun c d _ H => E c d H) body body sem) :
    FnOk P w K mg base (L2.CX P w) (k + 1) f fd ps (spB K a (bodyB m sem)) := by
  refine F.ok S (fun vs H Q E h => ?_) (fun A outer s H vs Q E hr h => ?_)
  · obtain ⟨F0, t, v0, ds, vs', r, t', rfl, _, _, _, _, rd, hl, _, _⟩ := h
    simp [rd.len, hl, ha]
  · obtain ⟨F0, t0, v0, ds, vs', r, t', rfl, ex, hold, ho, hbr, rd, hl, hf, hret⟩ := h
    obtain ⟨t, p, z⟩ := hb A outer s H E hr
    refine ⟨t, p, ?_⟩
    have j0 := j_startB (N := N) (m := m) ex hold ho hbr rd (by rw [hm, ha, hl])
    have hlen := j0.len
    unfold bodyB at hf
    cases e : sem (some t0 :: (ds.map (fun d => some (T.dat d)) ++ List.replicate m none)) with
    | none => rw [e] at hf; cases hf
    | some q =>
      obtain ⟨fl, ρ'⟩ := q
      rw [e] at hf
      refine z _ F0 H _ (L2.start N (v0 :: vs')) [] [] _ fl ρ' (by rw [List.append_nil, List.append_nil]; exact j0) hlen rfl e ?_
      have goal : ∀ {F' H' : Hp} {us : Sl} {σ' ws : L2.St} {r1 : Rs SL.D} (j : J K ⟨F0, H, fun a => v0 = .ref a⟩ F' H' (ρ' ++ us) (σ' ++ ws)), finB r1 ρ' = some (r, t') → r1 = r ∧ Apart H H' v0 ∧ Ex F' H' ∧ (∀ a o, F' a = some o → F0 a = some o ∨ H a = none) ∧ Hold K F' H' t' v0 := by
        intro F' H' us σ' ws r1 j hfin
        unfold finB at hfin
        cases e0 : ρ'[0]? with
        | none => rw [e0] at hfin; cases hfin
        | some ot =>
          cases ot with
          | none => rw [e0] at hfin; cases hfin
          | some u =>
            rw [e0] at hfin
            simp only at hfin
            by_cases hb : u.brw = true
            · rw [if_pos hb] at hfin
              cases hfin
              have hi : 0 < ρ'.length := (List.getElem?_eq_some_iff.mp e0).1
              have e1 : (ρ' ++ us)[0]? = some (some t') := by rw [List.getElem?_append_left hi]; exact e0
              obtain ⟨v, _, h2, h3⟩ := j.ok 0 t' e1
              have ot : t'.own = true := by cases t' with
                | dat d => cases hb
                | lst _ _ => rfl
                | ins _ _ _ _ => rfl
              obtain ⟨a, _, ea, _, _⟩ := h2.adr ot
              have hv := h3 ot a ea
              rw [if_pos hb] at hv
              have hv' : v0 = .ref a := hv
              rw [ea, ← hv'] at h2
              exact ⟨rfl, fun b o hb nb => j.base b o hb nb, j.ex, j.frs, h2⟩
            · rw [if_neg hb] at hfin; cases hfin
      cases fl with
      | next =>
        intro σ' F' H' e1 l1 l2 j1
        obtain ⟨rfl, g1, g2, g3, g4⟩ := goal j1 hf
        exact hret .non F' H' e1 g1 g2 g3 g4 rep_non
      | brk => cases hf
      | cont => cases hf
      | ret u =>
        simp only at hf
        by_cases hb : u.brw = true
        · rw [if_pos hb] at hf; cases hf
        · rw [if_neg hb] at hf
          intro v σ' F' H' e1 l1 l2 j1
          obtain ⟨F2, x2, j2, rd2⟩ := j1.fzLast (l1.trans l2.symm) rfl (by simpa using hb)
          obtain ⟨rfl, g1, g2, g3, g4⟩ := goal j2 hf
          exact hret v F2 H' (e1.trans x2) g1 g2 g3 g4 rd2
      | exc x =>
        intro c d σ' F' H' e1 l1 l2 j1 rx
        obtain ⟨rfl, g1, g2, g3, g4⟩ := goal j1 hf
        exact hret c d F' H' e1 g1 g2 g3 g4 rx
end
end SL

set_option Elab.async false
set_option linter.all false
set_option maxRecDepth 100000
set_option maxHeartbeats 4000000
/-! S-layer 21: the head's facts of a def that says super() -/
namespace SL
open PySem PySem.Spec PyProof.Rows L2
/-- the cell and the code of a def at a place -/
def clAt (K : PySem.W.Frag) (a : Addr) : Addr := match K.lookup a with
  | some ⟨_, _, .func fd, _⟩ => (match fd.closure with
    | (_, c) :: _ => c
    | _ => 0)
  | _ => 0
def cdAt (K : PySem.W.Frag) (a : Addr) : Addr := match K.lookup a with
  | some ⟨_, _, .func fd, _⟩ => (match fd.code with
    | .ref c => c
    | _ => 0)
  | _ => 0
/-- the def of class C at the place p closes over the cell of its class; the file's name -/
def pSupD (C : Str) (p : PySem.W.Frag → Addr) (file : Str) : Ft := fun K => (match K.lookup (p K) with
    | some ⟨_, _, .func fd, _⟩ => (match fd.closure, fd.code with
      | [(n, c)], .ref cd => decide (n = ("__class__" : Str)) && (match K.lookup c with
          | some ⟨_, _, .cell (some (.ref D)), _⟩ => decide (D = He.ga K C)
          | _ => false) && (match K.lookup cd with
          | some ⟨_, _, .fields vs, _⟩ => (match vs[2]? with
            | some (Value.str f _) => f == file
            | _ => false)
          | _ => false)
      | _, _ => false)
    | _ => false) && (PySem.W.clsIn K (He.ga K C)).isSome
/-- behind the class C comes the __init__ of the class B -/
def pSupF (C B : Str) : Ft := fun K => eqB (PySem.W.mroIn K (He.ga K C) (.ref (He.ga K C))) (some true) && (He.eqO (PySem.W.nsIn K cStatics "thirdparty.any") (some none) &&
  (He.eqO (PySem.W.ks_superIn K (He.ga K C) (He.ga K C) "__init__") (some (some (.ref (He.ma K (He.ga K B) "__init__")))) && (decide (PySem.W.typeIn K (.ref (He.ma K (He.ga K B) "__init__")) = some (.type "function")) && PySem.W.fnIn K (He.ma K (He.ga K B) "__init__"))))
theorem supF_of {P : Program} {K : PySem.W.Frag} {C B : Str} (c : pSupF C B K = true) (ht : (P.main.scope.names.lookup ("super" : Str)).isSome = false) : SupF P K (He.ga K C) (He.ga K C) (He.ma K (He.ga K B) "__init__") := by
  obtain ⟨h1, h⟩ := He.ba c
  obtain ⟨h2, h⟩ := He.ba h
  obtain ⟨h3, h⟩ := He.ba h
  obtain ⟨h4, h5⟩ := He.ba h
  exact ⟨ht, eqB_ok h1, He.eqO_ok h2, He.eqO_ok h3, of_decide_eq_true h4, h5⟩
theorem Df.funS {P : Program} {K : PySem.W.Frag} {d : Df} {C file : Str} (hf : d.free = [("__class__" : Str)]) (hd : d.dfl = []) (e : fnAt K (d.at_ K) = d.val) (c : d.ok K = true) (s : pSupD C d.at_ file K = true) (hp : ((P.main.file : Str) == file) = true) :
    ∃ fd, FunS P K d.name d.qual d.params d.body d.scope (He.ga K C) (d.at_ K) (clAt K (d.at_ K)) (cdAt K (d.at_ K)) fd ∧ PySem.W.keepIn K (.ref (d.at_ K)) = true := by
  obtain ⟨kp, c2⟩ := He.ba c
  obtain ⟨s1, s2⟩ := He.ba s
  unfold fnAt at e
  unfold clAt cdAt
  split at e
  · next fc fo fd fs q =>
    rw [q] at c2 s1
    try rw [q]
    dsimp only at c2 s1 ⊢
    obtain ⟨k1, k3⟩ := He.ba c2
    obtain ⟨n1, n2, n3, n4, n5, n6, n7, n8, n9, n10, n11, n12, n13, n14, n15⟩ := fd
    unfold Df.val at e
    simp only [Option.some.injEq, Prod.mk.injEq] at e
    obtain ⟨h1, h2, h3, h4, h5, h6, h7, h8⟩ := e
    subst h1 h2 h3 h4 h5 h6 h8
    dsimp only at s1 k1 k3 ⊢
    have h9 : n8 = .none := by
      have k4 : d.dvs K = [] := by unfold Df.dvs; rw [hd]; rfl
      rw [k4] at k3
      cases n8 <;> first | rfl | exact Bool.noConfusion (show false = true from k3)
    subst h9
    split at s1
    · next n cc cd =>
      obtain ⟨s3, s5⟩ := He.ba s1
      obtain ⟨s3, s4⟩ := He.ba s3
      have hn := of_decide_eq_true s3
      subst hn
      split at s4
      · next cl cld D csl hcc =>
        have hD := of_decide_eq_true s4
        subst hD
        split at s5
        · next ccl cdd vs ccs hcd =>
          split at s5
          · next f tf hvs =>
            have hfl := eq_of_beq s5
            subst hfl
            refine ⟨_, ⟨⟨n9, n10, n11, n12, n14, fc, fo, fs, rfl, q⟩, k1, ⟨ccl, cdd, vs, ccs, f, tf, hcd, hvs, hp⟩, ⟨cl, cld, csl, hcc⟩, Option.isSome_iff_exists.mp s2⟩, kp⟩
          · cases s5
        · cases s5
      · cases s4
    · cases s1
  · cases e
theorem SaysP.defS {P : Program} {fa : List Ft} {fn : List Df} {K : PySem.W.Frag} (c : SaysP fa fn K) (i : Nat) {d : Df} {C file : Str} (s : pSupD C d.at_ file K = true) (hp : ((P.main.file : Str) == file) = true) (h : fn[i]? = some d := by rfl) (hf : d.free = [("__class__" : Str)] := by rfl) (hd : d.dfl = [] := by rfl) :
    ∃ fd, FunS P K d.name d.qual d.params d.body d.scope (He.ga K C) (d.at_ K) (clAt K (d.at_ K)) (cdAt K (d.at_ K)) fd ∧ PySem.W.keepIn K (.ref (d.at_ K)) = true := by
  have c2 := (He.ba (show ((fa.all fun f => f K) && fn.all fun d => d.ok K) = true from congrArg (fun z : He.AlD => z.1) c)).2
  have e : fn.map (fun d => fnAt K (d.at_ K)) = fn.map Df.val := congrArg (fun z : He.AlD => z.2) c
  have e2 : (fn.map fun d => fnAt K (d.at_ K))[i]? = (fn.map Df.val)[i]? := by rw [e]
  rw [List.getElem?_map, List.getElem?_map, h] at e2
  exact Df.funS hf hd (Option.some.inj e2) (List.all_eq_true.mp c2 d (List.mem_of_getElem? h)) s hp
theorem FunS.binds {P : Program} {K : PySem.W.Frag} {x qual : Str} {params : Arguments} {body : List Stmt} {scope : Scope} {D f cc cda : Addr} {fd : FuncData} {ps : List Str} (F : FunS P K x qual params body scope D f cc cda fd)
    (h : ∀ (kV doc pm : Value) (an : Option Addr) (ct : Value) (us : List Value), us.length = ps.length → bindArgs (PySem.W.fnX x qual params body scope [("__class__", cc)] .none kV doc pm an (.ref cda) ct) ⟨us, []⟩ = pure (ps.zip us)) : Binds K fd ps [] := by
  obtain ⟨kV, doc, pm, an, ct, oc, od, osl, rfl, lk⟩ := F.fdE
  exact .all fun us hl => h kV doc pm an ct us hl
end SL

set_option Elab.async false
set_option linter.all false
set_option maxRecDepth 100000
set_option maxHeartbeats 4000000
/-! S-layer 22: max of three, is between truths, bool(x), static methods -/
namespace SL
open PySem L2
section
variable {X : Cx} {W : WX} {a b c e : Expr} {es : List Expr} {ma mb mc : Mo T} {pos : Pos} {n : Mo (List T)} {K : PySem.W.Frag}
def m3 (i j k : Int) : Int := if (if i < j then j else i) < k then k else (if i < j then j else i)
theorem call_max3 (hc : X.calm = true) : CallR X (.builtin "max") (fun xs H Q => ∃ i j k, xs = [.int i, .int j, .int k] ∧ Q (.int (m3 i j k)) H) := by
  intro pins s σ H xs us Q I r h
  obtain ⟨i, j, l, rfl, q⟩ := h
  obtain ⟨u1, u2, u3, rfl, ⟨t1, rfl⟩, ⟨t2, rfl⟩, ⟨t3, rfl⟩⟩ : ∃ u1 u2 u3, us = [u1, u2, u3] ∧ RelV (.int i) u1 ∧ RelV (.int j) u2 ∧ RelV (.int l) u3 := by
    cases r with
    | cons r1 r => cases r with
      | cons r2 r => cases r with
        | cons r3 r => cases r; exact ⟨_, _, _, rfl, r1, r2, r3⟩
  refine max3_num (I.ok.hd hc) (.int _ _) (.int _ _) (.int _ _) fun h' tk k => ⟨_, H, I.kept k, ?_, q⟩
  unfold m3
  by_cases h1 : i < j
  · by_cases h2 : j < l
    · simp only [Flt.ltV, decide_eq_true_eq, h1, h2, if_true]; exact ⟨_, rfl⟩
    · simp only [Flt.ltV, decide_eq_true_eq, h1, h2, if_true, if_false]; exact ⟨_, rfl⟩
  · by_cases h2 : i < l
    · simp only [Flt.ltV, decide_eq_true_eq, h1, h2, if_true, if_false]; exact ⟨_, rfl⟩
    · simp only [Flt.ltV, decide_eq_true_eq, h1, h2, if_false]; exact ⟨_, rfl⟩
def max3F : List D → Option Out
  | [.int i, .int j, .int k] => some (.dt (.int (m3 i j k)))
  | _ => none
theorem co_max3 : CallOk K (fun xs H Q => ∃ i j k, xs = [.int i, .int j, .int k] ∧ Q (.int (m3 i j k)) H) max3F := by
  intro F H Q vs ds o ex rd hf q
  unfold max3F at hf
  split at hf
  · cases hf
    obtain ⟨x, y, z, rfl, a1, a2, a3⟩ := reps_three rd
    cases ri a1; cases ri a2; cases ri a3
    exact ⟨_, _, _, rfl, q.int ex⟩
  · cases hf
/-! is, is not between truths -/
theorem op_isB : OpR X (compareOp .Is) (fun x y H Q => ∃ i j, x = .bl i ∧ y = .bl j ∧ Q (.bl (i == j)) H) := by
  intro pins s σ H x y v u Q I rx ry h
  obtain ⟨i, j, rfl, rfl, q⟩ := h
  cases rx; cases ry
  refine wpAny_is_plain (by rfl) (fin_bl I q ?_)
  cases i <;> cases j <;> rfl
theorem op_notB : OpR X (compareOp .IsNot) (fun x y H Q => ∃ i j, x = .bl i ∧ y = .bl j ∧ Q (.bl (!(i == j))) H) := by
  intro pins s σ H x y v u Q I rx ry h
  obtain ⟨i, j, rfl, rfl, q⟩ := h
  cases rx; cases ry
  refine wpAny_isNot_plain (by rfl) (fin_bl I q ?_)
  cases i <;> cases j <;> rfl
def isBF (d e : D) : Option Out := match d, e with
  | .bl i, .bl j => some (.dt (.bl (i == j)))
  | _, _ => none
def notBF (d e : D) : Option Out := match d, e with
  | .bl i, .bl j => some (.dt (.bl (!(i == j))))
  | _, _ => none
theorem o2_isB : Op2 K (fun x y H Q => ∃ i j, x = .bl i ∧ y = .bl j ∧ Q (.bl (i == j)) H) isBF := by
  intro F H Q x y d e o ex r1 r2 hf q
  unfold isBF at hf
  split at hf
  · cases hf; cases rb r1; cases rb r2
    exact ⟨_, _, rfl, rfl, q.bl ex⟩
  · cases hf
theorem o2_notB : Op2 K (fun x y H Q => ∃ i j, x = .bl i ∧ y = .bl j ∧ Q (.bl (!(i == j))) H) notBF := by
  intro F H Q x y d e o ex r1 r2 hf q
  unfold notBF at hf
  split at hf
  · cases hf; cases rb r1; cases rb r2
    exact ⟨_, _, rfl, rfl, q.bl ex⟩
  · cases hf
/-! bool(x), x a truth or a number -/
def boolF : List D → Option Out
  | [.bl i] => some (.dt (.bl i))
  | [.int i] => some (.dt (.bl (i != 0)))
  | _ => none
theorem co_bool : CallOk K (fun xs H Q => (∃ i, xs = [.int i] ∧ Q (.bl (i != 0)) H) ∨ ∃ k, xs = [.bl k] ∧ Q (.bl k) H) boolF := by
  intro F H Q vs ds o ex rd hf q
  unfold boolF at hf
  split at hf
  · cases hf
    obtain ⟨x, rfl, a1⟩ := reps_one rd
    cases rb a1
    exact .inr ⟨_, rfl, q.bl ex⟩
  · cases hf
    obtain ⟨x, rfl, a1⟩ := reps_one rd
    cases ri a1
    exact .inl ⟨_, rfl, q.bl ex⟩
  · cases hf
/-! ### C.m(..), m a static method -/
structure SMet (K : PySem.W.Frag) (C : Addr) (m : Str) (p g : Addr) : Prop where
  rd : ClX.CRead K C (.type "type")
  at_ : PySem.W.findCls K (.ref C) (.type "type") m = some (.get (.builtin "staticmethod.__get__") (.ref p) .none (.ref C))
  rc : ∃ rest, PySem.W.recIn K p "staticmethod" = some (.ref g :: rest)
  kp : PySem.W.keepIn K (.ref g) = true
theorem pe_smeth {CX : CXT} {k : Nat} {C p g : Addr} {m x : Str} {fd : FuncData} {ps : List Str} {sp : Sp} {t : TA} {px apos : Pos} {pl : Sem Bool} {E : XK} (hg : Gl X x) (hm : X.mg x = some (.ref C)) (c : SMet X.K C m p g) (F : FnOk X.prog X.w X.K X.mg X.base CX k g fd ps sp) (hr : Room k X.A) (hb : Binds X.K fd ps []) (hx : Passes CX X E) (ha : PA X (e :: es) t)
    (hdb : (x == ("__debug__" : Str)) = false := by decide) (hst : starEach (e :: es) X.env = (false, eval e X.env) :: starEach es X.env := by rfl) (hpl : (backTo pos (starEach es X.env)).any (·.1) = false := by rfl)
    (ht : eval (.Call (.Attribute (.Name x px) m apos) (e :: es) [] pos) X.env = (do
      let ov ← eval (.Name x px) X.env
      standAt apos.atName
      let (f, first) ← holding [ov] (getMethod ov m pl)
      callWith pos f first (backTo pos (starEach (e :: es) X.env)) (backToKw pos (keywordEach [] X.env))) := by rfl) :
    PE X (.Call (.Attribute (.Name x px) m apos) (e :: es) [] pos) (tCall sp [] E t) := by
  refine ⟨fun pins s σ H Q I h => ?_⟩
  obtain ⟨rest, hp⟩ := c.rc
  refine PySem.W.methodCall_KW (pl := pl) (ld_glob I hg hm ?_ hdb) ht
  refine PySem.W.method_cls I.kIn c.rd.ga (PySem.W.cls_bind I.kIn c.rd.rd c.at_ ?_)
  refine wpAny_call (PySem.W.sm_get (s := { s with toks := s.toks + 1 }) I.kIn hp (PySem.W.handed_on rfl ?_))
  have I1 : Inv X pins σ H { s with toks := s.toks + 1 } := I.tok _
  refine PySem.W.callWith_K (h₀ := X.base) (first := []) I.ok.mod.kin c.kp (thn (ha.run pos pins _ σ H _ I1 h) fun us s1 ⟨vs, H1, I2, r, q⟩ => ⟨I2.kIn, ?_⟩) hst hpl
  exact run_fn F hr hb .nil hx I2 r q
structure SmOk (P : Program) (w : World) (K : PySem.W.Frag) (mg : Str → Option Value) (base : Heap) (k : Nat) (C m : Str) (a : Nat) (f : FnD) : Prop where
  ex : ∃ p g fd ps, SMet K (He.ga K C) m p g ∧ FnOk P w K mg base (L2.CX P w) k g fd ps (spD K a f) ∧ Binds K fd ps [] ∧ mg C = some (.ref (He.ga K C))
theorem se_smeth {k : Nat} {C m : Str} {px apos : Pos} {ar : Nat} {f : FnD} {pl : Sem Bool} (h : SmOk X.prog X.w X.K X.mg X.base k C m ar f) (hr : Room k X.A) (g : SA X W (e :: es) n) (hg : Gl X C := by rfl)
    (hdb : (C == ("__debug__" : Str)) = false := by decide) (hst : starEach (e :: es) X.env = (false, eval e X.env) :: starEach es X.env := by rfl) (hpl : (backTo pos (starEach es X.env)).any (·.1) = false := by rfl)
    (ht : eval (.Call (.Attribute (.Name C px) m apos) (e :: es) [] pos) X.env = (do
      let ov ← eval (.Name C px) X.env
      standAt apos.atName
      let (f, first) ← holding [ov] (getMethod ov m pl)
      callWith pos f first (backTo pos (starEach (e :: es) X.env)) (backToKw pos (keywordEach [] X.env))) := by rfl) :
    SE X W (.Call (.Attribute (.Name C px) m apos) (e :: es) [] pos) (eCall0 ar f [] n) := by
  obtain ⟨p, ga, fd, ps, c, F, hb, hm⟩ := h.ex
  obtain ⟨ta, q, z⟩ := g
  exact ⟨_, pe_smeth hg hm c F hr hb passE0 q hdb hst hpl ht, SndX.bnd (t2 := fun vs σ H Q => spD X.K ar f (vs ++ []) H Q E0) rfl z fun us xs _ => snd_callM0 (fun _ => reps_nil) us xs⟩
end
/-! facts of the head -/
def smf (C m : Str) (K : PySem.W.Frag) : Addr := match PySem.W.recIn K (He.ma K (He.ga K C) m) "staticmethod" with
  | some (.ref f :: _) => f
  | _ => 0
def pSm (C m : Str) : Ft := fun K => (match PySem.W.findCls K (.ref (He.ga K C)) (.type "type") m with
    | some (.get (.builtin g) (.ref p) .none (.ref D)) => decide (g = "staticmethod.__get__") && (decide (p = He.ma K (He.ga K C) m) && decide (D = He.ga K C))
    | _ => false) && ((match PySem.W.recIn K (He.ma K (He.ga K C) m) "staticmethod" with
    | some (.ref _ :: _) => true
    | _ => false) && (PySem.W.readsIn K (He.ga K C) (.type "type") && He.eqO (PySem.W.specialIn K (.ref (He.ga K C)) "__getattribute__") (some (some (.builtin "type.__getattribute__")))))
theorem smet_of {K : PySem.W.Frag} {C m : Str} (c : pSm C m K = true) (kp : PySem.W.keepIn K (.ref (smf C m K)) = true) : SMet K (He.ga K C) m (He.ma K (He.ga K C) m) (smf C m K) := by
  obtain ⟨h1, h⟩ := He.ba c
  obtain ⟨h2, h⟩ := He.ba h
  obtain ⟨h3, h4⟩ := He.ba h
  refine ⟨⟨h3, He.eqO_ok h4⟩, ?_, ?_, kp⟩
  · clear h2
    split at h1
    · rename_i g p D e
      obtain ⟨k1, k⟩ := He.ba h1
      obtain ⟨k2, k3⟩ := He.ba k
      rw [e, of_decide_eq_true k1, of_decide_eq_true k2, of_decide_eq_true k3]
    · cases h1
  · unfold smf
    split at h2
    · rename_i f r e
      exact ⟨r, by rw [e]⟩
    · cases h2
end SL

set_option Elab.async false
set_option linter.all false
set_option maxRecDepth 100000
set_option maxHeartbeats 4000000
/-! S-layer 23: super and static methods as the walks and the heads take them -/
namespace SL
open PySem PySem.Spec PyProof.Rows L2
structure SupOk (P : Program) (w : World) (K : PySem.W.Frag) (mg : Str → Option Value) (base : Heap) (k : Nat) (C : Str) (a : Nat) (g : FnB) : Prop where
  ex : ∃ f2 fd2 ps2, SupF P K (He.ga K C) (He.ga K C) f2 ∧ FnOk P w K mg base (L2.CX P w) k f2 fd2 ps2 (spB K a g) ∧ Binds K fd2 ps2 []
  ms : mg "super" = none
section
variable {P : Program} {w : World} {K : PySem.W.Frag} {mg : Str → Option Value} {base : Heap} {x qual : Str} {params : Arguments} {body : List Stmt} {scope : Scope} {f D cc cda : Addr} {fd : FuncData} {N ps : List Str} {k : Nat}
theorem ssa_sup {W : WX} {A : Around} {outer : List Env} {s0 : Shared} {H0 : Hp} {EE : XK} {k2 ar : Nat} {g : FnB} {C : Str} {e : Expr} {es : List Expr} {n : Mo (List T)} {ag : Arg} {p0 p1 ap pos pos2 : Pos} {pl : Sem Bool}
    (F : FunS P K x qual params body scope (He.ga K C) f cc cda fd) (T : SupOk P w K mg base k2 C ar g) (hr : Room k2 (cxS (L2.CX P w) P w K mg base N qual scope f cda cc A outer s0 H0 EE).A)
    (ha : SA (cxS (L2.CX P w) P w K mg base N qual scope f cda cc A outer s0 H0 EE) W (e :: es) n)
    (hp : (params.posonlyargs ++ params.args).head? = some ag := by rfl) (har : N[0]? = some ag.arg := by rfl) (hloc : scope.names.lookup ag.arg = some .local := by rfl)
    (hsp : scope.names.lookup ("super" : Str) = some .globalImplicit := by rfl) (hcl : scope.names.lookup ("__class__" : Str) = some .free := by rfl)
    (hst : starEach (e :: es) (cxS (L2.CX P w) P w K mg base N qual scope f cda cc A outer s0 H0 EE).env = (false, eval e (cxS (L2.CX P w) P w K mg base N qual scope f cda cc A outer s0 H0 EE).env) :: starEach es (cxS (L2.CX P w) P w K mg base N qual scope f cda cc A outer s0 H0 EE).env := by rfl)
    (hpl : (backTo pos (starEach es (cxS (L2.CX P w) P w K mg base N qual scope f cda cc A outer s0 H0 EE).env)).any (·.1) = false := by rfl)
    (hev : eval (.Call (.Attribute (.Call (.Name "super" p0) [] [] p1) "__init__" ap) (e :: es) [] pos) (cxS (L2.CX P w) P w K mg base N qual scope f cda cc A outer s0 H0 EE).env = (do
      let ov ← attributeBase (.Call (.Name "super" p0) [] [] p1) "__init__" (cxS (L2.CX P w) P w K mg base N qual scope f cda cc A outer s0 H0 EE).env (eval (.Call (.Name "super" p0) [] [] p1) (cxS (L2.CX P w) P w K mg base N qual scope f cda cc A outer s0 H0 EE).env)
      standAt ap.atName
      let (g, first) ← holding [ov] (getMethod ov "__init__" pl)
      callWith pos g first (backTo pos (starEach (e :: es) (cxS (L2.CX P w) P w K mg base N qual scope f cda cc A outer s0 H0 EE).env)) []) := by rfl)
    (hsw : swapsWith (.Call (.Attribute (.Call (.Name "super" p0) [] [] p1) "__init__" ap) (e :: es) [] pos) none pos2.line (cxS (L2.CX P w) P w K mg base N qual scope f cda cc A outer s0 H0 EE).env = pure false := by rfl) :
    SSA (cxS (L2.CX P w) P w K mg base N qual scope f cda cc A outer s0 H0 EE) W body (.Expr (.Call (.Attribute (.Call (.Name "super" p0) [] [] p1) "__init__" ap) (e :: es) [] pos) pos2) (sSup C ar g n) := by
  obtain ⟨f2, fd2, ps2, T1, F2, b2⟩ := T.ex
  exact ssa_super F T1 F2 b2 hr T.ms ha hp har hloc hsp hcl hst hpl hev hsw
end
section
variable {P : Program} {w : World} {K : PySem.W.Frag} {mg : Str → Option Value} {base : Heap} {fd : FuncData} {ps : List Str} {k : Nat}
theorem supOk_of {C B : Str} {a : Nat} {g : FnB} (h : FnOk P w K mg base (L2.CX P w) k (He.ma K (He.ga K B) "__init__") fd ps (spB K a g)) (c : pSupF C B K = true) (ht : (P.main.scope.names.lookup ("super" : Str)).isSome = false) (hm : mg "super" = none) (b : Binds K fd ps []) :
    SupOk P w K mg base k C a g := ⟨⟨_, _, _, supF_of c ht, h, b⟩, hm⟩
theorem smOk_of {C m : Str} {a : Nat} {f : FnD} (h : FnOk P w K mg base (L2.CX P w) k (smf C m K) fd ps (spD K a f)) (c : pSm C m K = true) (kp : PySem.W.keepIn K (.ref (smf C m K)) = true) (gm : mg C = some (.ref (He.ga K C))) (b : Binds K fd ps []) :
    SmOk P w K mg base k C m a f := ⟨⟨_, _, _, _, smet_of c kp, h, b, gm⟩⟩
end
/-! a module's numbers and texts -/
structure GlK (K : PySem.W.Frag) (mg : Str → Option Value) (x : Str) (d : D) : Prop where
  ex : ∃ u v, mg x = some u ∧ RelV v u ∧ ∀ F, Rep K F d v
theorem se_globK {X : Cx} {W : WX} {pos : Pos} {x : Str} {d : D} (h : GlK X.K X.mg x d) (hg : Gl X x := by rfl) (hd : (x == ("__debug__" : Str)) = false := by decide) : SE X W (.Name x pos) (eC d) := se_glob ⟨h.ex⟩ hg hd
def pInt (x : Str) (i : Int) : Ft := (He.Fa.int x i).ok
def pStr (x z : Str) : Ft := (He.Fa.str x z).ok
theorem glk_int {K : PySem.W.Frag} {h : Heap} {mg : Str → Option Value} (X : K.In h) (G : h.Ns mainGlobals mg) {x : Str} {i : Int} (c : pInt x i K = true) : GlK K mg x (.int i) := by
  obtain ⟨t, e⟩ := He.int_ok X G c
  exact ⟨_, .int i, e, ⟨t, rfl⟩, fun _ => rep_int⟩
theorem glk_str {K : PySem.W.Frag} {h : Heap} {mg : Str → Option Value} (X : K.In h) (G : h.Ns mainGlobals mg) {x z : Str} (c : pStr x z K = true) : GlK K mg x (.str z) := by
  obtain ⟨t, e⟩ := He.str_ok X G c
  exact ⟨_, .str z, e, ⟨t, rfl⟩, fun _ => rep_str⟩
/-! the Hook that holds the statics, too -/
def asS (g : Addr → Option Obj) (n : Nat) : List Addr := cStatics :: He.asD g n
def obsSG (n : Nat) (fa : List Ft) (fn : List Df) (g : Addr → Option Obj) : He.AlD := obsP fa fn (He.frG g (asS g n))
def hookS (n : Nat) (fa : List Ft) (fn : List Df) : PySem.W.Hook where
  α := He.AlD
  obs := fun s => obsSG n fa fn s.heap.get?
  val := fun _ => valP fn
  says := fun _ h => ∃ K : PySem.W.Frag, K.In h ∧ SaysP fa fn K
  of := fun _ _ e => ⟨_, He.frG_in, e⟩
  keeps := fun _ _ _ ⟨K, hK, c⟩ k => ⟨K, PySem.W.Frag.In.keeps hK k, c⟩
theorem obsSG_eq {n : Nat} {fa : List Ft} {fn : List Df} {g : Addr → Option Obj} {s : Shared} (h : ∀ a, g a = s.heap.get? a) : obsSG n fa fn g = (hookS n fa fn).obs s := by
  have e : g = s.heap.get? := funext h
  rw [e] <;> rfl
end SL

set_option Elab.async false
set_option linter.all false
set_option maxRecDepth 100000
set_option maxHeartbeats 4000000
/-! S-layer 24: tuple * int, int at most 1 -/
namespace SL
open PySem PySem.Spec PyProof.Rows L2
theorem tuple_mul1 (l : Addr) (items : Array Value) (n : Nat) (sl : Array (Option Value)) (dd : Option Addr) (u : Tok) :
    Meets (Builtin.«tuple.__mul__» ⟨[.ref l, .int 1 u], []⟩) (fun _ R s => s.heap.get? l = some { cls := .type "tuple", dict := dd, data := .seq items n, slots := sl } ∧ R (.ok (.ret (Value.ref l))) s) :=
  .of_wp fun prog w A R s h => by
    obtain ⟨hp, g, d, tk, os⟩ := s
    obtain ⟨hl, h⟩ := h
    have f1 := AutoSeq1.idx_int
    wp_walk using wpAny_loadPart' hl
    exact ⟨_, rfl, h⟩
theorem tuple_mul0 (l : Addr) (items : Array Value) (n : Nat) (sl : Array (Option Value)) (dd : Option Addr) (x : Int) (u : Tok) (c0 : (decide (x < -(2 ^ 63)) || decide (x ≥ 2 ^ 63)) = false) (c1 : (items.isEmpty || x == 1) = false) (c2 : (decide (x ≤ 0) || items.isEmpty) = true) :
    Meets (Builtin.«tuple.__mul__» ⟨[.ref l, .int x u], []⟩) (fun _ R s => s.heap.get? l = some { cls := .type "tuple", dict := dd, data := .seq items n, slots := sl } ∧
      R (.ok (.ret (Value.ref s.heap.objs.size))) { s with heap := s.heap.push { cls := Value.type "tuple", data := Data.seq #[] }, toks := s.toks }) :=
  .of_wp fun prog w A R s h => by
    obtain ⟨hp, g, d, tk, os⟩ := s
    obtain ⟨hl, h⟩ := h
    have f1 := AutoSeq1.idx_int
    wp_walk using wpAny_loadPart' hl
    repeat (first
      | (refine wpAny_ite_false (decide_eq_false (by rw [c0]; exact Bool.false_ne_true)) ?_; wp_walk using wpAny_loadPart' hl)
      | (refine wpAny_ite_false (decide_eq_false (by rw [c1]; exact Bool.false_ne_true)) ?_; wp_walk using wpAny_loadPart' hl)
      | (refine wpAny_ite_true (decide_eq_true (by rw [c2])) ?_; wp_walk using wpAny_loadPart' hl))
    exact ⟨_, rfl, h⟩
/-- tuple * int, the int at most 1 -/
def rRep0 (K : PySem.W.Frag) : R2 := fun x y H Q => ∃ l k xs, x = .ref l ∧ y = .int k ∧ SqT K H l xs ∧ xs ≠ [] ∧ -100000 ≤ k ∧ k ≤ 1 ∧ (k = 1 → Q (.ref l) H) ∧ (k ≤ 0 → ∀ p, H p = none → Q (.ref p) (upd H p (.tup [])))
theorem op_rep0 {X : Cx} : OpR X (binaryOp .Mult) (rRep0 X.K) := by
  intro pins s σ H x y v u Q I rx ry h
  obtain ⟨l, k, xs, rfl, rfl, hT, hne, h1, h2, q1, q0⟩ := h
  cases rx
  obtain ⟨t, rfl⟩ := ry
  obtain ⟨its, r, ⟨⟨cls, dd, data, sl⟩, ho, hc, n, hd⟩, hs⟩ := I.tuple hT
  simp only at hc hd
  subst hc hd
  have hle : its.length = xs.length := r.length.symm
  have hn : its ≠ [] := fun e => hne (by
    rw [e] at hle
    exact List.eq_nil_of_length_eq_zero hle.symm)
  have hi : its.toArray.isEmpty = false := by
    cases its with
    | nil => exact absurd rfl hn
    | cons a b => rfl
  by_cases e1 : k = 1
  · subst e1
    refine wpAny_binaryOp_repeat_ref (T := "tuple") (U := "int") (by decide) ⟨_, ho, rfl⟩ (fun s' => typeIs_int s' 1 t) noFill_tuple_mul F.fills_int_mul F.slot_int_rmul repeat_tuple F.slot_int_index.lookup
      (call_meets F.slot_int_rmul (typeIs_int s 1 t) F.entry_int_rmul (F.args_int_rmul_2 _ _) (int_rmul_tuple 1 t l its.toArray n dd sl)
        ⟨ho, rfl, ⟨_, ho, rfl⟩, call_meets F.slot_tuple_mul ⟨_, ho, rfl⟩ F.entry_tuple_mul (F.args_tuple_mul_2 _ _) (tuple_mul1 l its.toArray n sl dd t) ⟨ho, ?_⟩⟩)
    exact ⟨.ref l, H, I, rfl, q1 rfl⟩
  · have c0 : (decide (k < -(2 ^ 63)) || decide (k ≥ 2 ^ 63)) = false := by
      rw [decide_eq_false (by omega), decide_eq_false (by omega)] <;> rfl
    have c1 : (its.toArray.isEmpty || k == 1) = false := by
      rw [hi, Bool.false_or]
      exact beq_eq_false_iff_ne.mpr e1
    have c2 : (decide (k ≤ 0) || its.toArray.isEmpty) = true := by
      rw [decide_eq_true (by omega), Bool.true_or]
    refine wpAny_binaryOp_repeat_ref (T := "tuple") (U := "int") (by decide) ⟨_, ho, rfl⟩ (fun s' => typeIs_int s' k t) noFill_tuple_mul F.fills_int_mul F.slot_int_rmul repeat_tuple F.slot_int_index.lookup
      (call_meets F.slot_int_rmul (typeIs_int s k t) F.entry_int_rmul (F.args_int_rmul_2 _ _) (int_rmul_tuple k t l its.toArray n dd sl)
        ⟨ho, rfl, ⟨_, ho, rfl⟩, call_meets F.slot_tuple_mul ⟨_, ho, rfl⟩ F.entry_tuple_mul (F.args_tuple_mul_2 _ _) (tuple_mul0 l its.toArray n sl dd k t c0 c1 c2) ⟨ho, ?_⟩⟩)
    refine ⟨.ref s.heap.objs.size, _, I.laid (t' := s.toks) (o := .tup []) (fun b ob q => Heap.get?_push_of_some _ q) (Nat.le_refl _) ?_, rfl, q0 (by omega) _ (I.hok.fresh (Nat.le_refl _))⟩
    exact ⟨by simp, _, .nil, IsTup.new _ _⟩
/-- tuple * int, the int at least 2 -/
def rRepW (K : PySem.W.Frag) : R2 := fun x y H Q => ∃ l k xs, x = .ref l ∧ y = .int k ∧ SqT K H l xs ∧ xs ≠ [] ∧ 2 ≤ k ∧ k ≤ 100000 ∧ k.toNat * xs.length ≤ 100000 ∧ ∀ p, H p = none → Q (.ref p) (upd H p (.tup (List.replicate k.toNat xs).flatten))
theorem op_repW {X : Cx} : OpR X (binaryOp .Mult) (rRepW X.K) := by
  intro pins s σ H x y v u Q I rx ry h
  obtain ⟨l, k, xs, rfl, rfl, hT, hne, h1, h2, h3, q⟩ := h
  cases rx
  obtain ⟨t, rfl⟩ := ry
  obtain ⟨its, r, ⟨⟨cls, dd, data, sl⟩, ho, hc, n, hd⟩, hs⟩ := I.tuple hT
  simp only at hc hd
  subst hc hd
  have hle : its.length = xs.length := r.length.symm
  have hn : its ≠ [] := fun e => hne (by
    rw [e] at hle
    exact List.eq_nil_of_length_eq_zero hle.symm)
  have hi : its.toArray.isEmpty = false := by
    cases its with
    | nil => exact absurd rfl hn
    | cons a b => rfl
  have c0 : (decide (k < -(2 ^ 63)) || decide (k ≥ 2 ^ 63)) = false := by
    rw [decide_eq_false (by omega), decide_eq_false (by omega)] <;> rfl
  have c1 : (its.toArray.isEmpty || k == 1) = false := by
    rw [hi, Bool.false_or]
    exact beq_eq_false_iff_ne.mpr (by omega)
  have c2 : (decide (k ≤ 0) || its.toArray.isEmpty) = false := by
    rw [decide_eq_false (by omega), hi]; rfl
  have e1 : (its.toArray.size : Int) * k = ((k.toNat * xs.length : Nat) : Int) := by
    have ek : k = (k.toNat : Int) := by omega
    rw [List.size_toArray, hle, Int.natCast_mul, Int.mul_comm]
    congr 1
  have tm : ∀ m : Nat, m ≤ 100000 → Builtin.Tuple.tupleTooMany (m : Int) = false := fun m hm => by
    unfold Builtin.Tuple.tupleTooMany
    simp [sizeLine]
    omega
  have hf : (List.foldl (fun x1 x2 => x1 ++ x2) #[] (List.replicate k.toNat its.toArray)) = (List.replicate k.toNat its).flatten.toArray := L2.size_rep its k.toNat
  have hsz : (List.foldl (fun x1 x2 => x1 ++ x2) #[] (List.replicate k.toNat its.toArray)).size ≤ sizeLine := by
    rw [hf, List.size_toArray, PyProof.Rows.lm_len_rep_flat, hle]
    exact Nat.le_trans h3 (by decide)
  refine wpAny_binaryOp_repeat_ref (T := "tuple") (U := "int") (by decide) ⟨_, ho, rfl⟩ (fun s' => typeIs_int s' k t) noFill_tuple_mul F.fills_int_mul F.slot_int_rmul repeat_tuple F.slot_int_index.lookup
    (call_meets F.slot_int_rmul (typeIs_int s k t) F.entry_int_rmul (F.args_int_rmul_2 _ _) (int_rmul_tuple k t l its.toArray n dd sl)
      ⟨ho, rfl, ⟨_, ho, rfl⟩, call_meets F.slot_tuple_mul ⟨_, ho, rfl⟩ F.entry_tuple_mul (F.args_tuple_mul_2 _ _) (tuple_mulW l its.toArray n dd sl k t c0 c1 c2 (by rw [e1]; omega) (by rw [e1]; exact tm _ h3) hsz) ⟨ho, ?_⟩⟩)
  rw [hf]
  refine ⟨.ref s.heap.objs.size, _, I.laid (t' := s.toks) (o := .tup (List.replicate k.toNat xs).flatten) (fun b ob q => Heap.get?_push_of_some _ q) (Nat.le_refl _) ?_, rfl, q _ (I.hok.fresh (Nat.le_refl _))⟩
  exact ⟨by rw [PyProof.Rows.lm_len_rep_flat]; exact Nat.le_trans h3 (by decide), _, r.rep k.toNat, IsTup.new _ _⟩
/-- a tuple's values, told so many times -/
def repF : D → D → Option Out
  | .tup xs, .int k => if -100000 ≤ k ∧ k ≤ 100000 ∧ k.toNat * xs.length ≤ 100000 ∧ xs ≠ [] then some (.dt (.tup (List.replicate k.toNat xs).flatten)) else none
  | _, _ => none
theorem o2_rep {K : PySem.W.Frag} : Op2 K (fun x y H Q => rRepW K x y H Q ∨ rRep0 K x y H Q) repF := by
  intro F H Q x y d e o ex r1 r2 hf q
  unfold repF at hf
  split at hf
  · split at hf
    · next xs k h =>
      cases hf
      cases ri r2
      have r1' := r1
      unfold Rep at r1
      obtain ⟨a, vs, rfl, h1, h2⟩ := r1
      have hvs : vs ≠ [] := fun hv => by
        subst hv
        have := h2.len
        simp at this
        exact h.2.2.2 (List.eq_nil_of_length_eq_zero this.symm)
      by_cases k2 : 2 ≤ k
      · exact .inl ⟨a, _, vs, rfl, rfl, ex.t h1, hvs, k2, h.2.1, by rw [h2.len]; exact h.2.2.1, fun p hp => q.tup ex (Reps.flat _ h2) hp⟩
      · refine .inr ⟨a, _, vs, rfl, rfl, ex.t h1, hvs, h.1, by omega, fun e => ?_, fun e p hp => ?_⟩
        · subst e
          have e1 : (List.replicate (1 : Int).toNat xs).flatten = xs := by simp
          rw [e1] at q
          exact q.val ex r1'
        · have e0 : k.toNat = 0 := by omega
          rw [e0] at q
          exact q.tup ex reps_nil hp
    · cases hf
  · cases hf
theorem op_mulT {X : Cx} : OpR X (binaryOp .Mult) (fun x y H Q => rRepW X.K x y H Q ∨ rRep0 X.K x y H Q) := OpR.or op_repW op_rep0
end SL

set_option Elab.async false
set_option linter.all false
set_option maxRecDepth 100000
set_option maxHeartbeats 4000000
/-! S-layer 25: bool(x), x an instance whose class has __bool__ -/
namespace SL
open PySem L2 PySem.Calls PyProof.Rows
section
variable {prog : Program} {w : World} {A : Around} {E : Value → Shared → Prop} {s : Shared}
theorem bool_new_in (x : Value) : MeetsIn prog w (Builtin.«bool.__new__» ⟨[.type "bool", x], []⟩) (fun A R s => wpAny (model prog w) A.in1 (truthy x) (fun b s' => R (.ok (.ret (.bool b))) s') (fun e s' => R (.error e) s') s) :=
  .of_wp fun A R s h => by
    have f1 := PySem.F.conv_sub_bool
    have h2 := wpAny_mono h (fun b s' (hb : R (.ok (.ret (.bool b))) s') => wpAny_pure (M := model prog w) (A := A.in1) (E := fun e s' => R (.error e) s') (Q := fun fin s' => ∃ v, fin = Fin.done (.ret v) ∧ R (.ok (.ret v)) s') (a := Fin.done (.ret (.bool b))) ⟨_, rfl, hb⟩) fun _ _ e => e
    repeat (any_goals (first | assumption | (with_reducible refine wpAny_mono h (fun b s' hb => ?_) fun _ _ e => e) | wp_step))
    all_goals exact ⟨_, rfl, hb⟩
theorem call_bool_in {x : Value} {Q : Value → Shared → Prop} (h : wpAny (model prog w) A.in1.in1 (truthy x) (fun b s' => Q (.bool b) s') E s) : wpAny (model prog w) A (call (.type "bool") [x]) Q E s :=
  callType_newIn PySem.F.called_bool PySem.F.newNe_bool (PySem.F.typeCall_bool_1 x) (PySem.F.newCall_bool_1 x) (fun obj => PySem.F.args_object_init_2 obj x) PySem.F.entry_bool_new (bool_new_in x)
    (wpAny_mono h (fun b s' hb => ⟨rfl, hb⟩) fun _ _ e => e)
end
section
variable {X : Cx} {k : Nat} {C m : Str} {f : FnD}
theorem call_boolO (h : MetOk X.prog X.w X.K X.mg X.base k C "__bool__" 1 [] f) (hr : Room (k + 2) X.A) :
    CallR X (.type "bool") (fun xs H Q => ∃ a dx fs, xs = [.ref a] ∧ H a = some (.ins (He.ga X.K C) dx fs) ∧ spD X.K 1 f ([.ref a] ++ []) H (gEq Q) E0) := by
  intro pins s σ H xs us Q I r hq
  obtain ⟨a, dx, fs, rfl, ha, hsp⟩ := hq
  obtain ⟨u, rfl, rx⟩ := vals1 r
  cases rx
  obtain ⟨fa, fd, ps, dvs, ds, F, _, hm, hb, hd, hd2⟩ := h.ex
  obtain ⟨mA, J, _⟩ := ins_get I.hok ha
  obtain ⟨od, J, _⟩ := J.look
  obtain ⟨mm, hF⟩ := I.fr
  obtain rfl := dvs_nil hd2
  refine call_bool_in (PySem.W.truthy_K hF I.ok.mod.kin J hm.at_ hm.fn ?_)
  refine wpAny_call (codeAny_mono (F.raw hb hd X.A.in1.in1 X.stack s H [Value.ref a] [V.ref a] _ E0 hr.in1.in1 I.env0.in1.in1 (.cons (show RelV (V.ref a) (Value.ref a) from rfl) .nil) hsp) fun r s' hq => ?_)
  cases r with
  | error e => exact passE0 pins σ H s e s' I hq
  | ok fl =>
    cases fl with
    | ret u =>
      obtain ⟨z, H', I', rz, b, ez, q⟩ := I.after hq
      subst ez
      cases rz
      exact ⟨.bl b, H', I', rfl, q⟩
    | next => exact False.elim hq
    | brk => exact False.elim hq
    | cont => exact False.elim hq
end
theorem call_boolU {X : Cx} {k : Nat} {C : Str} {f : FnD} (h : MetOk X.prog X.w X.K X.mg X.base k C "__bool__" 1 [] f) (hr : Room (k + 2) X.A) :
    CallR X (.type "bool") (fun xs H Q => (∃ a dx fs, xs = [.ref a] ∧ H a = some (.ins (He.ga X.K C) dx fs) ∧ spD X.K 1 f ([.ref a] ++ []) H (gEq Q) E0) ∨ ((∃ i, xs = [.int i] ∧ Q (.bl (i != 0)) H) ∨ ∃ k, xs = [.bl k] ∧ Q (.bl k) H)) :=
  fun pins s σ H xs us Q I r q => q.elim (call_boolO h hr pins s σ H xs us Q I r) (call_bool1 pins s σ H xs us Q I r)
/-- bool(x), x an instance of C or what boolF takes -/
def boolO (C : Str) (f : FnD) : List D → Option Out
  | [.obj C' ns fs] => if C' = C then (match f [.obj C' ns fs] with
    | some (.ok (.dat (.bl b))) => some (.dt (.bl b))
    | _ => none) else none
  | ds => boolF ds
theorem co_boolO {K : PySem.W.Frag} {C : Str} {f : FnD} : CallOk K (fun xs H Q => (∃ a dx fs, xs = [.ref a] ∧ H a = some (.ins (He.ga K C) dx fs) ∧ spD K 1 f ([.ref a] ++ []) H (gEq Q) E0) ∨ ((∃ i, xs = [.int i] ∧ Q (.bl (i != 0)) H) ∨ ∃ k, xs = [.bl k] ∧ Q (.bl k) H)) (boolO C f) := by
  intro F H Q vs ds o ex rd hf q
  unfold boolO at hf
  split at hf
  · next C' ns fs =>
    by_cases c : C' = C
    · rw [if_pos c] at hf
      subst c
      obtain ⟨x, rfl, a1⟩ := reps_one rd
      have a2 := a1
      unfold Rep at a2
      obtain ⟨a, dx, vs, rfl, h3, h4⟩ := a2
      refine .inl ⟨a, dx, _, rfl, ex _ _ h3, ?_⟩
      cases hq : f [.obj C' ns fs] with
      | none => rw [hq] at hf; cases hf
      | some z =>
        rw [hq] at hf
        cases z with
        | exc x => cases hf
        | ok t =>
          cases t with
          | dat d =>
            cases d with
            | bl b =>
              cases hf
              refine ⟨F, _, _, ex, reps_cons a1 reps_nil, rfl, hq, rfl, fun v F' H' e1 e2 e3 e4 hold _ => ?_⟩
              have hv : v = .bl b := rb (show Rep K F' (.bl b) v from hold)
              subst hv
              exact ⟨b, rfl, q (.bl b) F' H' e1 e2 e3 e4 rep_bl⟩
            | _ => cases hf
          | lst _ _ => cases hf
          | ins _ _ _ _ => cases hf
    · rw [if_neg c] at hf; cases hf
  · exact .inr (co_bool F H Q vs _ o ex rd hf q)
end SL
namespace SL
open PySem L2 PySem.Calls PyProof.Rows
/-! isinstance(x, C), C with classes below it -/
def isSF (C : Str) (ys : List Str) (d : D) : Option Out := match d with
  | .obj C' _ _ => if C' = C then some (.dt (.bl true)) else if ys.contains C' = true then some (.dt (.bl true)) else none
  | d => (tyN d).map fun _ => .dt (.bl false)
structure SubK (K : PySem.W.Frag) (C : Str) (ys : List Str) : Prop where
  c : ∀ C' ∈ ys, IsC K C'
  y : ∀ C' ∈ ys, PySem.W.kitOne K (.ref (He.ga K C')) (.ref (He.ga K C)) = some true
section
variable {K : PySem.W.Frag}
theorem isS_ok {C : Str} {ys : List Str} {F H : Hp} {Q : VK} {d : D} {v : V} {o : Out} (c : IsC K C) (su : SubK K C ys) (ex : Ex F H) (r : Rep K F d v) (hf : isSF C ys d = some o) (q : OutOk K F H Q o) : ∃ t r, TyX K H v t ∧ PySem.W.kitOne K t (.ref (He.ga K C)) = some r ∧ Q (.bl r) H := by
  cases d with
  | obj C' ns fs =>
    by_cases h : C' = C
    · exact isO_ok c ex r (by unfold isSF at hf; unfold isOF; dsimp only at hf ⊢; rw [if_pos h] at hf ⊢; exact hf) q
    · unfold isSF at hf
      dsimp only at hf
      rw [if_neg h] at hf
      split at hf
      · next h2 =>
        cases hf
        have hm : C' ∈ ys := by simpa using h2
        exact ⟨_, true, obj_ty (su.c C' hm) ex r, su.y C' hm, q.bl ex⟩
      · cases hf
  | _ => exact isO_ok c ex r hf q
section
variable {X : Cx} {W : WX} {a : Expr} {ma : Mo T} {pos : Pos}
theorem se_isS {C : Str} {ys : List Str} {p p2 : Pos} (c : IsC X.K C) (su : SubK X.K C ys) (ha : SE X W a ma) (hm : X.mg "isinstance" = none) (hC : X.mg C = some (.ref (He.ga X.K C))) (hg : Gl X "isinstance" := by rfl) (hg2 : Gl X C := by rfl)
    (hd : (C == ("__debug__" : Str)) = false := by decide) (he : starEach [a, .Name C p2] X.env = (false, eval a X.env) :: starEach [.Name C p2] X.env := by rfl) (he2 : starEach [.Name C p2] X.env = (false, eval (.Name C p2) X.env) :: starEach [] X.env := by rfl)
    (hpl : (backTo pos (starEach [.Name C p2] X.env)).any (·.1) = false := by rfl) : SE X W (.Call (.Name "isinstance" p) [a, .Name C p2] [] pos) (una (isSF C ys) ma) := by
  obtain ⟨te, q1, z1⟩ := ha
  refine ⟨_, pe_callB call_isi hg hm PyProof.Rows.boot_isinstance (pa_cons q1 (pa_cons (pe_glob (v := .ref (He.ga X.K C)) hg2 hC rfl hd) pa_nil he2) he) (by decide) (by decide) he hpl, ?_⟩
  refine SndX.bnd (t2 := fun x σ H Q => rIsi X.K [x, .ref (He.ga X.K C)] H Q) rfl z1 fun t x _ => ?_
  refine snd_out (f := one (isSF C ys)) [t] [x] fun F H σ Q ds o ex rd hf q => ?_
  obtain ⟨d, rfl, r1⟩ := reps1 rd
  obtain ⟨t, r, h1, h2, h3⟩ := isS_ok c su ex r1 hf q
  exact ⟨x, .ref (He.ga X.K C), t, .ref (He.ga X.K C), r, rfl, .own _, h1, h2, h3⟩
end
end
def pSub (C' C : Str) : Ft := fun K => eqB (PySem.W.kitOne K (.ref (He.ga K C')) (.ref (He.ga K C))) (some true)
theorem sub_of {K : PySem.W.Frag} {C' C : Str} (c : pSub C' C K = true) : PySem.W.kitOne K (.ref (He.ga K C')) (.ref (He.ga K C)) = some true := eqB_ok c
end SL

set_option Elab.async false
set_option linter.all false
set_option maxRecDepth 100000
set_option maxHeartbeats 4000000
/-! S-layer 26: the head's run in pieces (each piece runs the top anew, and keeps less) -/
namespace SL
open PySem PySem.Spec PySem.W PySem.Calls PyProof.Rows L2
theorem run_join {α β γ δ : Type} {o : Option α} {f : α → β} {g : α → γ} {h : α → δ} {x : β} {y : γ} {z : δ} (p : o.map (fun s => (f s, g s)) = some (x, y)) (q : o.map h = some z) : o.map (fun s => (f s, g s, h s)) = some (x, y, z) := by
  cases o with
  | none => cases q
  | some s =>
    simp only [Option.map_some, Option.some.injEq, Prod.mk.injEq] at p q ⊢
    exact ⟨p.1, p.2, q⟩
theorem obsP_join {fa : List Ft} {fn : List Df} {K : PySem.W.Frag} (a m : Nat) (p : obsP (fa.take a) (fn.take m) K = valP (fn.take m)) (q : obsP (fa.drop a) (fn.drop m) K = valP (fn.drop m)) : obsP fa fn K = valP fn := by
  unfold obsP valP at *
  simp only [Prod.mk.injEq, Bool.and_eq_true] at p q ⊢
  refine ⟨?_, ?_⟩
  · constructor
    · rw [← List.take_append_drop a fa, List.all_append, p.1.1, q.1.1]; rfl
    · rw [← List.take_append_drop m fn, List.all_append, p.1.2, q.1.2]; rfl
  · rw [← List.take_append_drop m fn, List.map_append, List.map_append, p.2, q.2]
/-! the crawl with a number's bits as the seen ones: each address once -/
def crawlStep (g : Addr → Option Obj) (go : Nat → List Addr → List Addr) (m : Nat) (a : Addr) (as : List Addr) : List Addr := match Nat.testBit m a with
  | true => go m as
  | false => a :: HandSHeadRun.frNat (m ||| (1 <<< a)) fun m2 => go m2 (match g a with
    | some o => He.refsD o ++ as
    | none => as)
def crawl (g : Addr → Option Obj) : Nat → Nat → List Addr → List Addr
  | 0, _, _ => []
  | n + 1, m, as => match as with
    | [] => []
    | a :: r => crawlStep g (crawl g n) m a r
def obsWG (n : Nat) (fa : List Ft) (fn : List Df) (g : Addr → Option Obj) : He.AlD := obsP fa fn (He.frG g (crawl g n 0 [cStatics, mainGlobals]))
def hookW (n : Nat) (fa : List Ft) (fn : List Df) : PySem.W.Hook where
  α := He.AlD
  obs := fun s => obsWG n fa fn s.heap.get?
  val := fun _ => valP fn
  says := fun _ h => ∃ K : PySem.W.Frag, K.In h ∧ SaysP fa fn K
  of := fun _ _ e => ⟨_, He.frG_in, e⟩
  keeps := fun _ _ _ ⟨K, hK, c⟩ k => ⟨K, PySem.W.Frag.In.keeps hK k, c⟩
theorem obsWG_eq {n : Nat} {fa : List Ft} {fn : List Df} {g : Addr → Option Obj} {s : Shared} (h : ∀ a, g a = s.heap.get? a) : obsWG n fa fn g = (hookW n fa fn).obs s := by
  have e : g = s.heap.get? := funext h
  rw [e] <;> rfl
end SL

set_option Elab.async false
set_option linter.all false
set_option maxRecDepth 100000
set_option maxHeartbeats 4000000
/-! S-layer 27: super().__init__(e) in the __init__ of an own class over ValueError -/
namespace SL
open PySem L2 PyProof.Rows
section
variable {X : Cx} {pins : List (Addr × Obj)} {σ : L2.St} {H : Hp} {s : Shared}
/-- the wrapper that super() gave is called: nothing of the instance is told -/
theorem mw_call {A : Around} {E : Value → Shared → Prop} {u a C : Addr} {us : List Value} {Q : Value → Shared → Prop} (hu : s.heap.get? u = some (PySem.W.kxs_mw "ValueError.__init__" a)) (T : OexC X.K C) (I : Inv X pins σ H s)
    (e : H a = some (exo a C none)) (hl : us.length ≤ sizeLine) (h : ∀ s', Inv X pins σ H s' → Q .none s') : wpAny (model X.prog X.w) A (call (.ref u) us) Q E s := by
  obtain ⟨nm, q, N, bs, bm, sn, sub, ab, col, dd, k0, k1, k2, k3, k5, hC, hbm⟩ := T.cls
  obtain ⟨t1, ho⟩ := exo_at I.hok e
  obtain ⟨hp, g, d, t, os⟩ := s
  refine wpAny_call (codeAny_of_tree ?_)
  show wpAny _ A.in1 (callAny (.ref u) ⟨us, []⟩) _ _ _
  simp only [callAny]
  refine wpAny_bind (wpAny_load hu ?_)
  simp only [PySem.W.kxs_mw, show (Value.type "method-wrapper" == Value.type "method" || Value.type "method-wrapper" == Value.type "builtin_function_or_method" || Value.type "method-wrapper" == Value.type "method-wrapper") = true by decide, if_true]
  refine PySem.W.KFB.if_so (by decide) ?_
  refine wpAny_bind (PySem.W.check_bound_init F.excBase_ValueError.toExcCallFacts (I.kIn _ _ hC) ho rfl ?_)
  refine wpAny_bind (wpAny_pure (wpAny_pure ?_))
  refine ⟨plainId_quiet F.excBase_ValueError.init.plain _, codeAny_builtin F.excBase_ValueError.initEntry ?_⟩
  rw [Around.under_plainId F.excBase_ValueError.init.plain _]
  wp_walk
  have hx : ∀ h' : Heap, (∀ b o, b ≠ a → hp.get? b = some o → h'.get? b = some o) → (∃ t2 : Addr, h'.get? a = some ({ cls := .ref C, dict := none, data := .fields #[.ref t2, .none, .none, .none, .bool false, .none] } : Obj)) → Q .none ⟨h', g, d, t, os⟩ := fun h' k ⟨t2, hx⟩ => by
    have J := I.write (t' := t) (x := a) (e := a) (o := exo a C none) (by rw [e]; exact True.intro) (.inl rfl) k ⟨_, hx⟩ (exo_ok hx)
    have eu : upd H a (exo a C none) = H := by
      funext b
      by_cases hb : b = a
      · rw [hb, upd_same, e]
      · rw [upd_ne hb]
    rw [eu] at J
    exact h _ J
  refine hx _ (fun b o hb ho => ?_) ⟨hp.objs.size, ?_⟩
  · rw [Heap.get?_update_other _ _ (Ne.symm hb)]
    exact Heap.get?_push_of_some _ ho
  · rw [Heap.get?_update_self _ (Heap.get?_push_of_some _ ho) rfl]
    rfl
end
/-- what of the text is asked: behind D, among the classes of C, comes ValueError's -/
structure SupX (P : Program) (K : PySem.W.Frag) (C D : Addr) : Prop where
  top : (P.main.scope.names.lookup ("super" : Str)).isSome = false
  sub : PySem.W.mroIn K C (.ref D) = some true
  op : PySem.W.nsIn K cStatics "thirdparty.any" = some none
  sup : PySem.W.ks_superIn K C D "__init__" = some (some (.builtin "ValueError.__init__"))
  ve : PySem.W.subIn K (.ref C) (.type "ValueError") = some true
  ox : OexC K C
def tSupX (P : Program) (K : PySem.W.Frag) (D : Addr) (t : TA) : TS := fun Dn σ H => ∃ a C, σ[0]? = some (some (.ref a)) ∧ H a = some (exo a C none) ∧ SupX P K C D ∧ t σ H fun vs H1 => vs.length ≤ 1000 ∧ H1 a = some (exo a C none) ∧ Dn.nx σ H1
section
variable {P : Program} {w : World} {K : PySem.W.Frag} {mg : Str → Option Value} {base : Heap} {x qual : Str} {params : Arguments} {body : List Stmt} {scope : Scope} {f D cc cda : Addr} {fd : FuncData} {N ps : List Str} {k : Nat}
theorem psa_superX {CX : CXT} {A : Around} {outer : List Env} {s0 : Shared} {H0 : Hp} {E0 : XK} {e : Expr} {es : List Expr} {t : TA} {ar : Arg} {p0 p1 ap pos pos2 : Pos} {pl : Sem Bool}
    (F : FunS P K x qual params body scope D f cc cda fd) (hp : (params.posonlyargs ++ params.args).head? = some ar) (har : N[0]? = some ar.arg) (hloc : scope.names.lookup ar.arg = some .local)
    (hsp : scope.names.lookup ("super" : Str) = some .globalImplicit) (hcl : scope.names.lookup ("__class__" : Str) = some .free) (hms : mg "super" = none)
    (ha : PA (cxS CX P w K mg base N qual scope f cda cc A outer s0 H0 E0) (e :: es) t)
    (hst : starEach (e :: es) (cxS CX P w K mg base N qual scope f cda cc A outer s0 H0 E0).env = (false, eval e (cxS CX P w K mg base N qual scope f cda cc A outer s0 H0 E0).env) :: starEach es (cxS CX P w K mg base N qual scope f cda cc A outer s0 H0 E0).env := by rfl)
    (hpl : (backTo pos (starEach es (cxS CX P w K mg base N qual scope f cda cc A outer s0 H0 E0).env)).any (·.1) = false := by rfl)
    (hev : eval (.Call (.Attribute (.Call (.Name "super" p0) [] [] p1) "__init__" ap) (e :: es) [] pos) (cxS CX P w K mg base N qual scope f cda cc A outer s0 H0 E0).env = (do
      let ov ← attributeBase (.Call (.Name "super" p0) [] [] p1) "__init__" (cxS CX P w K mg base N qual scope f cda cc A outer s0 H0 E0).env (eval (.Call (.Name "super" p0) [] [] p1) (cxS CX P w K mg base N qual scope f cda cc A outer s0 H0 E0).env)
      standAt ap.atName
      let (g, first) ← holding [ov] (getMethod ov "__init__" pl)
      callWith pos g first (backTo pos (starEach (e :: es) (cxS CX P w K mg base N qual scope f cda cc A outer s0 H0 E0).env)) []) := by rfl)
    (hsw : swapsWith (.Call (.Attribute (.Call (.Name "super" p0) [] [] p1) "__init__" ap) (e :: es) [] pos) none pos2.line (cxS CX P w K mg base N qual scope f cda cc A outer s0 H0 E0).env = pure false := by rfl) :
    PSAx (cxS CX P w K mg base N qual scope f cda cc A outer s0 H0 E0) body (.Expr (.Call (.Attribute (.Call (.Name "super" p0) [] [] p1) "__init__" ap) (e :: es) [] pos) pos2) (tSupX P K D t) := by
  intro pins s σ H D' I ⟨a, C, h0, hH, T, q⟩
  have KX : K.In s.heap := I.kIn
  obtain ⟨kV, doc, pm, an, ct, oc, od, osl, rfl, lk⟩ := F.fdE
  obtain ⟨ccl, cdd, vs, ccs, file, tf, hcda, hvs, hfile⟩ := F.file
  obtain ⟨cl, cld, csl, hcell⟩ := F.cell
  obtain ⟨cdD, hD⟩ := F.cls
  obtain ⟨mb, hb1, hb2⟩ := I.mod.blt
  obtain ⟨m, hn, hlook⟩ := I.loc
  obtain ⟨u, ru, lu⟩ := hlook 0 ar.arg (.ref a) har h0 (.inl hloc)
  obtain rfl : u = Value.ref a := ru
  have hmu : m ar.arg = some (.ref a) := by
    rcases lu with ⟨_, hmu⟩ | ⟨hk, _⟩
    · exact hmu
    · have hk : scope.names.lookup ar.arg = some .cell ∨ scope.names.lookup ar.arg = some .free := hk
      rw [hloc] at hk
      rcases hk with hk | hk <;> cases hk
  obtain ⟨oD, hD1, hD2⟩ : ∃ oD, s.heap.get? D = some oD ∧ oD.data = .cls cdD := by
    unfold PySem.W.clsIn at hD
    split at hD
    · rename_i c d cd' sl ho
      cases hD
      exact ⟨_, KX _ _ ho, rfl⟩
    · cases hD
  obtain ⟨t1, hget⟩ := exo_at I.hok hH
  have J : PySem.W.InstAt s.heap a { cls := .ref C, dict := none, data := .fields #[.ref t1, .none, .none, .none, .bool false, .none] } C none := ⟨hget, rfl, rfl, trivial⟩
  cases hc : PySem.W.clsIn K C with
  | none => have := T.sup; unfold PySem.W.ks_superIn at this; rw [hc] at this; cases this
  | some cd =>
  have hm := T.sup
  unfold PySem.W.ks_superIn at hm
  rw [hc] at hm
  have hne : a ≠ C := PySem.W.ks_ne KX J hc
  refine PySem.ks_wpAt_Expr_any (PySem.ks_wpAt_MethodCall (pl := pl) ?_ hev) I.quiet hsw
  refine PySem.ks_wpAt_super_base hsp hcl (by decide) rfl (KX _ _ lk) rfl hp rfl (KX _ _ hcda) rfl hvs hfile T.top ?_
  refine PySem.W.ks_loadName_global I.ok.kind hsp (Calls.loadGlobal_builtin (by rw [I.ok.glob]; exact I.mod.glob.keeps I.bk) hms (by rw [I.ok.blt]; exact hb1.keeps I.bk) ((hb2 "super" (by decide)).trans (by first | rfl | decide +kernel)) ⟨rfl, ?_⟩)
  refine wpAny_loadName_free I.ok.kind hcl rfl ⟨_, KX _ _ hcell, rfl⟩ ?_
  refine wpAny_loadName_local I.ok.kind hloc hn hmu ?_
  refine PySem.ks_wpAny_isType_cls hD1 hD2 ⟨rfl, ?_⟩
  refine PySem.ks_wpAny_call_super hD1 hD2 J.at_ J.cls (fun c e => ?_) (PySem.W.looks_mroIn KX T.sub) (fun h' e k => ?_)
  · have := J.no
    unfold PySem.W.notCls at this
    rw [e] at this
    exact Bool.noConfusion this
  · have I1 := ClX.pin_new (t' := s.toks) I k (Nat.le_refl _) e (fun v z => by cases z)
    have hI : PySem.W.Looks (model P w) h' (isInstance (.ref a) (.type "ValueError")) true := by
      obtain ⟨t2, hg2⟩ := exo_at I1.hok hH
      have J2 : PySem.W.InstAt h' a { cls := .ref C, dict := none, data := .fields #[.ref t2, .none, .none, .none, .bool false, .none] } C none := ⟨hg2, rfl, rfl, trivial⟩
      exact J2.type.andThen (PySem.W.looks_subIn I1.kIn T.ve)
    refine PySem.W.kxs_getMethod PySem.W.kxs_ValueError (l₀ := cd.mro) (ClX.pin_at I1) (PySem.W.looks_opaque I1.kIn T.op) ?_ rfl I1.kIn hm hI hne (by decide) ?_
    · exact fun A Q E s k q => wpAny_bind ((PySem.W.looks_clsIn I1.kIn hc) A _ E s k (wpAny_pure q))
    · have I2 := ClX.pin_new (o := PySem.W.kxs_mw "ValueError.__init__" a) (a := h'.objs.size) (h' := h'.push (PySem.W.kxs_mw "ValueError.__init__" a)) (t' := s.toks + 1) I1 (fun _ _ z => Heap.get?_push_of_some _ z) (Nat.le_refl _) (Heap.get?_push_size h' rfl) (fun v z => nomatch z)
      rw [hst]
      refine PySem.W.kxs_callWith (i := "ValueError.__init__") (x := a) (by show (false || (backTo pos (starEach es _)).any (·.1)) = false; rw [hpl]; rfl) ?_
      refine Calls.evalArgs_plain ?_
      show wpAny _ _ (spliced (backTo pos ((false, eval _ (cxS CX P w K mg base N qual scope f cda cc A outer s0 H0 E0).env) :: starEach es (cxS CX P w K mg base N qual scope f cda cc A outer s0 H0 E0).env))) _ _ _
      rw [← hst]
      refine thn (ha.run pos _ _ σ H _ I2 q) fun us s3 ⟨vs, H2, I3, rv, hlen, hH2, q2⟩ => ⟨ClX.pin_at I3, ?_⟩
      have hlu : us.length ≤ sizeLine := by
        rw [← Paired.length rv, sizeLine_eq]; omega
      exact mw_call (ClX.pin_at I3) T.ox I3 hH2 hlu fun s4 I4 => ⟨σ, H2, ClX.unpin (ClX.unpin I4), q2⟩
end
end SL

set_option Elab.async false
set_option linter.all false
set_option maxRecDepth 100000
set_option maxHeartbeats 4000000
/-! S-layer 28: the __init__ of an own class over ValueError: super().__init__(text); self.f = x -/
namespace SL
open PySem L2 PyProof.Rows
/-- a text that is told of the second argument -/
def TxtOk (X : Cx) (e : Expr) (ok : V → Prop) : Prop := ∃ te, PE X e te ∧ ∀ (σ : L2.St) (H : Hp) (Q : VK) (v : V), σ[1]? = some (some v) → ok v → (∀ z, Q (.str z) H) → te σ H Q
theorem txt_str {X : Cx} {x : Str} {j : Nat} {pos : Pos} {ok : V → Prop} : TxtOk X (.Constant (.str x) j pos) ok := ⟨_, pe_str, fun _ _ _ _ _ _ h => h _⟩
def spX (P : Program) (K : PySem.W.Frag) (D : Addr) (f : Str) (ok : V → Prop) : Sp := fun vs H Q _ => ∃ a C v, vs = [.ref a, v] ∧ ok v ∧ H a = some (exo a C none) ∧ SupX P K C D ∧ PySem.W.findIn K (.ref C) f = some none ∧
  ∀ dx, H dx = none → dx ≠ a → Q .non (upd (upd H dx (exd dx [(f, v)])) a (exo a C (some dx)))
section
variable {P : Program} {w : World} {K : PySem.W.Frag} {mg : Str → Option Value} {base : Heap} {x qual : Str} {params : Arguments} {scope : Scope} {fI D cc cda : Addr} {fd : FuncData} {N : List Str} {k : Nat}
theorem fnX {CX : CXT} {s y f : Str} {e : Expr} {ok : V → Prop} {ag : Arg} {p0 p1 ap pos pos2 q0 q1 q2 q3 : Pos} {pl : Sem Bool}
    (F : FunS P K x qual params [.Expr (.Call (.Attribute (.Call (.Name "super" p0) [] [] p1) "__init__" ap) [e] [] pos) pos2, .Assign [.Attribute (.Name s q0) f q1] (.Name y q2) q3] scope D fI cc cda fd) (S : FnScopeS [s, y] [s, y] scope) (hms : mg "super" = none)
    (htx : ∀ (A : Around) (outer : List Env) (s0 : Shared) (H : Hp) (E : XK), TxtOk (cxS CX P w K mg base [s, y] qual scope fI cda cc A outer s0 H E) e ok)
    (hp : (params.posonlyargs ++ params.args).head? = some ag := by rfl) (har : ag.arg = s := by rfl) (hls : scope.names.lookup s = some .local := by rfl) (hly : scope.names.lookup y = some .local := by rfl)
    (hsp : scope.names.lookup ("super" : Str) = some .globalImplicit := by rfl) (hcl : scope.names.lookup ("__class__" : Str) = some .free := by rfl)
    (hds : (s == ("__debug__" : Str)) = false := by decide) (hcs : (s == ("__classdict__" : Str)) = false := by decide) (hdy : (y == ("__debug__" : Str)) = false := by decide) (hcy : (y == ("__classdict__" : Str)) = false := by decide)
    (hst : ∀ (A : Around) (outer : List Env) (s0 : Shared) (H : Hp) (E : XK), starEach [e] (cxS CX P w K mg base [s, y] qual scope fI cda cc A outer s0 H E).env = (false, eval e (cxS CX P w K mg base [s, y] qual scope fI cda cc A outer s0 H E).env) :: starEach [] (cxS CX P w K mg base [s, y] qual scope fI cda cc A outer s0 H E).env := by intros; rfl)
    (hev : ∀ (A : Around) (outer : List Env) (s0 : Shared) (H : Hp) (E : XK), eval (.Call (.Attribute (.Call (.Name "super" p0) [] [] p1) "__init__" ap) [e] [] pos) (cxS CX P w K mg base [s, y] qual scope fI cda cc A outer s0 H E).env = (do
      let ov ← attributeBase (.Call (.Name "super" p0) [] [] p1) "__init__" (cxS CX P w K mg base [s, y] qual scope fI cda cc A outer s0 H E).env (eval (.Call (.Name "super" p0) [] [] p1) (cxS CX P w K mg base [s, y] qual scope fI cda cc A outer s0 H E).env)
      standAt ap.atName
      let (g, first) ← holding [ov] (getMethod ov "__init__" pl)
      callWith pos g first (backTo pos (starEach [e] (cxS CX P w K mg base [s, y] qual scope fI cda cc A outer s0 H E).env)) []) := by intros; rfl)
    (hsw : ∀ (A : Around) (outer : List Env) (s0 : Shared) (H : Hp) (E : XK), swapsWith (.Call (.Attribute (.Call (.Name "super" p0) [] [] p1) "__init__" ap) [e] [] pos) none pos2.line (cxS CX P w K mg base [s, y] qual scope fI cda cc A outer s0 H E).env = pure false := by intros; rfl)
    (hs2 : ∀ (A : Around) (outer : List Env) (s0 : Shared) (H : Hp) (E : XK), swapsWith (.Name y q2) (some (.Attribute (.Name s q0) f q1)) q3.line (cxS CX P w K mg base [s, y] qual scope fI cda cc A outer s0 H E).env = pure false := by intros; rfl) :
    FnOk P w K mg base CX (k + 1) fI fd [s, y] (spX P K D f ok) := by
  refine F.ok S (fun vs H Q E h => ?_) (fun A outer s0 H vs Q E hr h => ?_)
  · obtain ⟨a, C, v, rfl, _⟩ := h
    rfl
  · obtain ⟨a, C, v, rfl, hok, hH, T, hno, q⟩ := h
    obtain ⟨te, pe, hte⟩ := htx A outer s0 H E
    have v0 : Vis (cxS CX P w K mg base [s, y] qual scope fI cda cc A outer s0 H E).env.scope s := .inl hls
    have v1 : Vis (cxS CX P w K mg base [s, y] qual scope fI cda cc A outer s0 H E).env.scope y := .inl hly
    refine ⟨tSeq (tSupX P K D (tCons te tNil)) (tOst K f (tVar 0) (tVar 1)),
      PSsAx.cons (psa_superX F hp (by show [s, y][0]? = some ag.arg; rw [har]; rfl) (by rw [har]; exact hls) hsp hcl hms (pa_cons pe pa_nil (hst A outer s0 H E)) (hst A outer s0 H E) rfl (hev A outer s0 H E) (hsw A outer s0 H E))
        (PSsAx.of (pss_one (ps_ost (pe_var (i := 0) rfl v0 hds hcs) (pe_var (i := 1) rfl v1 hdy hcy) (hs2 A outer s0 H E)))), ?_⟩
    have h0 : (L2.start [s, y] [V.ref a, v])[0]? = some (some (V.ref a)) := rfl
    have h1 : (L2.start [s, y] [V.ref a, v])[1]? = some (some v) := rfl
    refine ⟨a, C, h0, hH, T, hte _ _ _ v h1 hok fun z => ⟨by simp, hH, ?_⟩⟩
    exact ⟨v, h1, .ref a, h0, a, C, rfl, T.ox, hno, .inl ⟨hH, fun dx n ne => q dx n ne⟩⟩
end
end SL

set_option Elab.async false
set_option linter.all false
set_option maxRecDepth 100000
set_option maxHeartbeats 4000000
/-! S-layer 29: raise C(e), C an own class over ValueError -/
namespace SL
open PySem L2
/-- an own class that is made by the __init__ of its base and bears the field f -/
structure ExcOk (P : Program) (w : World) (K : PySem.W.Frag) (mg : Str → Option Value) (base : Heap) (k : Nat) (C f : Str) (ok : D → Bool) : Prop where
  ex : ∃ (D0 fI : Addr) (fd : FuncData) (ps : List Str) (okv : V → Prop), FnOk P w K mg base (L2.CX P w) k fI fd ps (spX P K D0 f okv) ∧ Binds K fd ps [] ∧ SupX P K (He.ga K C) D0 ∧ PySem.W.findIn K (.ref (He.ga K C)) f = some none ∧
    PySem.W.findIn K (.ref (He.ga K C)) "__init__" = some (some (.ref fI)) ∧ PySem.W.typeIn K (.ref fI) = some (.type "function") ∧ mg C = some (.ref (He.ga K C)) ∧ ∀ F d v, Rep K F d v → ok d = true → okv v
def rsM (C f : Str) (ok : D → Bool) (ts : List T) : So := fun ρ => match frzs ts with
  | some [d] => if ok d = true then some (.exc ⟨C, [f], [d]⟩, ρ) else none
  | _ => none
def sRaise (C f : Str) (ok : D → Bool) (n : Mo (List T)) : So := toS n (rsM C f ok)
theorem mk_heap {H : Hp} {a dx : Addr} {o1 o2 o3 o4 : HO} (ha : H a = none) (ne : dx ≠ a) : upd (del (upd (upd (upd H a o1) dx o2) a o3) a) dx o4 = upd H dx o4 := by
  funext b
  by_cases h : b = dx
  · subst h; rw [upd_same, upd_same]
  · rw [upd_ne h, upd_ne h]
    by_cases h2 : b = a
    · subst h2; rw [del_same, ha]
    · rw [del_ne h2, upd_ne h2, upd_ne h, upd_ne h2]
section
variable {X : Cx} {W : WX} {e : Expr} {es : List Expr} {pos pos2 p : Pos} {n : Mo (List T)} {C f : Str} {ok : D → Bool} {k : Nat}
theorem ss_raise (h : ExcOk X.prog X.w X.K X.mg X.base k C f ok) (hr : Room (k + 1) X.A) (hc : X.calm = true) (tk : Takes X W) (g : SA X W (e :: es) n) (hg : Gl X C := by rfl)
    (hdb : (C == ("__debug__" : Str)) = false := by decide) (he : starEach (e :: es) X.env = (false, eval e X.env) :: starEach es X.env := by rfl) (hpl : (backTo pos (starEach es X.env)).any (·.1) = false := by rfl) :
    SS X W (.Raise (some (.Call (.Name C p) (e :: es) [] pos)) none pos2) (sRaise C f ok n) := by
  obtain ⟨D0, fI, fd, ps, okv, F1, hb, TS, hno, iC, tI, hm, hok⟩ := h.ex
  obtain ⟨ta, q, z⟩ := g
  refine ⟨_, ps_raise hc tk (pmk_oex TS.ox iC tI F1 hr hb .nil passL hg hm q hdb he hpl), ?_⟩
  refine SndX.toS (tk := fun vs D σ H1 => vs.length ≤ 1000 ∧ ∀ a, H1 a = none → spX X.prog X.K D0 f okv (.ref a :: (vs ++ [])) (upd H1 a (exo a (He.ga X.K C) none))
    (fun v H2 => v = .non ∧ ∃ (d : Addr) (fs : List (Str × V)), H2 a = some (exo a (He.ga X.K C) (some d)) ∧ H2 d = some (exd d fs) ∧ H1 d = none ∧ W (.ref (He.ga X.K C)) (some d) σ (upd (del H2 a) d (.xd fs))) (fun _ _ _ => False)) z fun ts vs hlen G F H ρ σ us ws D fl ρ' j hl ht hm2 kk => ?_
  unfold rsM at hm2
  cases hf : frzs ts with
  | none => rw [hf] at hm2; cases hm2
  | some ds =>
    rw [hf] at hm2
    unfold frzs at hf
    by_cases hb2 : ts.any T.brw = true
    · rw [if_pos hb2] at hf; cases hf
    · rw [if_neg hb2] at hf
      cases hf
      rw [← List.append_assoc, ← List.append_assoc] at j
      obtain ⟨F2, x1, j1, r1⟩ := j.freezes (by simp [hl, ht]) (by simpa using hb2)
      have j2 := j1.pre (by simp [hl, ht])
      cases hds : ts.map T.fz with
      | nil => rw [hds] at hm2; cases hm2
      | cons d r =>
        rw [hds] at hm2 r1
        cases r with
        | cons _ _ => cases hm2
        | nil =>
          dsimp only at hm2
          by_cases ho : ok d = true
          · rw [if_pos ho] at hm2
            cases hm2
            unfold Reps at r1
            obtain ⟨v, r, rfl, r2, r3⟩ := r1
            unfold Reps at r3
            subst r3
            refine ⟨by simp, fun a ha => ⟨a, He.ga X.K C, v, rfl, hok F2 d v r2 ho, upd_same, TS, hno, fun dx hdx hne => ⟨rfl, dx, [(f, v)], upd_same, ?_, ?_, ?_⟩⟩⟩
            · rw [upd_ne hne, upd_same]
            · rw [upd_ne hne] at hdx; exact hdx
            · have hd2 : H dx = none := by rw [upd_ne hne] at hdx; exact hdx
              rw [mk_heap ha hne]
              refine kk _ _ σ (upd F2 dx (.xd [(f, v)])) (upd H dx (.xd [(f, v)])) (x1.trans (Ex.new (j2.ex.back hd2))) hl rfl (j2.frz hd2) ⟨rfl, rfl, fun _ => ⟨dx, [v], rfl, upd_same, ?_⟩⟩
              exact Reps.mono (Ex.new (j2.ex.back hd2)) [d] [v] (reps_cons r2 reps_nil)
          · rw [if_neg ho] at hm2; cases hm2
end
end SL

set_option Elab.async false
set_option linter.all false
set_option maxRecDepth 100000
set_option maxHeartbeats 4000000
/-! S-layer 30: methods and makings that let exceptions pass -/
namespace SL
open PySem L2
theorem takesD {P : Program} {w : World} {K : PySem.W.Frag} {mg : Str → Option Value} {base : Heap} {N : List Str} {qual : Str} {scope : Scope} {f : Addr} {cdv : Value} {A : Around} {outer : List Env} {s : Shared} {H : Hp} {E : XK} :
    Takes (cxOf (L2.CX P w) P w K mg base N qual scope f cdv A outer s H E) (fun c d _ H => E c d H) := takes_of rfl rfl rfl rfl
theorem takesS {P : Program} {w : World} {K : PySem.W.Frag} {mg : Str → Option Value} {base : Heap} {N : List Str} {qual : Str} {scope : Scope} {f cda cc : Addr} {A : Around} {outer : List Env} {s : Shared} {H : Hp} {E : XK} :
    Takes (cxS (L2.CX P w) P w K mg base N qual scope f cda cc A outer s H E) (fun c d _ H => E c d H) := takes_of rfl rfl rfl rfl
section
variable {X : Cx} {W : WX} {e o : Expr} {es : List Expr} {ma : Mo T} {pos p apos : Pos} {n : Mo (List T)} {K : PySem.W.Frag}
def tMethE (C : Addr) (m : Str) (sp : Sp) (dvs : List V) (E : L2.St → XK) (ta : TE) (t : TA) : TE := fun σ H Q => ta σ H fun x H1 => ∃ a dx fs, x = .ref a ∧ H1 a = some (.ins C dx fs) ∧ fs.lookup m = none ∧
  t σ H1 fun vs H2 => sp (x :: (vs ++ dvs)) H2 Q (E σ)
theorem pe_methE {CX : CXT} {k : Nat} {C f : Addr} {m : Str} {fd : FuncData} {ps : List Str} {sp : Sp} {dvs : List V} {ds : List Value} {E : L2.St → XK} {ta : TE} {t : TA} {pl : Sem Bool} (he : PE X o ta) (c : Cls X.K C) (hm : Meth X.K C m f) (F : FnOk X.prog X.w X.K X.mg X.base CX k f fd ps sp) (hr : Room k X.A) (hb : Binds X.K fd ps ds) (hd : Vals dvs ds) (hx : ∀ σ, PassesAt CX X σ (E σ)) (ha : PA X (e :: es) t)
    (hst : starEach (e :: es) X.env = (false, eval e X.env) :: starEach es X.env := by rfl) (hpl : (backTo pos (starEach es X.env)).any (·.1) = false := by rfl)
    (ht : eval (.Call (.Attribute o m apos) (e :: es) [] pos) X.env = (do
      let ov ← eval o X.env
      standAt apos.atName
      let (f, first) ← holding [ov] (getMethod ov m pl)
      callWith pos f first (backTo pos (starEach (e :: es) X.env)) (backToKw pos (keywordEach [] X.env))) := by rfl) :
    PE X (.Call (.Attribute o m apos) (e :: es) [] pos) (tMethE C m sp dvs E ta t) := by
  refine ⟨fun pins s σ H Q I h => ?_⟩
  refine PySem.W.methodCall_KW (pl := pl) (thn (he.run pins s σ H _ I h) fun u s1 ⟨x, H1, I1, rx, a, dx, fs, ex, ea, l, q⟩ => ?_) ht
  subst ex
  obtain rfl : u = Value.ref a := rx
  refine getmeth_ok I1 ea c hm l ?_
  refine PySem.W.callWith_K (first := [.ref a]) (h₀ := X.base) I.ok.mod.kin hm.kp (thn (ha.run pos pins s1 σ H1 _ I1 q) fun us s2 ⟨vs, H2, I2, r, q2⟩ => ⟨I2.kIn, ?_⟩) hst hpl
  exact run_fnSD (us := .ref a :: us) (vs := .ref a :: vs) F hr hb hd (hx σ) I2 (.cons rfl r) q2
def eMetX (C m : Str) (a : Nat) (f : FnD) (dds : List D) (mo : Mo T) (n : Mo (List T)) : Mo T := bnd mo fun t => bnd (chk C m t) fun t => bnd n fun ts => callM a f dds (t :: ts)
theorem se_metX {k : Nat} {C m : Str} {ar : Nat} {dds : List D} {f : FnD} {pl : Sem Bool} (h : MetOk X.prog X.w X.K X.mg X.base k C m ar dds f) (hr : Room k X.A) (tk : Takes X W) (ho : SE X W o ma) (g : SA X W (e :: es) n)
    (hst : starEach (e :: es) X.env = (false, eval e X.env) :: starEach es X.env := by rfl) (hpl : (backTo pos (starEach es X.env)).any (·.1) = false := by rfl)
    (ht : eval (.Call (.Attribute o m apos) (e :: es) [] pos) X.env = (do
      let ov ← eval o X.env
      standAt apos.atName
      let (f, first) ← holding [ov] (getMethod ov m pl)
      callWith pos f first (backTo pos (starEach (e :: es) X.env)) (backToKw pos (keywordEach [] X.env))) := by rfl) :
    SE X W (.Call (.Attribute o m apos) (e :: es) [] pos) (eMetX C m ar f dds ma n) := by
  obtain ⟨fa, fd, ps, dvs, ds, F, hc, hm, hb, hd, hr2⟩ := h.ex
  obtain ⟨to, q1, z1⟩ := ho
  obtain ⟨ta, q, z⟩ := g
  refine ⟨_, pe_methE q1 hc hm F hr hb hd (fun σ => passAt tk σ) q hst hpl ht, ?_⟩
  refine SndX.bnd (t2 := fun x σ H Q => ∃ a dx fs, x = .ref a ∧ H a = some (.ins (He.ga X.K C) dx fs) ∧ fs.lookup m = none ∧ ta σ H fun vs H2 => spD X.K ar f (x :: (vs ++ dvs)) H2 Q (WE W σ)) rfl z1 fun u x _ => ?_
  refine SndX.pre (t1 := fun σ H Q => ∃ a dx fs, x = .ref a ∧ H a = some (.ins (He.ga X.K C) dx fs) ∧ fs.lookup m = none ∧ Q x H) (t2 := fun y σ H Q => ta σ H fun vs H2 => spD X.K ar f (x :: (vs ++ dvs)) H2 Q (WE W σ)) rfl snd_chk fun u y hy => ?_
  subst hy
  refine SndX.bnd (L0 := [some u]) (M0 := [some y]) (t2 := fun vs σ H2 Q => spD X.K ar f (y :: (vs ++ dvs)) H2 Q (WE W σ)) rfl z fun us xs _ => ?_
  exact snd_callM hr2 (u :: us) (y :: xs)
/-! making -/
theorem run_makeE {CX : CXT} {k : Nat} {C f : Addr} {fd : FuncData} {ps : List Str} {sp : Sp} {dvs : List V} {ds : List Value} {E : L2.St → XK} {pins : List (Addr × Obj)} {σ : L2.St} {H : Hp} {s : Shared} {Q : VK} {us : List Value} {vs : List V} (M : Mk X.K C f) (F : FnOk X.prog X.w X.K X.mg X.base CX k f fd ps sp) (hr : Room (k + 1) X.A) (hb : Binds X.K fd ps ds) (hd : Vals dvs ds)
    (hx : PassesAt CX X σ (E σ)) (I : Inv X pins σ H s) (r : Vals vs us)
    (h : ∀ x dx, H x = none → H dx = none → dx ≠ x → sp (.ref x :: (vs ++ dvs)) (upd (upd H dx (.own x)) x (.ins C dx [])) (fun v H2 => v = .non ∧ Q (.ref x) H2) (E σ)) :
    wpAny (model X.prog X.w) X.A (call (.ref C) us) (EP X pins σ Q) X.xe s := by
  have hq := h (s.heap.objs.size + 1) s.heap.objs.size (I.hok.fresh (Nat.le_succ _)) (I.hok.fresh (Nat.le_refl _)) (Nat.ne_of_lt (Nat.lt_succ_self _))
  have I2 := Inv.made (C := C) I
  have r2 : Vals (V.ref (s.heap.objs.size + 1) :: (vs ++ dvs)) (Value.ref (s.heap.objs.size + 1) :: (us ++ ds)) := .cons rfl (r.append hd)
  have hl : (Value.ref (s.heap.objs.size + 1) :: us ++ ds).length = ps.length := by
    have e := r2.length
    rw [F.len _ _ _ _ hq] at e
    exact e.symm
  refine wpAny_call (make_map (f := f) I.kIn M.makes M.init (beq_iff_eq.mp M.fn) (codeAny_mono (F.run _ X.stack _ _ ⟨Value.ref (s.heap.objs.size + 1) :: us, []⟩ (Value.ref (s.heap.objs.size + 1) :: (us ++ ds)) _ _ (E σ) (hr.make C us [])
    (I2.env0.make C us []) (hb _ (Value.ref (s.heap.objs.size + 1) :: us) I2.kIn hl) r2 hq) fun r s' hq' => ?_))
  cases r with
  | error e => exact hx pins _ _ e s' I2 hq'
  | ok fl =>
    cases fl with
    | ret u =>
      obtain ⟨v, H', I3, rv, ev, q3⟩ := I2.after hq'
      subst ev
      exact ⟨rv, ⟨V.ref (s.heap.objs.size + 1), H', I3, rfl, q3⟩⟩
    | next => exact False.elim hq'
    | brk => exact False.elim hq'
    | cont => exact False.elim hq'
def tMakeE (C : Addr) (sp : Sp) (dvs : List V) (E : L2.St → XK) (t : TA) : TE := fun σ H Q => t σ H fun vs H1 => ∀ x dx, H1 x = none → H1 dx = none → dx ≠ x →
  sp (.ref x :: (vs ++ dvs)) (upd (upd H1 dx (.own x)) x (.ins C dx [])) (fun v H2 => v = .non ∧ Q (.ref x) H2) (E σ)
theorem pe_makeE {CX : CXT} {k : Nat} {C f : Addr} {x : Str} {fd : FuncData} {ps : List Str} {sp : Sp} {dvs : List V} {ds : List Value} {E : L2.St → XK} {t : TA} (M : Mk X.K C f) (F : FnOk X.prog X.w X.K X.mg X.base CX k f fd ps sp) (hr : Room (k + 1) X.A) (hg : Gl X x) (hm : X.mg x = some (.ref C)) (hb : Binds X.K fd ps ds) (hd : Vals dvs ds) (hx : ∀ σ, PassesAt CX X σ (E σ))
    (ha : PA X (e :: es) t) (hdb : (x == ("__debug__" : Str)) = false := by decide) (he : starEach (e :: es) X.env = (false, eval e X.env) :: starEach es X.env := by rfl) (hpl : (backTo pos (starEach es X.env)).any (·.1) = false := by rfl) :
    PE X (.Call (.Name x p) (e :: es) [] pos) (tMakeE C sp dvs E t) := by
  refine ⟨fun pins s σ H Q I h => ?_⟩
  refine wpAny_Call_Name_kw (ld_glob I hg hm ?_ hdb)
  refine PySem.W.callWith_K (h₀ := X.base) I.ok.mod.kin M.kp (thn (ha.run pos pins s σ H _ I h) fun us s1 ⟨vs, H1, I1, r, q⟩ => ⟨I1.kIn, ?_⟩) he hpl
  exact run_makeE M F hr hb hd (hx σ) I1 r q
def makMX (C : Str) (a : Nat) (f : FnB) (dds : List D) (ts : List T) : Mo T := match frzs ts with
  | none => nop
  | some ds => if (ds ++ dds).length = a then (match f (.ins true C [] []) (ds ++ dds) with
    | some (.ok .non, .ins true C' ns fs) => ret (.ins false C' ns fs)
    | some (.exc x, .ins true _ _ _) => fun ρ => some (.exc x, ρ)
    | _ => nop) else nop
theorem snd_makMX {C : Str} {k : Nat} {f : FnB} {dds : List D} {dvs : List V} (hd : ∀ F, Reps K F dds dvs) (ts : List T) (vs : List V) :
    SndX K W (ts.map some) (vs.map some) plT pmT (fun _ _ => True) (fun σ H Q => ∀ x dx, H x = none → H dx = none → dx ≠ x →
      spB K k f (.ref x :: (vs ++ dvs)) (upd (upd H dx (.own x)) x (.ins (He.ga K C) dx [])) (fun v H2 => v = .non ∧ Q (.ref x) H2) (WE W σ)) (makMX C k f dds ts) := by
  intro G F H ρ σ us ws Q r ρ' j hl ht hm kk x dx hx hdx hne
  unfold makMX at hm
  cases hf : frzs ts with
  | none => rw [hf] at hm; cases hm
  | some ds =>
    rw [hf] at hm
    simp only at hm
    by_cases ha : (ds ++ dds).length = k
    · rw [if_pos ha] at hm
      unfold frzs at hf
      by_cases hb : ts.any T.brw = true
      · rw [if_pos hb] at hf; cases hf
      · rw [if_neg hb] at hf
        cases hf
        rw [← List.append_assoc, ← List.append_assoc] at j
        obtain ⟨F1, x1, j1, r1⟩ := j.freezes (by simp [hl, ht]) (by simpa using hb)
        have j2 := j1.pre (by simp [hl, ht])
        cases hq : f (.ins true C [] []) (ts.map T.fz ++ dds) with
        | none => rw [hq] at hm; cases hm
        | some o =>
          obtain ⟨o1, t'⟩ := o
          rw [hq] at hm
          cases o1 with
          | exc xc =>
            cases t' with
            | dat d => cases hm
            | lst b xs => cases hm
            | ins b C' ns fs =>
              cases b with
              | false => cases hm
              | true =>
                cases hm
                have j3 : J K G (upd F1 dx (.own x)) (upd H dx (.own x)) (ρ ++ us) (σ ++ ws) := j2.frz hdx
                have hx2 : (upd H dx (.own x)) x = none := by rw [upd_ne (Ne.symm hne)]; exact hx
                have fx : (upd F1 dx (.own x)) x = none := j3.ex.back hx2
                have j4 := j3.heap (o := .ins (He.ga K C) dx []) hx2
                have eF : Ex F1 (upd F1 dx (.own x)) := Ex.new (j2.ex.back hdx)
                refine ⟨upd F1 dx (.own x), .ins true C [] [], .ref x, _, _, .exc xc, .ins true C' ns fs, rfl, j4.ex, ⟨x, dx, [], rfl, fx, by rw [upd_same]; rfl, rfl, reps_nil⟩, rfl, rfl, Reps.mono eF _ _ (r1.app (hd F1)), ha, hq, ?_⟩
                intro c dd F' H' e1 e2 e3 e4 hold rx
                refine kk c dd F' H' (x1.trans (eF.trans e1)) hl (j3.grow e1 (fun b o hbo => ?_) e3 (fun b o hbo => ?_)) rx
                · have hbx : b ≠ x := by rintro rfl; rw [hx2] at hbo; cases hbo
                  exact e2 b o (by rw [upd_ne hbx]; exact hbo) (by rintro z; cases z; exact hbx rfl)
                · rcases e4 b o hbo with z | z
                  · exact Or.inl z
                  · have hbx : b ≠ x := by rintro rfl; rw [upd_same] at z; cases z
                    rw [upd_ne hbx] at z
                    exact Or.inr z
          | ok d =>
            cases d with
            | non =>
              cases t' with
              | dat d => cases hm
              | lst b xs => cases hm
              | ins b C' ns fs =>
                cases b with
                | false => cases hm
                | true =>
                  cases hm
                  -- the dict cell is known data, the instance is new
                  have j3 : J K G (upd F1 dx (.own x)) (upd H dx (.own x)) (ρ ++ us) (σ ++ ws) := j2.frz hdx
                  have hx2 : (upd H dx (.own x)) x = none := by rw [upd_ne (Ne.symm hne)]; exact hx
                  have fx : (upd F1 dx (.own x)) x = none := j3.ex.back hx2
                  have j4 := j3.heap (o := .ins (He.ga K C) dx []) hx2
                  have eF : Ex F1 (upd F1 dx (.own x)) := Ex.new (j2.ex.back hdx)
                  refine ⟨upd F1 dx (.own x), .ins true C [] [], .ref x, _, _, .ok .non, .ins true C' ns fs, rfl, j4.ex, ⟨x, dx, [], rfl, fx, by rw [upd_same]; rfl, rfl, reps_nil⟩, rfl, rfl, Reps.mono eF _ _ (r1.app (hd F1)), ha, hq, ?_⟩
                  intro v F' H' e1 e2 e3 e4 hold rd
                  unfold Rep at rd
                  refine ⟨rd, kk (.ref x) F' H' (x1.trans (eF.trans e1)) hl trivial ?_⟩
                  -- back to the caller's slots: x left out of what is known
                  obtain ⟨a', dx', vs', q1, q2, q3, q4, q5⟩ := hold
                  cases q1
                  have jg : J K G F' (fun b => if b = x then none else H' b) (ρ ++ us) (σ ++ ws) := by
                    refine j3.grow e1 (fun b o hbo => ?_) (fun b o hbo => ?_) (fun b o hbo => ?_)
                    · have hbx : b ≠ x := by rintro rfl; rw [hx2] at hbo; cases hbo
                      show (if b = x then none else H' b) = some o
                      rw [if_neg hbx]
                      exact e2 b o (by rw [upd_ne hbx]; exact hbo) (by rintro z; cases z; exact hbx rfl)
                    · have hbx : b ≠ x := by rintro rfl; rw [q2] at hbo; cases hbo
                      show (if b = x then none else H' b) = some o
                      rw [if_neg hbx]
                      exact e3 b o hbo
                    · rcases e4 b o hbo with z | z
                      · exact Or.inl z
                      · have hbx : b ≠ x := by rintro rfl; rw [upd_same] at z; cases z
                        rw [upd_ne hbx] at z
                        exact Or.inr z
                  have hpush := jg.push (p := x) (o := .ins (He.ga K C') dx' (ns.zip vs')) (t := .ins false C' ns fs) (by simp) rfl rfl ⟨x, dx', vs', rfl, q2, upd_same, q4, q5⟩
                  have hH : upd (fun b => if b = x then none else H' b) x (.ins (He.ga K C') dx' (ns.zip vs')) = H' := by
                    funext b
                    by_cases hbx : b = x
                    · subst hbx; rw [upd_same, q3]
                    · rw [upd_ne hbx]; simp [hbx]
                  rw [hH] at hpush
                  rw [← List.append_assoc, ← List.append_assoc]
                  exact hpush
            | _ => cases hm
    · rw [if_neg ha] at hm; cases hm
def eMakX (C : Str) (a : Nat) (f : FnB) (dds : List D) (n : Mo (List T)) : Mo T := bnd n (makMX C a f dds)
theorem se_makX {k : Nat} {C : Str} {p : Pos} {ar : Nat} {dds : List D} {f : FnB} (h : MakOk X.prog X.w X.K X.mg X.base k C ar dds f) (hr : Room (k + 1) X.A) (tk : Takes X W) (g : SA X W (e :: es) n) (hg : Gl X C := by rfl)
    (hdb : (C == ("__debug__" : Str)) = false := by decide) (he : starEach (e :: es) X.env = (false, eval e X.env) :: starEach es X.env := by rfl) (hpl : (backTo pos (starEach es X.env)).any (·.1) = false := by rfl) :
    SE X W (.Call (.Name C p) (e :: es) [] pos) (eMakX C ar f dds n) := by
  obtain ⟨fa, fd, ps, dvs, ds, F, M, hm, hb, hd, hr2⟩ := h.ex
  obtain ⟨ta, q, z⟩ := g
  exact ⟨_, pe_makeE M F hr hg hm hb hd (fun σ => passAt tk σ) q hdb he hpl, SndX.bnd (t2 := fun (vs : List V) σ H (Q : VK) => ∀ x dx, H x = none → H dx = none → dx ≠ x → spB X.K ar f (.ref x :: (vs ++ dvs)) (upd (upd H dx (.own x)) x (.ins (He.ga X.K C) dx [])) (fun v H2 => v = .non ∧ Q (.ref x) H2) (WE W σ)) rfl z fun us xs _ => snd_makMX hr2 us xs⟩
end
end SL

set_option Elab.async false
set_option linter.all false
set_option maxRecDepth 100000
set_option maxHeartbeats 4000000
/-! S-layer 31: try .. except C as n -/
namespace SL
open PySem L2
def clrS (i : Nat) : Option (Fl × Sl) → Option (Fl × Sl)
  | some (.exc _, _) => none
  | some (fl, ρ) => some (fl, ρ.set i none)
  | none => none
open Classical in
/-- the suite, told the same wherever the exception lies -/
noncomputable def hRun (i : Nat) (h : Addr → Addr → So) (x : Xc) (ρ : Sl) : Option (Fl × Sl) := if e : ∃ R, ∀ a d, clrS i (h a d (ρ.set i (some (.dat (.exn a d x.ns x.ds))))) = R then e.choose else none
theorem hRun_eq {i : Nat} {h : Addr → Addr → So} {x : Xc} {ρ : Sl} {R : Option (Fl × Sl)} (e : ∀ a d, clrS i (h a d (ρ.set i (some (.dat (.exn a d x.ns x.ds))))) = R) : hRun i h x ρ = R := by
  unfold hRun
  have e' : ∃ R, ∀ a d, clrS i (h a d (ρ.set i (some (.dat (.exn a d x.ns x.ds))))) = R := ⟨R, e⟩
  rw [dif_pos e']
  exact (e'.choose_spec 0 0).symm.trans (e 0 0)
theorem hRun_at {i : Nat} {h : Addr → Addr → So} {x : Xc} {ρ : Sl} {q : Fl × Sl} (e : hRun i h x ρ = some q) (a d : Addr) : clrS i (h a d (ρ.set i (some (.dat (.exn a d x.ns x.ds))))) = some q := by
  unfold hRun at e
  by_cases e' : ∃ R, ∀ a d, clrS i (h a d (ρ.set i (some (.dat (.exn a d x.ns x.ds))))) = R
  · rw [dif_pos e'] at e
    rw [← e]
    exact e'.choose_spec a d
  · rw [dif_neg e'] at e; cases e
/-- C: the class that is caught, itself; no: other classes that are let pass -/
noncomputable def sTryAs (i : Nat) (C : Str) (no : List Str) (s : So) (h : Addr → Addr → So) : So := fun ρ => match s ρ with
  | some (.exc x, ρ') => if x.cls = C then (if x.ns ≠ [] ∧ i < ρ'.length then hRun i h x ρ' else none) else if no.contains x.cls = true then some (.exc x, ρ') else none
  | r => r
section
variable {K : PySem.W.Frag} {Wout : WX} {i : Nat} {C : Str} {no : List Str} {s : So} {h : Addr → Addr → So} {tb : WX → TS} {ts : Addr → Value → Option Addr → TS} {c : Value}
theorem snd_try (hb : ∀ W, SndS K W (tb W) s) (hh : ∀ a dd, SndS K W0 (ts a (.ref (He.ga K C)) (some dd)) (h a dd)) (hyes : PySem.W.exmOne K (.ref (He.ga K C)) c = some true) (hno : ∀ C' ∈ no, PySem.W.exmOne K (.ref (He.ga K C')) c = some false) :
    SndS K Wout (fun D σ H => tb (wAs K c i ts Wout D) D σ H) (sTryAs i C no s h) := by
  intro G F H ρ σ us ws D fl ρ' j hl ht hm k
  unfold sTryAs at hm
  cases e : s ρ with
  | none => rw [e] at hm; cases hm
  | some p =>
    obtain ⟨fl1, ρ1⟩ := p
    rw [e] at hm
    refine hb (wAs K c i ts Wout D) G F H ρ σ us ws D fl1 ρ1 j hl ht e ?_
    cases fl1 with
    | next => cases hm; exact k
    | brk => cases hm; exact k
    | cont => cases hm; exact k
    | ret t => cases hm; exact k
    | exc x =>
      dsimp only at hm
      intro cl d σ' F' H' e1 l1 l2 j1 rx
      obtain ⟨r1, r2, r3⟩ := rx
      by_cases hC : x.cls = C
      · rw [if_pos hC] at hm
        by_cases hn : x.ns ≠ [] ∧ i < ρ1.length
        · rw [if_pos hn] at hm
          obtain ⟨dd, vs, rfl, hF, rd⟩ := r3 hn.1
          subst r1
          rw [hC]
          refine ⟨true, hyes, fun _ a ha => ?_, nofun⟩
          have hc := hRun_at hm a dd
          have hi2 : i < σ'.length := by rw [l2, ← l1]; exact hn.2
          have j2 := (j1.dat (d := .exn a dd x.ns x.ds) (v := .ref a) (by unfold Rep; exact ⟨vs, rfl, hF, r2, rd⟩)).take (i := i) j1.len
          rw [List.set_append_left _ _ hn.2, List.set_append_left _ _ hi2] at j2
          cases e2 : h a dd (ρ1.set i (some (.dat (.exn a dd x.ns x.ds)))) with
          | none => rw [e2] at hc; cases hc
          | some p2 =>
            obtain ⟨fl2, ρ2⟩ := p2
            rw [e2] at hc
            refine hh a dd G F' H' _ _ us ws _ fl2 ρ2 j2 (by simp [l1, l2]) ht e2 ?_
            have off : ∀ {F2 H2 : Hp} {σ2 : L2.St} {X : Sl} {Y : L2.St}, ρ2.length = (σ'.set i (some (V.ref a))).length → σ2.length = (σ'.set i (some (V.ref a))).length → J K G F2 H2 (ρ2 ++ X) (σ2 ++ Y) →
                (ρ2.set i none).length = σ.length ∧ (σ2.set i none).length = σ.length ∧ J K G F2 H2 (ρ2.set i none ++ X) (σ2.set i none ++ Y) := fun {F2 H2 σ2 X Y} a1 a2 j3 => by
              rw [List.length_set] at a1 a2
              refine ⟨by rw [List.length_set, a1, l2], by rw [List.length_set, a2, l2], ?_⟩
              have j4 := j3.off (i := i) (w := none)
              rw [List.set_append_left _ _ (by rw [a1]; exact hi2), List.set_append_left _ _ (by rw [a2]; exact hi2)] at j4
              exact j4
            cases fl2 with
            | exc _ => cases hc
            | next =>
              cases hc
              intro σ2 F2 H2 e3 l3 l4 j3
              obtain ⟨b1, b2, b3⟩ := off l3 l4 j3
              exact k _ F2 H2 (e1.trans e3) b1 b2 b3
            | brk =>
              cases hc
              intro σ2 F2 H2 e3 l3 l4 j3
              obtain ⟨b1, b2, b3⟩ := off l3 l4 j3
              exact k _ F2 H2 (e1.trans e3) b1 b2 b3
            | cont =>
              cases hc
              intro σ2 F2 H2 e3 l3 l4 j3
              obtain ⟨b1, b2, b3⟩ := off l3 l4 j3
              exact k _ F2 H2 (e1.trans e3) b1 b2 b3
            | ret t =>
              cases hc
              intro v σ2 F2 H2 e3 l3 l4 j3
              obtain ⟨b1, b2, b3⟩ := off l3 l4 j3
              exact k v _ F2 H2 (e1.trans e3) b1 b2 b3
        · rw [if_neg hn] at hm; cases hm
      · rw [if_neg hC] at hm
        by_cases hcn : no.contains x.cls = true
        · rw [if_pos hcn] at hm
          cases hm
          refine ⟨false, by rw [r1]; exact hno x.cls (by simpa using hcn), nofun, fun _ => k cl d σ' F' H' e1 l1 l2 j1 ⟨r1, r2, r3⟩⟩
        · rw [if_neg hcn] at hm; cases hm
end
section
variable {X : Cx} {Wout : WX} {i : Nat} {C x n : Str} {no : List Str} {s : So} {h : Addr → Addr → So} {body suite : List Stmt} {b₀ : Stmt} {np pos pos' : Pos}
theorem ss_tryAs (hs : X.stack = X.env :: X.outer) (hf : X.env.frame = some X.env.locals) (hN : X.N.Nodup) (hi : X.N[i]? = some n) (hln : X.env.kindOf n = some .local) (hc : Names X x (.ref (He.ga X.K C))) (tk : Takes X Wout)
    (hyes : PySem.W.exmOne X.K (.ref (He.ga X.K C)) (.ref (He.ga X.K C)) = some true) (hno : ∀ C' ∈ no, PySem.W.exmOne X.K (.ref (He.ga X.K C')) (.ref (He.ga X.K C)) = some false)
    (hb : ∀ (W : WX) (pn : List (Addr × Obj)) (xe : Value → Shared → Prop), Takes (X.tr pn xe) W → PassesOwn (model X.prog X.w) X.A X.env xe → SSs (X.tr pn xe) W body s)
    (hsu : ∀ (a : Addr) (oe : Obj) (dd : Addr) (pn : List (Addr × Obj)), Zc (.ref (He.ga X.K C)) (some dd) oe → (∃ vs, oe.data = .fields vs) → SSs (X.suite a ((a, oe) :: pn)) W0 (b₀ :: suite) (h a dd)) :
    SS X Wout (.Try body [.ExceptHandler (some (.Name x np)) (some n) (b₀ :: suite) pos'] [] [] pos) (sTryAs i C no s h) := by
  let tb : WX → TS := fun W D σ H => ∀ (pn : List (Addr × Obj)) (xe : Value → Shared → Prop) (t1 : Takes (X.tr pn xe) W) (p1 : PassesOwn (model X.prog X.w) X.A X.env xe), (hb W pn xe t1 p1).choose D σ H
  let ts : Addr → Value → Option Addr → TS := fun a cls d D σ H => ∃ dd, cls = .ref (He.ga X.K C) ∧ d = some dd ∧ ∀ (oe : Obj) (pn : List (Addr × Obj)) (z : Zc (.ref (He.ga X.K C)) (some dd) oe) (f : ∃ vs, oe.data = .fields vs), (hsu a oe dd pn z f).choose D σ H
  refine ⟨_, ps_try_as (tb := tb) (ts := ts) hs hf hN hi hln hc tk (fun W pn xe t1 p1 => ⟨fun pins s σ H D I q => ?_⟩) (fun a oe cls d pn z f => ⟨fun pins s σ H D I q => ?_⟩), snd_try (fun W => ?_) (fun a dd => ?_) hyes hno⟩
  · exact (hb W pn xe t1 p1).choose_spec.1.run pins s σ H D I (q pn xe t1 p1)
  · obtain ⟨dd, rfl, rfl, q⟩ := q
    exact (hsu a oe dd pn z f).choose_spec.1.run pins s σ H D I (q oe pn z f)
  · intro G F H ρ σ us ws D fl ρ' j hl ht hm k pn xe t1 p1
    exact (hb W pn xe t1 p1).choose_spec.2 G F H ρ σ us ws D fl ρ' j hl ht hm k
  · intro G F H ρ σ us ws D fl ρ' j hl ht hm k
    exact ⟨dd, rfl, rfl, fun oe pn z f => (hsu a oe dd pn z f).choose_spec.2 G F H ρ σ us ws D fl ρ' j hl ht hm k⟩
/-- n.f in the suite -/
def eXf (a d : Addr) (f : Str) (m : Mo T) : Mo T := bnd m fun t => opM (one fun u => match u with
  | .exn a' d' ns fs => if a' = a ∧ d' = d then (idxOf f ns fs).map .dt else none
  | _ => none) [t]
theorem se_xf {W : WX} {a dd : Addr} {oe : Obj} {pn : List (Addr × Obj)} {e : Expr} {m : Mo T} {f : Str} {pos : Pos} (T : XfC X.K (He.ga X.K C)) (hno : PySem.W.findIn X.K (.ref (He.ga X.K C)) f = some none) (hz : Zc (.ref (He.ga X.K C)) (some dd) oe) (hf : ∃ vs, oe.data = .fields vs)
    (he : SE (X.suite a ((a, oe) :: pn)) W e m) (hb : attributeBase e f X.env (eval e X.env) = eval e X.env := by rfl) : SE (X.suite a ((a, oe) :: pn)) W (.Attribute e f pos) (eXf a dd f m) := by
  obtain ⟨te, p, z⟩ := he
  refine ⟨_, pe_xf T hno hz hf p hb, SndX.bnd (t2 := fun x σ H Q => x = .ref a ∧ Value.ref (He.ga X.K C) = .ref (He.ga X.K C) ∧ ∃ (d' : Addr) (fs : List (Str × V)) (v : V), some dd = some d' ∧ H d' = some (.xd fs) ∧ fs.lookup f = some v ∧ Q v H) rfl z fun t x _ => ?_⟩
  refine snd_out (f := one fun u => match u with
    | .exn a' d' ns fs => if a' = a ∧ d' = dd then (idxOf f ns fs).map .dt else none
    | _ => none) [t] [x] fun F H σ Q ds o e rd hf q => ?_
  obtain ⟨d, rfl, r1⟩ := reps1 rd
  unfold one at hf
  cases d with
  | exn a' d' ns fs =>
    simp only at hf
    by_cases c : a' = a ∧ d' = dd
    · rw [if_pos c] at hf
      obtain ⟨rfl, rfl⟩ := c
      cases hi : idxOf f ns fs with
      | none => rw [hi] at hf; cases hf
      | some y =>
        rw [hi] at hf
        cases hf
        unfold Rep at r1
        obtain ⟨vs, rfl, h1, h2, h3⟩ := r1
        obtain ⟨v, hv, rv⟩ := idx_rep hi h3
        exact ⟨rfl, rfl, d', _, v, rfl, e _ _ h1, hv, q.val e rv⟩
    · rw [if_neg c] at hf; cases hf
  | _ => cases hf
end
end SL

set_option Elab.async false
set_option linter.all false
set_option maxRecDepth 100000
set_option maxHeartbeats 4000000
/-! S-layer 32: isinstance(n, C2) in the suite, n a caught exception with fields -/
namespace SL
open PySem L2
def rIsX (K : PySem.W.Frag) (D a dd : Addr) : List V → Hp → VK → Prop := fun xs H Q => ∃ (c : V) (cv : Value) (b : Bool) (fs : List (Str × V)), xs = [.ref a, c] ∧ (∀ u, RelV c u → u = cv) ∧ PySem.W.kitOne K (.ref D) cv = some b ∧ H dd = some (.xd fs) ∧ Q (.bl b) H
theorem call_isX {X : Cx} {a D dd : Addr} {oe : Obj} {pn : List (Addr × Obj)} (C : ExcC X.K D) (hc : (PySem.W.clsIn X.K D).isSome = true) (hz : Zc (.ref D) (some dd) oe) (hf : ∃ vs, oe.data = .fields vs) : CallR (X.suite a ((a, oe) :: pn)) (.builtin "isinstance") (rIsX X.K D a dd) := by
  intro pins s σ H xs us Q I r h
  obtain ⟨c, cv, b, fs, rfl, hcv, e, ea, q⟩ := h
  cases r with
  | cons rx rr =>
    cases rr with
    | cons rt rr =>
      cases rr
      cases rx
      have ec := hcv _ rt
      subst ec
      obtain ⟨hget, _⟩ := I.pin (a, oe) (List.mem_append.mpr (.inl List.mem_cons_self))
      obtain ⟨vs, hv⟩ := hf
      have hx : ObjOk X.prog X.w H s.heap dd (.xd fs) := I.hok dd _ ea
      obtain ⟨mA, hns, hr⟩ := hx
      obtain ⟨od, ho, hl⟩ := lookIn_ns hns
      have J : PySem.W.InstAt s.heap a oe D (some od) := ⟨hget, hz.1, by unfold PySem.W.notCls; rw [hv] <;> rfl, by rw [hz.2]; exact ho⟩
      exact PySem.W.kia_one (PySem.W.kitx_exc hc C.hg C.hk C.hs C.ha C.hn C.ht C.hm) I.kIn J e (fun z => nomatch z) fun tk => ⟨.bl b, H, I.kept (t' := tk) fun _ _ z => z, rfl, q⟩
def isXF (b : Bool) (a dd : Addr) (u : D) : Option Out := match u with
  | .exn a' d' _ _ => if a' = a ∧ d' = dd then some (.dt (.bl b)) else none
  | _ => none
theorem se_isX {X : Cx} {W : WX} {C C2 : Str} {b : Bool} {a dd : Addr} {oe : Obj} {pn : List (Addr × Obj)} {e : Expr} {m : Mo T} {p p2 pos : Pos} (c : ExcC X.K (He.ga X.K C)) (hc : (PySem.W.clsIn X.K (He.ga X.K C)).isSome = true) (hk : PySem.W.kitOne X.K (.ref (He.ga X.K C)) (.ref (He.ga X.K C2)) = some b)
    (hz : Zc (.ref (He.ga X.K C)) (some dd) oe) (hf : ∃ vs, oe.data = .fields vs) (ha : SE (X.suite a ((a, oe) :: pn)) W e m) (hm : X.mg "isinstance" = none) (hC : X.mg C2 = some (.ref (He.ga X.K C2))) (hg : Gl X "isinstance" := by rfl) (hg2 : Gl X C2 := by rfl)
    (hd : (C2 == ("__debug__" : Str)) = false := by decide) (he : starEach [e, .Name C2 p2] X.env = (false, eval e X.env) :: starEach [.Name C2 p2] X.env := by rfl) (he2 : starEach [.Name C2 p2] X.env = (false, eval (.Name C2 p2) X.env) :: starEach [] X.env := by rfl)
    (hpl : (backTo pos (starEach [.Name C2 p2] X.env)).any (·.1) = false := by rfl) : SE (X.suite a ((a, oe) :: pn)) W (.Call (.Name "isinstance" p) [e, .Name C2 p2] [] pos) (una (isXF b a dd) m) := by
  obtain ⟨te, q1, z1⟩ := ha
  have hg' : Gl (X.suite a ((a, oe) :: pn)) "isinstance" := hg
  have hg2' : Gl (X.suite a ((a, oe) :: pn)) C2 := hg2
  refine ⟨_, pe_callB (call_isX c hc hz hf) hg' hm PyProof.Rows.boot_isinstance (pa_cons q1 (pa_cons (pe_glob (v := .ref (He.ga X.K C2)) hg2' hC rfl hd) pa_nil he2) he) (by decide) (by decide) he hpl, ?_⟩
  refine SndX.bnd (t2 := fun x σ H Q => rIsX X.K (He.ga X.K C) a dd [x, .ref (He.ga X.K C2)] H Q) rfl z1 fun t x _ => ?_
  refine snd_out (f := one (isXF b a dd)) [t] [x] fun F H σ Q ds o ex rd hf q => ?_
  obtain ⟨d, rfl, r1⟩ := reps1 rd
  have hf' : isXF b a dd d = some o := hf
  unfold isXF at hf'
  cases d with
  | exn a' d' ns fs =>
    dsimp only at hf'
    by_cases h : a' = a ∧ d' = dd
    · rw [if_pos h] at hf'
      obtain ⟨rfl, rfl⟩ := h
      cases hf'
      unfold Rep at r1
      obtain ⟨vs, rfl, h1, h2, h3⟩ := r1
      exact ⟨.ref (He.ga X.K C2), _, b, _, rfl, fun u r => r, hk, ex _ _ h1, q.bl ex⟩
    · rw [if_neg h] at hf'; cases hf'
  | _ => cases hf'
end SL

set_option Elab.async false
set_option linter.all false
set_option maxRecDepth 100000
set_option maxHeartbeats 4000000
/-! S-layer 33: the head's facts of own classes over ValueError -/
namespace SL
open PySem PySem.Spec PyProof.Rows L2
def oexB (K : PySem.W.Frag) (C : Addr) : Bool := (match K.lookup C with
    | some ⟨.type "type", _, .cls cd, sl⟩ => (match cd.mro, sl.toList with
      | .ref C' :: bm, [_, _, _, _, some (.builtin n), _] => C' == C && n == "ValueError.__new__" && !cd.hasDel && cd.hasDict && PySem.HandSPX.refsVE bm
      | _, _ => false)
    | _ => false) && (decide (PySem.W.findIn K (.ref C) "__setattr__" = some (some (.builtin "object.__setattr__"))) && (decide (PySem.W.subIn K (.ref C) (.type "BaseException") = some true) && (decide (PySem.W.typeIn K (.ref C) = some (.type "type")) && PySem.W.keepIn K (.ref C))))
theorem oex_of {K : PySem.W.Frag} {C : Addr} (h : oexB K C = true) : OexC K C := by
  unfold oexB at h
  obtain ⟨q, h⟩ := He.ba h
  obtain ⟨h1, h⟩ := He.ba h
  obtain ⟨h2, h⟩ := He.ba h
  obtain ⟨h3, h4⟩ := He.ba h
  refine ⟨?_, of_decide_eq_true h1, of_decide_eq_true h2, of_decide_eq_true h3, h4⟩
  clear h1 h2 h3 h4 h
  split at q
  · rename_i dd cd sl ho
    split at q
    · rename_i C' bm k0 k1 k2 k3 n k5 hm hs
      simp only [Bool.and_eq_true, beq_iff_eq, Bool.not_eq_true'] at q
      obtain ⟨⟨⟨⟨rfl, rfl⟩, hdel⟩, hdict⟩, ht⟩ := q
      obtain ⟨nm, bs, mro, ns, qn, hd, sn, sub, ab, col, del⟩ := cd
      dsimp only at hm hdel hdict
      subst hm hdel hdict
      have hsl : sl = #[k0, k1, k2, k3, some (.builtin "ValueError.__new__"), k5] := by
        obtain ⟨l⟩ := sl
        simp only at hs
        rw [hs]
      subst hsl
      exact ⟨nm, qn, ns, bs, bm, sn, sub, ab, col, dd, k0, k1, k2, k3, k5, ho, ht⟩
    · cases q
  · cases q
/-- C bears f; its __init__ is that of the class B, behind which ValueError's comes -/
def pExc (C f B : Str) : Ft := fun K => oexB K (He.ga K C) && (eqB (PySem.W.mroIn K (He.ga K C) (.ref (He.ga K B))) (some true) && (He.eqO (PySem.W.nsIn K cStatics "thirdparty.any") (some none) &&
  (He.eqO (PySem.W.ks_superIn K (He.ga K C) (He.ga K B) "__init__") (some (some (.builtin "ValueError.__init__"))) && (eqB (PySem.W.subIn K (.ref (He.ga K C)) (.type "ValueError")) (some true) &&
  (He.eqO (PySem.W.findIn K (.ref (He.ga K C)) f) (some none) && (He.eqO (PySem.W.findIn K (.ref (He.ga K C)) "__init__") (some (some (.ref (He.ma K (He.ga K B) "__init__")))) && decide (PySem.W.typeIn K (.ref (He.ma K (He.ga K B) "__init__")) = some (.type "function"))))))))
theorem excOk_of {P : Program} {w : World} {K : PySem.W.Frag} {mg : Str → Option Value} {base : Heap} {k : Nat} {C f B : Str} {ok : D → Bool} {okv : V → Prop} {fd : FuncData} {ps : List Str} (c : pExc C f B K = true) (ht : (P.main.scope.names.lookup ("super" : Str)).isSome = false)
    (F : FnOk P w K mg base (L2.CX P w) k (He.ma K (He.ga K B) "__init__") fd ps (spX P K (He.ga K B) f okv)) (hb : Binds K fd ps []) (hm : mg C = some (.ref (He.ga K C))) (hok : ∀ F d v, Rep K F d v → ok d = true → okv v) : ExcOk P w K mg base k C f ok := by
  obtain ⟨h1, h⟩ := He.ba c
  obtain ⟨h2, h⟩ := He.ba h
  obtain ⟨h3, h⟩ := He.ba h
  obtain ⟨h4, h⟩ := He.ba h
  obtain ⟨h5, h⟩ := He.ba h
  obtain ⟨h6, h⟩ := He.ba h
  obtain ⟨h7, h8⟩ := He.ba h
  exact ⟨_, _, _, _, _, F, hb, ⟨ht, eqB_ok h2, He.eqO_ok h3, He.eqO_ok h4, eqB_ok h5, oex_of h1⟩, He.eqO_ok h6, He.eqO_ok h7, of_decide_eq_true h8, hm, hok⟩
/-- what is read of a caught C: the field f -/
def pXf (C f : Str) : Ft := fun K => xfB K (He.ga K C) && He.eqO (PySem.W.findIn K (.ref (He.ga K C)) f) (some none)
theorem xf_of {K : PySem.W.Frag} {C f : Str} (c : pXf C f K = true) : XfC K (He.ga K C) ∧ PySem.W.findIn K (.ref (He.ga K C)) f = some none := let ⟨h1, h2⟩ := He.ba c; ⟨xfB_ok h1, He.eqO_ok h2⟩
/-- whether an exception of C' is caught by 'except C' -/
def pExm (C' C : Str) (b : Bool) : Ft := fun K => eqB (PySem.W.exmOne K (.ref (He.ga K C')) (.ref (He.ga K C))) (some b)
theorem exm_of {K : PySem.W.Frag} {C' C : Str} {b : Bool} (c : pExm C' C b K = true) : PySem.W.exmOne K (.ref (He.ga K C')) (.ref (He.ga K C)) = some b := eqB_ok c
/-- isinstance asked of a caught C -/
def pExcC (C : Str) : Ft := fun K => (PySem.W.clsIn K (He.ga K C)).isSome && (He.eqO (PySem.W.findIn K (.ref (He.ga K C)) "__getattribute__") (some (some (.builtin "BaseException.__getattribute__"))) && (He.eqO (PySem.W.findIn K (.ref (He.ga K C)) "__getattr__") (some none) &&
  (eqB (PySem.W.subIn K (.ref (He.ga K C)) (.type "BaseException")) (some true) && (PySem.W.hasDictIn K (He.ga K C) && (He.eqO (PySem.W.findIn K (.ref (He.ga K C)) "__class__") (some (some (.builtin "object.__class__"))) &&
  (He.eqO (PySem.W.specialIn K (.builtin "object.__class__") "__get__") (some (some (.builtin "getset_descriptor.__get__"))) && (eqB (PySem.W.takesIn K (.builtin "object.__class__")) (some true) && eqB (PySem.W.mroIn K (He.ga K C) (.type "object")) (some true))))))))
theorem excC_of {K : PySem.W.Frag} {C : Str} (c : pExcC C K = true) : (PySem.W.clsIn K (He.ga K C)).isSome = true ∧ ExcC K (He.ga K C) := by
  obtain ⟨h1, h⟩ := He.ba c
  obtain ⟨h2, h⟩ := He.ba h
  obtain ⟨h3, h⟩ := He.ba h
  obtain ⟨h4, h⟩ := He.ba h
  obtain ⟨h5, h⟩ := He.ba h
  obtain ⟨h6, h⟩ := He.ba h
  obtain ⟨h7, h⟩ := He.ba h
  obtain ⟨h8, h9⟩ := He.ba h
  exact ⟨h1, ⟨He.eqO_ok h2, He.eqO_ok h3, eqB_ok h4, h5, He.eqO_ok h6, He.eqO_ok h7, eqB_ok h8, eqB_ok h9⟩⟩
end SL

set_option Elab.async false
set_option linter.all false
set_option maxRecDepth 100000
set_option maxHeartbeats 4000000
/-! S-layer 34: x.m(..), the instance of slot i lent to its method -/
namespace SL
open PySem L2 PyProof.Rows
def eMetB (C m : Str) (k : Nat) (f : FnB) (i : Nat) (n : Mo (List T)) : Mo T := fun ρ => match ρ[i]? with
  | some (some (SL.T.ins _ C' ns _)) => if C' = C ∧ ns.contains m = false then eCallB k f i n ρ else none
  | _ => none
theorem snd_metB {K : PySem.W.Frag} {W : WX} {ta : TA} {n : Mo (List T)} {ar i : Nat} {g : FnB} {C m : Str} (z : SndA K W ta n) :
    SndE K W (tMeth (He.ga K C) m (spB K ar g) [] E0 (tVar i) ta) (eMetB C m ar g i n) := by
  intro G F H ρ σ us ws Q r ρ' j hl ht hm k
  have j' := j
  simp only [List.append_nil] at j'
  unfold eMetB at hm
  cases e0 : ρ[i]? with
  | none => rw [e0] at hm; cases hm
  | some o =>
    cases o with
    | none => rw [e0] at hm; cases hm
    | some t0 =>
      cases t0 with
      | dat _ => rw [e0] at hm; cases hm
      | lst _ _ => rw [e0] at hm; cases hm
      | ins b C' ns xs =>
        rw [e0] at hm
        dsimp only at hm
        by_cases hC : C' = C ∧ ns.contains m = false
        · rw [if_pos hC] at hm
          obtain ⟨rfl, hnm⟩ := hC
          have hi := (List.getElem?_eq_some_iff.mp e0).1
          obtain ⟨v, hv, hold, _⟩ := j'.ok i (.ins b C' ns xs) (by rw [List.getElem?_append_left hi]; exact e0)
          obtain ⟨a, dx, vs, rfl, _, hH, _, _⟩ := hold
          have hs : σ[i]? = some (some (V.ref a)) := by rw [List.getElem?_append_left (by rw [← hl]; exact hi)] at hv; exact hv
          obtain ⟨v, h1, h2⟩ := snd_callB (i := i) (ar := ar) (g := g) z G F H ρ σ us ws Q r ρ' j hl ht hm k
          rw [hs] at h1; cases h1
          exact ⟨_, hs, a, dx, _, rfl, hH, zip_none hnm, h2⟩
        · rw [if_neg hC] at hm; cases hm
/-- a method whose self is lent -/
structure MetB (P : Program) (w : World) (K : PySem.W.Frag) (mg : Str → Option Value) (base : Heap) (k : Nat) (C m : Str) (a : Nat) (f : FnB) : Prop where
  ex : ∃ fa fd ps, FnOk P w K mg base (L2.CX P w) k fa fd ps (spB K a f) ∧ Cls K (He.ga K C) ∧ Meth K (He.ga K C) m fa ∧ Binds K fd ps []
section
variable {X : Cx} {W : WX} {e : Expr} {es : List Expr} {pos xp apos : Pos} {n : Mo (List T)} {C m x : Str} {i ar k : Nat} {f : FnB} {pl : Sem Bool}
theorem se_metB0 (h : MetB X.prog X.w X.K X.mg X.base k C m ar f) (hr : Room k X.A) (hN : X.N[i]? = some x) (hv : Vis X.env.scope x) (hd : (x == ("__debug__" : Str)) = false := by decide) (hcd : (x == ("__classdict__" : Str)) = false := by decide)
    (ht : eval (.Call (.Attribute (.Name x xp) m apos) [] [] pos) X.env = (do
      let ov ← eval (.Name x xp) X.env
      standAt apos.atName
      let (f, first) ← holding [ov] (getMethod ov m pl)
      callWith pos f first (backTo pos (starEach [] X.env)) (backToKw pos (keywordEach [] X.env))) := by rfl) :
    SE X W (.Call (.Attribute (.Name x xp) m apos) [] [] pos) (eMetB C m ar f i (ret [])) := by
  obtain ⟨fa, fd, ps, F, hc, hm, hb⟩ := h.ex
  refine ⟨_, pe_meth0 (pe_var hN hv hd hcd) hc hm F hr hb .nil passL ht, snd_metB fun G F H ρ σ us ws Q r ρ' j hl ht hm k => ?_⟩
  cases hm
  exact k [] F H Ex.rfl hl rfl j
end
end SL

set_option Elab.async false
set_option linter.all false
set_option maxRecDepth 100000
set_option maxHeartbeats 4000000
/-! S-layer 35: x.index(e), the list of slot i; names of classes caught; isinstance facts -/
namespace SL
open PySem PySem.Spec L2
def okT : D → Bool := fun _ => true
def idxD (d : D) : List D → Option Nat
  | [] => none
  | e :: xs => if eqFl e d = true then some 0 else (idxD d xs).map (· + 1)
def idxF (x y : D) : Option Out := match x with
  | .lst xs => if flatD y = true ∧ xs.all flatD = true ∧ xs.length ≤ 100000 then (idxD y xs).map fun j => .dt (.int (j : Nat)) else none
  | _ => none
theorem idx_at {K : PySem.W.Frag} {F : Hp} {d : D} {v : V} (h : flatD d = true) (r : Rep K F d v) : ∀ {xs : List D} {vs : List V} {j : Nat}, xs.all flatD = true → Reps K F xs vs → idxD d xs = some j →
    vs.all flatV = true ∧ ∃ z, vs[j]? = some z ∧ eqV z v = true ∧ ∀ m z', m < j → vs[m]? = some z' → eqV z' v = false
  | [], vs, j, g, s, e => by cases e
  | x :: xs, vs, j, g, s, e => by
    unfold Reps at s
    obtain ⟨u, ur, rfl, s1, s2⟩ := s
    rw [List.all_cons, Bool.and_eq_true] at g
    have g2 : ur.all flatV = true := (in_rep h r g.2 s2).1
    have eu : eqV u v = eqFl x d := eqFl_rep g.1 h s1 r
    unfold idxD at e
    refine ⟨by rw [List.all_cons, flat_rep g.1 s1, g2]; rfl, ?_⟩
    by_cases c : eqFl x d = true
    · rw [if_pos c] at e
      cases e
      exact ⟨u, rfl, eu.trans c, fun m z' hm => absurd hm (Nat.not_lt_zero _)⟩
    · rw [if_neg c] at e
      cases e1 : idxD d xs with
      | none => rw [e1] at e; cases e
      | some k =>
        rw [e1] at e
        cases e
        obtain ⟨_, z, h1, h2, h3⟩ := idx_at h r g.2 s2 e1
        refine ⟨z, h1, h2, fun m z' hm hz => ?_⟩
        cases m with
        | zero => cases hz; exact eu.trans (by simpa using c)
        | succ m => exact h3 m z' (Nat.lt_of_succ_lt_succ hm) hz
def isLstD : D → Bool
  | .lst _ => true
  | _ => false
def sIdx (i : Nat) (mb : Mo T) : Mo T := fun ρ => match atS i ρ with
  | some t => if isLstD t.fz = true then s2M idxF i mb ρ else none
  | none => none
theorem sv_idx {K : PySem.W.Frag} : ∀ F H Q x y d u o, Ex F H → SV K F H d x → Rep K F u y → idxF d u = some o → OutOk K F H Q o → rIndex K x [y] H Q := by
  intro F H Q x y d u o ex s r hf q
  unfold idxF at hf
  cases d with
  | lst xs =>
    dsimp only at hf
    by_cases c : flatD u = true ∧ xs.all flatD = true ∧ xs.length ≤ 100000
    · rw [if_pos c] at hf
      obtain ⟨a, vs, rfl, h1, h2⟩ := s
      cases e : idxD u xs with
      | none => rw [e] at hf; cases hf
      | some j =>
        rw [e] at hf
        cases hf
        obtain ⟨g1, z, g2, g3, g4⟩ := idx_at c.1 r c.2.1 h2 e
        exact ⟨a, vs, y, j, z, rfl, rfl, SqL.of h1, flat_rep c.1 r, g1, g2, g3, g4, q.val ex rep_int⟩
    · rw [if_neg c] at hf; cases hf
  | _ => cases hf
theorem snd_idx {K : PySem.W.Frag} {W : WX} {i : Nat} {mb : Mo T} {tb : TE} (z : SndE K W tb mb) : SndE K W (tBM K "list" (rIndex K) (tVar i) (tCons tb tNil)) (sIdx i mb) := by
  intro G F H ρ σ us ws Q r1 ρ' j hl ht hm k
  have j0 := j
  simp only [List.append_nil] at j
  unfold sIdx at hm
  cases e : atS i ρ with
  | none => rw [e] at hm; cases hm
  | some t =>
    rw [e] at hm
    dsimp only at hm
    by_cases c : isLstD t.fz = true
    · rw [if_pos c] at hm
      obtain ⟨v, h1, h2, _⟩ := j.slot hl e
      obtain ⟨v', g1, g2⟩ := snd_s2 (r := fun x y H Q => rIndex K x [y] H Q) z sv_idx G F H ρ σ us ws Q r1 ρ' j0 hl ht hm k
      rw [h1] at g1; cases g1
      refine ⟨v, h1, ?_, g2⟩
      have sv := SV.hold j.ex h2
      cases ed : t.fz with
      | lst xs =>
        rw [ed] at sv
        obtain ⟨a, vs, rfl, h3, _⟩ := sv
        exact .inl ⟨rfl, vs, SqL.of h3⟩
      | _ => rw [ed] at c; cases c
    · rw [if_neg c] at hm; cases hm
section
variable {X : Cx} {W : WX} {e : Expr} {mb : Mo T} {cpos apos px : Pos}
theorem se_idxS {i : Nat} {x : Str} (hb : SE X W e mb) (hN : X.N[i]? = some x := by rfl) (hv : Vis X.env.scope x := by first | exact Or.inl rfl | exact Or.inr (Or.inl rfl) | exact Or.inr (Or.inr rfl)) (hd : (x == ("__debug__" : Str)) = false := by decide) (hcd : (x == ("__classdict__" : Str)) = false := by decide)
    (hbase : attributeBase (.Name x px) "index" X.env (eval (.Name x px) X.env) = eval (.Name x px) X.env := by rfl)
    (hfew : ((backTo cpos (starEach (e :: []) X.env)).all (fun x => !x.1) && (backToKw cpos (keywordEach [] X.env)).all (fun x => x.1.isSome)
      && decide ((e :: []).length + ([] : List Keyword).length + (if ([] : List Keyword).isEmpty then 0 else 1) < 30)) = true := by rfl)
    (hline : (apos.endLine == cpos.line) = true := by rfl) (hst : starEach (e :: []) X.env = (false, eval e X.env) :: starEach [] X.env := by rfl) (hplain : (backTo cpos (starEach [] X.env)).any (·.1) = false := by rfl) :
    SE X W (.Call (.Attribute (.Name x px) "index" apos) [e] [] cpos) (sIdx i mb) := by
  obtain ⟨te, p, z⟩ := hb
  exact ⟨_, pe_bm PySem.F.plainAttrs_list PySem.F.slot_list_index PySem.F.type_list_index mt_index (pe_var hN hv hd hcd) (pa_cons p pa_nil hst) hbase hfew hline hst hplain, snd_idx z⟩
end
/-! isinstance between two own classes -/
def pKit (C' C : Str) (b : Bool) : Ft := fun K => eqB (PySem.W.kitOne K (.ref (He.ga K C')) (.ref (He.ga K C))) (some b)
theorem kit_of {K : PySem.W.Frag} {C' C : Str} {b : Bool} (c : pKit C' C b K = true) : PySem.W.kitOne K (.ref (He.ga K C')) (.ref (He.ga K C)) = some b := eqB_ok c
end SL

set_option Elab.async false
set_option linter.all false
set_option maxRecDepth 100000
set_option maxHeartbeats 4000000
/-! S-layer 36: texts of f-strings in own exceptions; {}; instances that are called and static methods that let exceptions pass -/
namespace SL
open PySem PySem.Spec L2 PyProof.Rows
/-- what an f-string takes: short texts, ints -/
def okS : D → Bool
  | .str s => decide (s.length ≤ 1000)
  | .int i => decide (i.natAbs.log2 < 1920)
  | _ => false
def okSV : V → Prop
  | .str s => s.length ≤ 1000
  | .int i => i.natAbs.log2 < 1920
  | _ => False
theorem okS_rep {K : PySem.W.Frag} (F : Hp) (d : D) (v : V) (r : Rep K F d v) (h : okS d = true) : okSV v := by
  cases d with
  | str s =>
    unfold Rep at r
    subst r
    have h : decide (s.length ≤ 1000) = true := h
    show s.length ≤ 1000
    exact of_decide_eq_true h
  | int i =>
    unfold Rep at r
    subst r
    have h : decide (i.natAbs.log2 < 1920) = true := h
    show i.natAbs.log2 < 1920
    exact of_decide_eq_true h
  | _ => cases h
theorem app_len (a b : Str) : (a ++ b).length = a.length + b.length := by
  show (a.cps ++ b.cps).size = a.cps.size + b.cps.size
  exact Array.size_append
theorem int_len {i : Int} (h : i.natAbs.log2 < 1920) : (Str.ofString (toString i)).length ≤ 2000 := by
  rw [PySem.ofString_length]
  have hb : i.natAbs < 2 ^ 1920 := by
    rcases Nat.eq_zero_or_pos i.natAbs with z | z
    · rw [z]; exact Nat.two_pow_pos _
    · exact Nat.lt_of_lt_of_le Nat.lt_log2_self (Nat.pow_le_pow_right (by decide) h)
  have h10 : i.natAbs < 10 ^ 1920 := Nat.lt_of_lt_of_le hb (Nat.pow_le_pow_left (by decide) _)
  have hd : (Nat.toDigits 10 i.natAbs).length ≤ 1920 := (Nat.length_toDigits_le_iff (by decide) (by decide)).mpr h10
  have hr : ∀ n : Nat, (Nat.repr n).length = (Nat.toDigits 10 n).length := fun n => by simp [Nat.repr]
  cases i with
  | ofNat n =>
    show (Nat.repr n).length ≤ 2000
    rw [hr]
    exact Nat.le_trans hd (by decide)
  | negSucc n =>
    show ("-" ++ Nat.repr (n + 1)).length ≤ 2000
    rw [String.length_append, hr]
    have : (Nat.toDigits 10 (n + 1)).length ≤ 1920 := hd
    have e1 : ("-" : String).length = 1 := rfl
    omega
def TxP (X : Cx) (e : Expr) (ok : V → Prop) : Prop := ∃ te, PE X e te ∧ ∀ (σ : L2.St) (H : Hp) (Q : VK) (v : V), σ[1]? = some (some v) → ok v → (∀ z : Str, z.length ≤ 2000 → Q (.str z) H) → te σ H Q
def TxPs (X : Cx) (es : List Expr) (ok : V → Prop) : Prop := ∃ ts, PJ X es ts ∧ ∀ (σ : L2.St) (H : Hp) (Q : Str → Hp → Prop) (v : V) (acc : Str), σ[1]? = some (some v) → ok v → acc.length + 2000 * es.length ≤ 100000 → (∀ z : Str, Q z H) → tJs ts acc σ H Q
section
variable {X : Cx} {e : Expr} {es : List Expr} {ok : V → Prop} {pos p : Pos}
theorem txp_str {x : Str} {j : Nat} (h : x.length ≤ 2000) : TxP X (.Constant (.str x) j pos) ok := ⟨_, pe_str, fun _ _ _ _ _ _ q => q _ h⟩
theorem txp_var {y : Str} (hN : X.N[1]? = some y) (hv : Vis X.env.scope y) (hd : (y == ("__debug__" : Str)) = false := by decide) (hcd : (y == ("__classdict__" : Str)) = false := by decide) : TxP X (.FormattedValue (.Name y p) (-1) none pos) okSV := by
  refine ⟨_, pe_fmt (pe_var (i := 1) hN hv hd hcd), fun σ H Q v h1 hok q => ⟨v, h1, ?_⟩⟩
  cases v with
  | str s => exact .inl ⟨s, rfl, by unfold okSV at hok; exact Nat.le_trans hok (by decide), q _ (Nat.le_trans hok (by decide))⟩
  | int i => exact .inr ⟨i, rfl, hok, q _ (int_len hok)⟩
  | _ => cases hok
theorem txps_nil : TxPs X [] ok := ⟨_, .nil, fun σ H Q v acc _ _ _ q => q acc⟩
theorem txps_cons (h : TxP X e ok) (g : TxPs X es ok) : TxPs X (e :: es) ok := by
  obtain ⟨t, p, h⟩ := h
  obtain ⟨ts, q, g⟩ := g
  refine ⟨_, .cons p q, fun σ H Q v acc h1 hok hl hq => ?_⟩
  simp only [List.length_cons] at hl
  exact h σ H _ v h1 hok fun z hz => ⟨z, rfl, by rw [app_len]; exact big_line (by omega), g σ H Q v (acc ++ z) h1 hok (by rw [app_len]; omega) hq⟩
theorem txt_js {v1 v2 : Expr} {rest : List Expr} (h : TxPs X (v1 :: v2 :: rest) ok) (hl : 2000 * (v1 :: v2 :: rest).length ≤ 100000 := by decide) : TxtOk X (.JoinedStr (v1 :: v2 :: rest) pos) ok := by
  obtain ⟨ts, p, h⟩ := h
  exact ⟨_, pe_joined p, fun σ H Q v h1 hok q => h σ H _ v Str.empty h1 hok (by show 0 + _ ≤ _; omega) fun z => q z⟩
end
/-! {} -/
def eDic0 : Mo T := fun ρ => some (.ok (.dat (.dic [] [])), ρ)
theorem se_dic0 {X : Cx} {W : WX} {pos : Pos} : SE X W (.Dict [] [] pos) eDic0 := by
  refine ⟨_, pe_dnewK, fun G F H ρ σ us ws Q r ρ' j hl ht hm k => ?_⟩
  cases hm
  intro p hp
  simp only [List.append_nil] at j
  refine k (.ref p) (upd F p (.dK [])) (upd H p (.dK [])) (Ex.new (j.ex.back hp)) hl trivial ?_
  have j2 := (j.frz (o := .dK []) hp).dat (d := .dic [] []) (v := .ref p) (by unfold Rep; exact ⟨p, [], rfl, upd_same, rfl, reps_nil⟩)
  rw [List.append_assoc, List.append_assoc] at j2
  exact j2
/-! calls that let exceptions pass -/
section
variable {X : Cx} {W : WX} {e fe : Expr} {es : List Expr} {ma : Mo T} {n : Mo (List T)} {pos : Pos}
theorem pe_callOS {CX : CXT} {k : Nat} {C g : Addr} {fd : FuncData} {ps : List Str} {sp : Sp} {E : L2.St → XK} {tf : TE} {t : TA} (hf : PE X fe tf) (c : StX.CallO X.K C g) (F : FnOk X.prog X.w X.K X.mg X.base CX k g fd ps sp) (hb : Binds X.K fd ps []) (hr : Room k X.A) (hx : ∀ σ, PassesAt CX X σ (E σ)) (ha : PA X (e :: es) t)
    (ht : eval (.Call fe (e :: es) [] pos) X.env = (do callWith pos (← eval fe X.env) [] (backTo pos (starEach (e :: es) X.env)) (backToKw pos (keywordEach [] X.env))) := by rfl)
    (he : starEach (e :: es) X.env = (false, eval e X.env) :: starEach es X.env := by rfl) (hpl : (backTo pos (starEach es X.env)).any (·.1) = false := by rfl) : PE X (.Call fe (e :: es) [] pos) (fun σ H Q => StX.tCallO X C sp (E σ) tf t σ H Q) := by
  refine ⟨fun pins s σ H Q I h => PyProof.Rows.Call_ (thn (hf.run pins s σ H _ I h) fun u s1 ⟨y, H1, I1, ry, a, ey, q⟩ => ?_) ht⟩
  subst ey
  obtain rfl : u = Value.ref a := ry
  refine StX.callO_with (thn (ha.run pos pins s1 σ H1 _ I1 q) fun us s2 ⟨vs, H2, I2, r, hi, q2⟩ => ?_) he hpl
  obtain ⟨ox, od, J, hd⟩ := StX.insC_at I2 hi
  refine ⟨⟨C, ox, od, J, hd⟩, ?_⟩
  have rv : Vals (V.ref a :: vs) (Value.ref a :: us) := .cons (show RelV (V.ref a) (Value.ref a) from rfl) r
  have hl : (Value.ref a :: us).length = ps.length := by
    have e := rv.length
    rw [F.len _ _ _ _ q2] at e
    exact e.symm
  have bb := hb s2 (Value.ref a :: us) I2.kIn (by rw [List.append_nil]; exact hl)
  rw [List.append_nil] at bb
  refine wpAny_call (PySem.W.kco_code I2.kIn J hd c.at_ c.fn c.fi (codeAny_mono (F.run _ X.stack _ _ ⟨Value.ref a :: us, []⟩ (Value.ref a :: us) (V.ref a :: vs) _ (E σ) hr I2.env0 bb rv q2) fun r s' hq => ?_))
  cases r with
  | error e => exact hx σ pins H2 s2 e s' I2 hq
  | ok fl =>
    cases fl with
    | ret u => exact I2.after hq
    | next => exact False.elim hq
    | brk => exact False.elim hq
    | cont => exact False.elim hq
structure CalX (P : Program) (w : World) (K : PySem.W.Frag) (mg : Str → Option Value) (base : Heap) (k : Nat) (C : Str) (a : Nat) (f : FnD) : Prop where
  ex : ∃ fa fd ps, FnOk P w K mg base (L2.CX P w) k fa fd ps (spD K a f) ∧ Binds K fd ps [] ∧ StX.CallO K (He.ga K C) fa
def calMX (C : Str) (a : Nat) (f : FnD) (ts : List T) : Mo T := match frzs ts with
  | none => nop
  | some ds => if hdObj C ds = true then callM a f [] ts else nop
def eCalX (C : Str) (a : Nat) (f : FnD) (mo : Mo T) (n : Mo (List T)) : Mo T := bnd mo fun t => bnd (refM t) fun t => bnd n fun ts => calMX C a f (t :: ts)
theorem snd_calMX {C : Str} {k : Nat} {f : FnD} (ts : List T) (x : V) (vs : List V) :
    SndX X.K W (ts.map some) ((x :: vs).map some) plT pmT (fun _ _ => True) (fun σ H Q => StX.InsC X H (adr x) (He.ga X.K C) ∧ spD X.K k f (.ref (adr x) :: vs) H Q (WE W σ)) (calMX C k f ts) := by
  intro G F H ρ σ us ws Q r ρ' j hl ht hm kk
  unfold calMX at hm
  cases hf : frzs ts with
  | none => rw [hf] at hm; cases hm
  | some ds =>
    rw [hf] at hm
    dsimp only at hm
    by_cases c : hdObj C ds = true
    · rw [if_pos c] at hm
      have key : x = .ref (adr x) ∧ StX.InsC X H (adr x) (He.ga X.K C) := by
        unfold frzs at hf
        by_cases hb : ts.any T.brw = true
        · rw [if_pos hb] at hf; cases hf
        · rw [if_neg hb] at hf
          cases hf
          have j' := j
          rw [← List.append_assoc, ← List.append_assoc] at j'
          obtain ⟨F1, x1, j1, r1⟩ := j'.freezes (by simp [hl, ht]) (by simpa using hb)
          have e := j1.ex
          cases ts with
          | nil => cases c
          | cons t ts =>
            rw [List.map_cons] at r1 c
            unfold Reps at r1
            obtain ⟨v, vr, e1, r2, _⟩ := r1
            cases e1
            cases hz : t.fz with
            | obj C' ns fs =>
              rw [hz] at c r2
              obtain rfl : C' = C := by simpa [hdObj] using c
              unfold Rep at r2
              obtain ⟨b, dx, ws', eb, h1, _⟩ := r2
              subst eb
              exact ⟨rfl, .inr ⟨dx, _, e _ _ h1⟩⟩
            | _ => rw [hz] at c; cases c
      refine ⟨key.2, ?_⟩
      have z := snd_callM (K := X.K) (W := W) (k := k) (f := f) (dds := []) (dvs := []) (fun _ => reps_nil) ts (x :: vs) G F H ρ σ us ws Q r ρ' j hl ht hm kk
      rw [List.append_nil] at z
      rw [← key.1]
      exact z
    · rw [if_neg c] at hm; cases hm
theorem se_calX {k : Nat} {C : Str} {ar : Nat} {f : FnD} (h : CalX X.prog X.w X.K X.mg X.base k C ar f) (hr : Room k X.A) (tk : Takes X W) (ho : SE X W fe ma) (g : SA X W (e :: es) n)
    (ht : eval (.Call fe (e :: es) [] pos) X.env = (do callWith pos (← eval fe X.env) [] (backTo pos (starEach (e :: es) X.env)) (backToKw pos (keywordEach [] X.env))) := by rfl)
    (he : starEach (e :: es) X.env = (false, eval e X.env) :: starEach es X.env := by rfl) (hpl : (backTo pos (starEach es X.env)).any (·.1) = false := by rfl) : SE X W (.Call fe (e :: es) [] pos) (eCalX C ar f ma n) := by
  obtain ⟨fa, fd, ps, F, hb, co⟩ := h.ex
  obtain ⟨to, q1, z1⟩ := ho
  obtain ⟨ta, q, z⟩ := g
  refine ⟨_, pe_callOS q1 co F hb hr (fun σ => passAt tk σ) q ht he hpl, ?_⟩
  refine SndX.bnd (t2 := fun x σ H Q => ∃ a, x = V.ref a ∧ ta σ H fun vs H2 => StX.InsC X H2 a (He.ga X.K C) ∧ spD X.K ar f (V.ref a :: vs) H2 Q (WE W σ)) rfl z1 fun u x _ => ?_
  have q : SndX X.K W [some u] [some x] plT pmT (fun _ _ => True) (fun σ H Q => ∃ a, x = .ref a ∧ ta σ H fun vs H2 => StX.InsC X H2 (adr x) (He.ga X.K C) ∧ spD X.K ar f (.ref (adr x) :: vs) H2 Q (WE W σ)) (bnd (refM u) fun t => bnd n fun ts => calMX C ar f (t :: ts)) := by
    refine SndX.pre (t1 := fun σ H Q => ∃ a, x = .ref a ∧ Q x H) (t2 := fun y σ H Q => ta σ H fun vs H2 => StX.InsC X H2 (adr x) (He.ga X.K C) ∧ spD X.K ar f (.ref (adr x) :: vs) H2 Q (WE W σ)) rfl snd_refM fun u y hy => ?_
    subst hy
    refine SndX.bnd (L0 := [some u]) (M0 := [some y]) (t2 := fun vs σ H2 Q => StX.InsC X H2 (adr y) (He.ga X.K C) ∧ spD X.K ar f (.ref (adr y) :: vs) H2 Q (WE W σ)) rfl z fun us xs _ => ?_
    exact snd_calMX (u :: us) y xs
  refine q.cg fun σ H Q ⟨a, e1, e2⟩ => ⟨a, e1, ?_⟩
  subst e1
  exact e2
theorem pe_smethS {CX : CXT} {k : Nat} {C p g : Addr} {m x : Str} {fd : FuncData} {ps : List Str} {sp : Sp} {t : TA} {px apos : Pos} {pl : Sem Bool} {E : L2.St → XK} (hg : Gl X x) (hm : X.mg x = some (.ref C)) (c : SMet X.K C m p g) (F : FnOk X.prog X.w X.K X.mg X.base CX k g fd ps sp) (hr : Room k X.A) (hb : Binds X.K fd ps []) (hx : ∀ σ, PassesAt CX X σ (E σ)) (ha : PA X (e :: es) t)
    (hdb : (x == ("__debug__" : Str)) = false := by decide) (hst : starEach (e :: es) X.env = (false, eval e X.env) :: starEach es X.env := by rfl) (hpl : (backTo pos (starEach es X.env)).any (·.1) = false := by rfl)
    (ht : eval (.Call (.Attribute (.Name x px) m apos) (e :: es) [] pos) X.env = (do
      let ov ← eval (.Name x px) X.env
      standAt apos.atName
      let (f, first) ← holding [ov] (getMethod ov m pl)
      callWith pos f first (backTo pos (starEach (e :: es) X.env)) (backToKw pos (keywordEach [] X.env))) := by rfl) :
    PE X (.Call (.Attribute (.Name x px) m apos) (e :: es) [] pos) (fun σ H Q => t σ H fun vs H2 => sp (vs ++ []) H2 Q (E σ)) := by
  refine ⟨fun pins s σ H Q I h => ?_⟩
  obtain ⟨rest, hp⟩ := c.rc
  refine PySem.W.methodCall_KW (pl := pl) (ld_glob I hg hm ?_ hdb) ht
  refine PySem.W.method_cls I.kIn c.rd.ga (PySem.W.cls_bind I.kIn c.rd.rd c.at_ ?_)
  refine wpAny_call (PySem.W.sm_get (s := { s with toks := s.toks + 1 }) I.kIn hp (PySem.W.handed_on rfl ?_))
  have I1 : Inv X pins σ H { s with toks := s.toks + 1 } := I.tok _
  refine PySem.W.callWith_K (h₀ := X.base) (first := []) I.ok.mod.kin c.kp (thn (ha.run pos pins _ σ H _ I1 h) fun us s1 ⟨vs, H1, I2, r, q⟩ => ⟨I2.kIn, ?_⟩) hst hpl
  have q : sp (vs ++ []) H1 Q (E σ) := q
  rw [List.append_nil] at q
  exact run_fnS F hr hb (hx σ) I2 r q
theorem se_smethX {k : Nat} {C m : Str} {px apos : Pos} {ar : Nat} {f : FnD} {pl : Sem Bool} (h : SmOk X.prog X.w X.K X.mg X.base k C m ar f) (hr : Room k X.A) (tk : Takes X W) (g : SA X W (e :: es) n) (hg : Gl X C := by rfl)
    (hdb : (C == ("__debug__" : Str)) = false := by decide) (hst : starEach (e :: es) X.env = (false, eval e X.env) :: starEach es X.env := by rfl) (hpl : (backTo pos (starEach es X.env)).any (·.1) = false := by rfl)
    (ht : eval (.Call (.Attribute (.Name C px) m apos) (e :: es) [] pos) X.env = (do
      let ov ← eval (.Name C px) X.env
      standAt apos.atName
      let (f, first) ← holding [ov] (getMethod ov m pl)
      callWith pos f first (backTo pos (starEach (e :: es) X.env)) (backToKw pos (keywordEach [] X.env))) := by rfl) :
    SE X W (.Call (.Attribute (.Name C px) m apos) (e :: es) [] pos) (eCall ar f [] n) := by
  obtain ⟨p, ga, fd, ps, c, F, hb, hm⟩ := h.ex
  obtain ⟨ta, q, z⟩ := g
  exact ⟨_, pe_smethS hg hm c F hr hb (fun σ => passAt tk σ) q hdb hst hpl ht, SndX.bnd (t2 := fun vs σ H Q => spD X.K ar f (vs ++ []) H Q (WE W σ)) rfl z fun us xs _ => snd_callM (fun _ => reps_nil) us xs⟩
end
end SL

set_option Elab.async false
set_option linter.all false
set_option maxRecDepth 100000
set_option maxHeartbeats 0
namespace NF
open PySem PySem.Spec L2 SL
noncomputable section
def cs_head : List Str := ["Table"]
def cs_loop : List Str := ["Table"]
def cs_rise : List Str := ["Table"]
def cs0 : List Str := ["Table"]
def k_MOST_SHIFT : D := .int 5000
def b_is_integer : So :=
  sRet (eAnd (una (isTF cs0 "int") (eVar 0)) (eNot (una (isTF cs0 "bool") (eVar 0))))
def f_is_integer : FnD := bodyD 0 b_is_integer
def b_is_count : So :=
  sRet (eAnd (eCall0 1 f_is_integer [] (aCons (eVar 0) (ret []))) (bin geF (eVar 0) (eC (.int 0))))
def f_is_count : FnD := bodyD 0 b_is_count
def b_end_of : So :=
  sSeq (sAsgP (.tp [.nm 1, .nm 2, .nm 3]) (eVar 0))
  (sSeq (sIf (cOr (tst (bin eqF (s1M lenF 2) (eC (.int 0)))) (tst (bin gtF (eVar 3) (eC (.int 0))))) (sRet (eC .non)) (sNext))
  (sRet (s2M ixF 2 (una negF (eC (.int 1))))))
def f_end_of : FnD := bodyD 3 b_end_of
def b_value_at : So :=
  sSeq (sAsgP (.tp [.nm 2, .nm 3, .nm 4]) (eVar 0))
  (sSeq (sIf (tst (bin isNF (eVar 1) (eC .non))) (sRet (eCall0 1 f_end_of [] (aCons (eVar 0) (ret [])))) (sNext))
  (sSeq (sIf (tst (bin eqF (eVar 1) (eC (.int 0)))) (sRet (eC (.int 0))) (sNext))
  (sSeq (sIf (tst (bin leF (eVar 1) (s1M lenF 2))) (sRet (s2M ixF 2 (bin subF (eVar 1) (eC (.int 1))))) (sNext))
  (sSeq (sIf (tst (bin eqF (s1M lenF 3) (eC (.int 0)))) (sRet (eC .non)) (sNext))
  (sSeq (sAsg 5 (bin subF (bin subF (eVar 1) (s1M lenF 2)) (eC (.int 1))))
  (sRet (bin addF (s2M ixF 3 (bin modF (eVar 5) (s1M lenF 3))) (bin mulF (eVar 4) (bin divF (eVar 5) (s1M lenF 3))))))))))
def f_value_at : FnD := bodyD 4 b_value_at
def b_Table___call__ : So :=
  sSeq (sIf (cAnd (tst (bin notNF (eVar 1) (eC .non))) (cNot (tst (eCall0 1 f_is_count [] (aCons (eVar 1) (ret [])))))) (sRaise "BadCount" "thing" okT (aCons (eVar 1) (ret []))) (sNext))
  (sRet (eCall0 2 f_value_at [] (aCons (eTup (aCons (s1M (fun d => fldM cs_head "head" [d]) 0) (aCons (s1M (fun d => fldM cs_loop "loop" [d]) 0) (aCons (s1M (fun d => fldM cs_rise "rise" [d]) 0) (ret []))))) (aCons (eVar 1) (ret [])))))
def f_Table___call__ : FnD := bodyD 0 b_Table___call__
def b__law_is_integer : So :=
  sRet (eAnd (una (isTF cs0 "int") (eVar 0)) (eNot (una (isTF cs0 "bool") (eVar 0))))
def f__law_is_integer : FnD := bodyD 0 b__law_is_integer
def b__law_is_count : So :=
  sRet (eAnd (eCall0 1 f__law_is_integer [] (aCons (eVar 0) (ret []))) (bin geF (eVar 0) (eC (.int 0))))
def f__law_is_count : FnD := bodyD 0 b__law_is_count
def b__law_good : So :=
  sSeq (sIf (cOr (cNot (tst (una (isTLF cs0) (eVar 0)))) (cNot (tst (eB allF (aCons (eLc (iSeq (eVar 0)) (.nm 1) (ret true) (eCall0 1 f__law_is_count [] (aCons (eVar 1) (ret [])))) (ret [])))))) (sRet (eC (.bl false))) (sNext))
  (sRet (eB allF (aCons (eLc (iOf rng1 (aCons (bin subF (s1M lenF 0) (eC (.int 1))) (ret []))) (.nm 2) (ret true) (bin leF (s2M ixF 0 (eVar 2)) (s2M ixF 0 (bin addF (eVar 2) (eC (.int 1)))))) (ret []))))
def f__law_good : FnD := bodyD 2 b__law_good
def b__law_due : So :=
  sSeq (sIf (cNot (tst (eCall0 1 f__law_good [] (aCons (eVar 0) (ret []))))) (sRet (eC (.str "head"))) (sNext))
  (sSeq (sIf (cOr (cNot (tst (eCall0 1 f__law_good [] (aCons (eVar 1) (ret []))))) (cAnd (tst (bin gtF (s1M lenF 0) (eC (.int 0)))) (cAnd (tst (bin gtF (s1M lenF 1) (eC (.int 0)))) (tst (bin ltF (s2M ixF 1 (eC (.int 0))) (s2M ixF 0 (una negF (eC (.int 1))))))))) (sRet (eC (.str "loop"))) (sNext))
  (sSeq (sIf (cOr (cNot (tst (eCall0 1 f__law_is_count [] (aCons (eVar 2) (ret []))))) (cAnd (tst (bin eqF (s1M lenF 1) (eC (.int 0)))) (tst (bin neF (eVar 2) (eC (.int 0)))))) (sRet (eC (.str "rise"))) (sNext))
  (sSeq (sIf (cAnd (tst (bin gtF (s1M lenF 1) (eC (.int 0)))) (tst (bin ltF (bin addF (s2M ixF 1 (eC (.int 0))) (eVar 2)) (s2M ixF 1 (una negF (eC (.int 1))))))) (sRet (eC (.str "rise"))) (sNext))
  (sRet (eC .non)))))
def f__law_due : FnD := bodyD 0 b__law_due
def b__law_pick : So :=
  sSeq (sIf (tst (bin gtF (s2M ixF 0 (eC (.int 0))) (eC (.int 0)))) (sSeq (sAsg 2 (bin modF (eB intF (aCons (s2M ixF 0 (eC (.int 0))) (ret []))) (eVar 1)))
  (sSeq (sSetI 0 (bin divF (s2M ixF 0 (eC (.int 0))) (eVar 1)) (eC (.int 0)))
  (sRet (eVar 2)))) (sNext))
  (sSeq (sSetI 0 (bin addF (s2M ixF 0 (eC (.int 2))) (eC (.int 1))) (eC (.int 2)))
  (sSeq (sAsg 3 (bin modF (eB intF (aCons (bin mulF (bin addF (s2M ixF 0 (eC (.int 1))) (bin mulF (eC (.int 104729)) (s2M ixF 0 (eC (.int 2))))) (eC (.int 48271))) (ret []))) (eC (.int 2147483647))))
  (sSeq (sAsg 3 (bin modF (eB intF (aCons (bin addF (bin addF (bin mulF (eVar 3) (eVar 3)) (bin mulF (eC (.int 7)) (s2M ixF 0 (eC (.int 2))))) (s2M ixF 0 (eC (.int 1)))) (ret []))) (eC (.int 2147483629))))
  (sSeq (sAsg 3 (bin modF (eB intF (aCons (bin addF (bin mulF (eVar 3) (eC (.int 69621))) (eC (.int 5))) (ret []))) (eC (.int 2147483647))))
  (sSeq (sAsg 3 (bin modF (eB intF (aCons (bin addF (bin mulF (eVar 3) (eVar 3)) (eVar 3)) (ret []))) (eC (.int 2147483587))))
  (sRet (bin modF (eB intF (aCons (bin divF (eVar 3) (eC (.int 5))) (ret []))) (eVar 1))))))))
def f__law_pick : FnB := bodyB 2 b__law_pick
def b__law_rising : So :=
  sSeq (sAsg 4 (eLst (ret [])))
  (sSeq (sAsg 5 (eVar 2))
  (sSeq (sFor (iOf rng1 (aCons (eVar 1) (ret []))) (.nm 6) (sSeq (sAsg 5 (bin addF (eVar 5) (eCallB 1 f__law_pick 0 (aCons (eVar 3) (ret [])))))
  (sApp 4 (eVar 5))))
  (sRet (eVar 4))))
def f__law_rising : FnB := bodyB 3 b__law_rising
def b__law_raw : So :=
  sSeq (sAsg 2 (eCallB 3 f__law_rising 0 (aCons (bin ixF (eLst (aCons (eC (.int 0)) (aCons (eC (.int 1)) (aCons (eC (.int 2)) (aCons (eC (.int 0)) (aCons (eC (.int 3)) (aCons (eC (.int 1)) (aCons (eC (.int 4)) (aCons (eC (.int 2)) (ret [])))))))))) (eCallB 1 f__law_pick 0 (aCons (eC (.int 8)) (ret [])))) (aCons (eC (.int 0)) (aCons (eC (.int 3)) (ret []))))))
  (sSeq (sAsg 3 (eIf (tst (bin gtF (s1M lenF 2) (eC (.int 0)))) (s2M ixF 2 (una negF (eC (.int 1)))) (eC (.int 0))))
  (sSeq (sIf (cAnd (cNot (tst (eVar 1))) (tst (bin eqF (eCallB 1 f__law_pick 0 (aCons (eC (.int 7)) (ret []))) (eC (.int 3))))) (sRet (eTup (aCons (s1M tupF 2) (aCons (eTup (ret [])) (aCons (eC (.int 0)) (ret [])))))) (sNext))
  (sSeq (sAsg 4 (bin ixF (eLst (aCons (eC (.int 1)) (aCons (eC (.int 2)) (aCons (eC (.int 1)) (aCons (eC (.int 3)) (aCons (eC (.int 2)) (aCons (eC (.int 1)) (aCons (eC (.int 4)) (aCons (eC (.int 3)) (ret [])))))))))) (eCallB 1 f__law_pick 0 (aCons (eC (.int 8)) (ret [])))))
  (sSeq (sAsg 5 (eCallB 3 f__law_rising 0 (aCons (eVar 4) (aCons (eVar 3) (aCons (eC (.int 3)) (ret []))))))
  (sSeq (sAsg 6 (bin ixF (eLst (aCons (eC (.int 1)) (aCons (eC (.int 2)) (aCons (eC (.int 1)) (aCons (eC (.int 0)) (aCons (eC (.int 3)) (aCons (eVar 4) (aCons (eC (.int 2)) (aCons (eC (.int 1)) (ret [])))))))))) (eCallB 1 f__law_pick 0 (aCons (eC (.int 8)) (ret [])))))
  (sSeq (sAsg 7 (bin addF (bin subF (s2M ixF 5 (una negF (eC (.int 1)))) (s2M ixF 5 (eC (.int 0)))) (eVar 6)))
  (sSeq (sIf (cAnd (tst (eVar 1)) (tst (bin eqF (eVar 7) (eC (.int 0))))) (sAsg 7 (eC (.int 1))) (sNext))
  (sRet (eTup (aCons (s1M tupF 2) (aCons (s1M tupF 5) (aCons (eVar 7) (ret [])))))))))))))
def f__law_raw : FnB := bodyB 6 b__law_raw
def b__law_refused_value : So :=
  sSeq (sTryAs 2 "BadCount" [] (sDrop (eCalX "Table" 2 f_Table___call__ (eVar 0) (aCons (eVar 1) (ret [])))) (fun a dd => sRet (eAnd (bin eqF (eXf a dd "thing" (eVar 2)) (eVar 1)) (eNot (una (isXF false a dd) (eVar 2))))))
  (sRet (eC (.bl false)))
def f__law_refused_value : FnD := bodyD 1 b__law_refused_value
def b_is_listed : So :=
  sRet (una (isTLF cs0) (eVar 0))
def f_is_listed : FnD := bodyD 0 b_is_listed
def b_deep (f_deep : FnD) : So :=
  sSeq (sIf (tst (eCall0 1 f_is_listed [] (aCons (eVar 0) (ret [])))) (sRet (eB (one tupF) (aCons (eLc (iSeq (eVar 0)) (.nm 1) (ret true) (eCall0 1 f_deep [] (aCons (eVar 1) (ret [])))) (ret [])))) (sNext))
  (sRet (eVar 0))
def F_deep : Nat → FnD
  | 0 => fun _ => none
  | n + 1 => bodyD 1 (b_deep (F_deep n))
abbrev f_deep : FnD := F_deep 4
def b_is_counts : So :=
  sRet (eAnd (eCall0 1 f_is_listed [] (aCons (eVar 0) (ret []))) (eB allF (aCons (eLc (iSeq (eVar 0)) (.nm 1) (ret true) (eCall0 1 f_is_count [] (aCons (eVar 1) (ret [])))) (ret []))))
def f_is_counts : FnD := bodyD 1 b_is_counts
def b_is_rising : So :=
  sRet (eB allF (aCons (eLc (iOf rng1 (aCons (bin subF (s1M lenF 0) (eC (.int 1))) (ret []))) (.nm 1) (ret true) (bin leF (s2M ixF 0 (eVar 1)) (s2M ixF 0 (bin addF (eVar 1) (eC (.int 1)))))) (ret [])))
def f_is_rising : FnD := bodyD 1 b_is_rising
def b_short_loop : So :=
  sSeq (sFor (iOf rng2 (aCons (eC (.int 1)) (aCons (s1M lenF 0) (ret [])))) (.nm 2) (sIf (cAnd (tst (bin eqF (bin modF (s1M lenF 0) (eVar 2)) (eC (.int 0)))) (tst (bin eqF (bin modF (eVar 1) (bin divF (s1M lenF 0) (eVar 2))) (eC (.int 0))))) (sSeq (sAsg 3 (bin divF (eVar 1) (bin divF (s1M lenF 0) (eVar 2))))
  (sIf (tst (eB allF (aCons (eLc (iOf rng1 (aCons (bin subF (s1M lenF 0) (eVar 2)) (ret []))) (.nm 4) (ret true) (bin eqF (s2M ixF 0 (bin addF (eVar 4) (eVar 2))) (bin addF (s2M ixF 0 (eVar 4)) (eVar 3)))) (ret [])))) (sRet (eTup (aCons (sSlM slF 0 (ret none) (oSome (eVar 2))) (aCons (eVar 3) (ret []))))) (sNext))) (sNext)))
  (sRet (eTup (aCons (eVar 0) (aCons (eVar 1) (ret [])))))
def f_short_loop : FnD := bodyD 3 b_short_loop
def b_plain_form : So :=
  sSeq (sIf (tst (bin eqF (s1M lenF 1) (eC (.int 0)))) (sRet (eTup (aCons (eVar 0) (aCons (eTup (ret [])) (aCons (eC (.int 0)) (ret [])))))) (sNext))
  (sSeq (sAsgP (.tp [.nm 1, .nm 2]) (eCall0 2 f_short_loop [] (aCons (eVar 1) (aCons (eVar 2) (ret [])))))
  (sSeq (sAsg 3 (s1M lenF 0))
  (sSeq (whileF (tst (bin gtF (eVar 3) (eC (.int 0)))) (sSeq (sAsg 4 (bin subF (s1M lenF 0) (eVar 3)))
  (sSeq (sIf (tst (bin neF (s2M ixF 0 (bin subF (eVar 3) (eC (.int 1)))) (bin subF (s2M ixF 1 (bin subF (una negF (eC (.int 1))) (bin modF (eVar 4) (s1M lenF 1)))) (bin mulF (eVar 2) (bin addF (bin divF (eVar 4) (s1M lenF 1)) (eC (.int 1))))))) (fun ρ => some (.brk, ρ)) (sNext))
  (sAsg 3 (bin subF (eVar 3) (eC (.int 1)))))))
  (sSeq (sAsg 5 (eTup (aCons (eVar 0) (aCons (eVar 1) (aCons (eVar 2) (ret []))))))
  (sRet (eTup (aCons (sSlM slF 0 (ret none) (oSome (eVar 3))) (aCons (eB (one tupF) (aCons (eLc (iOf rng1 (aCons (s1M lenF 1) (ret []))) (.nm 6) (ret true) (eCall0 2 f_value_at [] (aCons (eVar 5) (aCons (bin addF (bin addF (eVar 3) (eC (.int 1))) (eVar 6)) (ret []))))) (ret []))) (aCons (eVar 2) (ret []))))))))))
def f_plain_form : FnD := bodyD 4 b_plain_form
def b_checked_table : So :=
  sSeq (sIf (cOr (cNot (tst (eCall0 1 f_is_counts [] (aCons (eVar 0) (ret []))))) (cNot (tst (eCall0 1 f_is_rising [] (aCons (eVar 0) (ret [])))))) (sRaise "BadTable" "word" okS (aCons (eC (.str "head")) (ret []))) (sNext))
  (sSeq (sIf (cOr (cNot (tst (eCall0 1 f_is_counts [] (aCons (eVar 1) (ret []))))) (cNot (tst (eCall0 1 f_is_rising [] (aCons (eVar 1) (ret [])))))) (sRaise "BadTable" "word" okS (aCons (eC (.str "loop")) (ret []))) (sNext))
  (sSeq (sIf (cAnd (tst (bin gtF (s1M lenF 0) (eC (.int 0)))) (cAnd (tst (bin gtF (s1M lenF 1) (eC (.int 0)))) (tst (bin ltF (s2M ixF 1 (eC (.int 0))) (s2M ixF 0 (una negF (eC (.int 1)))))))) (sRaise "BadTable" "word" okS (aCons (eC (.str "loop")) (ret []))) (sNext))
  (sSeq (sIf (cOr (cNot (tst (eCall0 1 f_is_count [] (aCons (eVar 2) (ret []))))) (cAnd (tst (bin eqF (s1M lenF 1) (eC (.int 0)))) (tst (bin gtF (eVar 2) (eC (.int 0)))))) (sRaise "BadTable" "word" okS (aCons (eC (.str "rise")) (ret []))) (sNext))
  (sSeq (sIf (cAnd (tst (bin gtF (s1M lenF 1) (eC (.int 0)))) (tst (bin gtF (s2M ixF 1 (una negF (eC (.int 1)))) (bin addF (s2M ixF 1 (eC (.int 0))) (eVar 2))))) (sRaise "BadTable" "word" okS (aCons (eC (.str "rise")) (ret []))) (sNext))
  (sRet (eCall0 3 f_plain_form [] (aCons (eCall0 1 f_deep [] (aCons (eVar 0) (ret []))) (aCons (eCall0 1 f_deep [] (aCons (eVar 1) (ret []))) (aCons (eVar 2) (ret []))))))))))
def f_checked_table : FnD := bodyD 0 b_checked_table
def dd_Table_1 : List D := [.int 0]
def dd_Table_2 : List D := [.tup [], .int 0]
def b_Table___init__ : So :=
  sSeq (sAsg 4 (eCall 3 f_checked_table [] (aCons (eVar 1) (aCons (eVar 2) (aCons (eVar 3) (ret []))))))
  (sSeq (sFldSet cs_head 0 "head" (s2M ixF 4 (eC (.int 0))))
  (sSeq (sFldSet cs_loop 0 "loop" (s2M ixF 4 (eC (.int 1))))
  (sFldSet cs_rise 0 "rise" (s2M ixF 4 (eC (.int 2))))))
def f_Table___init__ : FnB := bodyB 1 b_Table___init__
def b__law_seen : So :=
  sSeq (sTryAs 3 "BadTable" [] (sDrop (eMakX "Table" 3 f_Table___init__ [] (aCons (eVar 0) (aCons (eVar 1) (aCons (eVar 2) (ret [])))))) (fun a dd => sSeq (sIf (cOr (cNot (tst (una (isXF true a dd) (eVar 3)))) (tst (una (isXF false a dd) (eVar 3)))) (sRet (eTup (aCons (eC (.str "wrong class")) (ret [])))) (sNext))
  (sRet (eXf a dd "word" (eVar 3)))))
  (sRet (eC .non))
def f__law_seen : FnD := bodyD 1 b__law_seen
def b_Table_shift : So :=
  sSeq (sIf (cOr (cNot (tst (eCall0 1 f_is_integer [] (aCons (eVar 0) (ret []))))) (tst (bin gtF (eB absF (aCons (eVar 0) (ret []))) (eC k_MOST_SHIFT)))) (sRaise "BadCount" "thing" okT (aCons (eVar 0) (ret []))) (sNext))
  (sSeq (sIf (tst (bin geF (eVar 0) (eC (.int 0)))) (sRet (eMakX "Table" 3 f_Table___init__ [] (aCons (eTup (ret [])) (aCons (eTup (aCons (bin addF (eC (.int 1)) (eVar 0)) (ret []))) (aCons (eC (.int 1)) (ret [])))))) (sNext))
  (sRet (eMakX "Table" 3 f_Table___init__ [] (aCons (bin repF (eTup (aCons (eC (.int 0)) (ret []))) (bin subF (una negF (eVar 0)) (eC (.int 1)))) (aCons (eTup (aCons (eC (.int 0)) (ret []))) (aCons (eC (.int 1)) (ret [])))))))
def f_Table_shift : FnD := bodyD 0 b_Table_shift
def b__law_shift : So :=
  sSeq (sIf (tst (bin geF (eVar 0) (eC (.int 0)))) (sRet (eTup (aCons (eTup (ret [])) (aCons (eTup (aCons (bin addF (eC (.int 1)) (eVar 0)) (ret []))) (aCons (eC (.int 1)) (ret [])))))) (sNext))
  (sRet (eTup (aCons (bin repF (eTup (aCons (eC (.int 0)) (ret []))) (bin subF (una negF (eVar 0)) (eC (.int 1)))) (aCons (eTup (aCons (eC (.int 0)) (ret []))) (aCons (eC (.int 1)) (ret []))))))
def f__law_shift : FnD := bodyD 0 b__law_shift
def b__law_told : So :=
  sRet (eTup (aCons (s1M (fun d => fldM cs_head "head" [d]) 0) (aCons (s1M (fun d => fldM cs_loop "loop" [d]) 0) (aCons (s1M (fun d => fldM cs_rise "rise" [d]) 0) (ret [])))))
def f__law_told : FnD := bodyD 0 b__law_told
def b__law_shifts : So :=
  sSeq (sAsg 1 (bin ixF (eLst (aCons (eC (.int 5000)) (aCons (una negF (eC (.int 5000))) (aCons (eC (.int 4999)) (aCons (una negF (eC (.int 1))) (aCons (eC (.int 0)) (ret []))))))) (eCallB 1 f__law_pick 0 (aCons (eC (.int 5)) (ret [])))))
  (sSeq (sIf (tst (bin neF (eCall0 1 f__law_told [] (aCons (eCall 1 f_Table_shift [] (aCons (eVar 1) (ret []))) (ret []))) (eCall0 1 f__law_shift [] (aCons (eVar 1) (ret []))))) (sRet (eC (.bl false))) (sNext))
  (sSeq (sAsg 2 (bin ixF (eLst (aCons (eC (.int 5001)) (aCons (una negF (eC (.int 5001))) (aCons (eC (.str "1")) (aCons (eC .non) (aCons (eC (.bl true)) (aCons (bin powF (eC (.int 10)) (eC (.int 20))) (ret [])))))))) (eCallB 1 f__law_pick 0 (aCons (eC (.int 6)) (ret [])))))
  (sSeq (sTryAs 3 "BadCount" ["BadTable"] (sDrop (eCall 1 f_Table_shift [] (aCons (eVar 2) (ret [])))) (fun a dd => sRet (bin eqF (eXf a dd "thing" (eVar 3)) (eVar 2))))
  (sRet (eC (.bl false))))))
def f__law_shifts : FnB := bodyB 3 b__law_shifts
def b__law_source : So :=
  sSeq (sAsg 2 (eIf (tst (bin ltF (eVar 1) (s1M lenF 0))) (s2M ixF 0 (eVar 1)) (bin addF (bin mulF (eC (.int 3)) (eVar 1)) (eC (.int 1)))))
  (sSeq (sAsg 3 (bin modF (eB intF (aCons (bin addF (bin modF (eB intF (aCons (eVar 2) (ret []))) (eC (.int 2147483629))) (bin mulF (eC (.int 40503)) (eVar 1))) (ret []))) (eC (.int 2147483629))))
  (sSeq (sFor (iSeq (sSlM slF 0 (ret none) (oSome (eC (.int 2))))) (.nm 4) (sAsg 3 (bin modF (eB intF (aCons (bin addF (bin mulF (eVar 3) (eC (.int 69069))) (bin modF (eB intF (aCons (eVar 4) (ret []))) (eC (.int 1000003)))) (ret []))) (eC (.int 2147483629)))))
  (sSeq (sAsg 5 (eB absF (aCons (eVar 2) (ret []))))
  (sSeq (sIf (tst (bin ltF (eVar 5) (bin powF (eC (.int 10)) (eC (.int 18))))) (sRet (eLst (aCons (eC (.int 0)) (aCons (eVar 3) (aCons (eC (.int 0)) (ret [])))))) (sNext))
  (sSeq (sIf (tst (bin gtF (bin shrF (eVar 5) (eC (.int 4000))) (eC (.int 0)))) (sAsg 5 (bin subF (eVar 5) (bin shlF (bin shrF (eVar 5) (eC (.int 4000))) (eC (.int 4000))))) (sNext))
  (sRet (eLst (aCons (eVar 5) (aCons (eVar 3) (aCons (eC (.int 0)) (ret [])))))))))))
def f__law_source : FnD := bodyD 4 b__law_source
def b__law_spoilt : So :=
  sSeq (sAsg 2 (eCallB 1 f__law_pick 0 (aCons (eC (.int 6)) (ret []))))
  (sSeq (sIf (tst (bin eqF (eVar 2) (eC (.int 0)))) (sRet (bin ixF (eLst (aCons (eC .non) (aCons (eC (.int 7)) (aCons (eC (.str "12")) (aCons (eDic0) (aCons (eC (.bl true)) (ret []))))))) (eCallB 1 f__law_pick 0 (aCons (eC (.int 5)) (ret []))))) (sNext))
  (sSeq (sAsg 3 (eCallB 1 f__law_pick 0 (aCons (bin addF (s1M lenF 1) (eC (.int 1))) (ret []))))
  (sSeq (sAsg 4 (bin ixF (eLst (aCons (eC (.bl true)) (aCons (eC (.str "3")) (aCons (eC .non) (aCons (bin subF (una negF (eC (.int 1))) (eCallB 1 f__law_pick 0 (aCons (eC (.int 5)) (ret [])))) (aCons (eTup (aCons (eC (.int 4)) (ret []))) (ret []))))))) (eCallB 1 f__law_pick 0 (aCons (eC (.int 5)) (ret [])))))
  (sSeq (sIf (cAnd (tst (bin eqF (eVar 2) (eC (.int 1)))) (tst (bin ltF (eVar 3) (s1M lenF 1)))) (sRet (bin addF (bin addF (eB (one lstF) (aCons (sSlM slF 1 (ret none) (oSome (eVar 3))) (ret []))) (eLst (aCons (bin addF (s2M ixF 1 (eVar 3)) (eC (.int 1))) (ret [])))) (eB (one lstF) (aCons (sSlM slF 1 (oSome (eVar 3)) (ret none)) (ret []))))) (sNext))
  (sSeq (sIf (cAnd (tst (bin eqF (eVar 2) (eC (.int 2)))) (tst (bin gtF (s1M lenF 1) (eC (.int 0))))) (sRet (eIf (tst (bin gtF (s2M ixF 1 (una negF (eC (.int 1)))) (eC (.int 0)))) (bin addF (s1M lstF 1) (eLst (aCons (bin subF (s2M ixF 1 (una negF (eC (.int 1)))) (eC (.int 1))) (ret [])))) (bin addF (s1M lstF 1) (eLst (aCons (una negF (eC (.int 1))) (ret [])))))) (sNext))
  (sRet (bin addF (bin addF (eB (one lstF) (aCons (sSlM slF 1 (ret none) (oSome (eVar 3))) (ret []))) (eLst (aCons (eVar 4) (ret [])))) (eB (one lstF) (aCons (sSlM slF 1 (oSome (eVar 3)) (ret none)) (ret []))))))))))
def f__law_spoilt : FnB := bodyB 3 b__law_spoilt
def b__law_table : So :=
  sRet (eMakX "Table" 3 f_Table___init__ [] (aCons (s2M ixF 0 (eC (.int 0))) (aCons (s2M ixF 0 (eC (.int 1))) (aCons (s2M ixF 0 (eC (.int 2))) (ret [])))))
def f__law_table : FnD := bodyD 0 b__law_table
def b_law : So :=
  sSeq (sAsg 1 (eCall0 2 f__law_source [] (aCons (eVar 0) (aCons (eC (.int 0)) (ret [])))))
  (sSeq (sAsg 2 (eCallB 1 f__law_raw 1 (aCons (eC (.bl false)) (ret []))))
  (sSeq (sPar3 3 4 5 (aCons (s2M ixF 2 (eC (.int 0))) (aCons (s2M ixF 2 (eC (.int 1))) (aCons (s2M ixF 2 (eC (.int 2))) (ret [])))))
  (sSeq (sAsg 6 (eCallB 1 f__law_pick 1 (aCons (eC (.int 12)) (ret []))))
  (sSeq (sIf (tst (bin inF (eVar 6) (eTup (aCons (eC (.int 0)) (aCons (eC (.int 1)) (aCons (eC (.int 6)) (ret []))))))) (sAsg 3 (eCallB 1 f__law_spoilt 1 (aCons (eVar 3) (ret [])))) (sNext))
  (sSeq (sIf (tst (bin inF (eVar 6) (eTup (aCons (eC (.int 1)) (aCons (eC (.int 2)) (aCons (eC (.int 7)) (ret []))))))) (sAsg 4 (eCallB 1 f__law_spoilt 1 (aCons (eVar 4) (ret [])))) (sNext))
  (sSeq (sIf (tst (bin inF (eVar 6) (eTup (aCons (eC (.int 3)) (aCons (eC (.int 1)) (aCons (eC (.int 7)) (ret []))))))) (sAsg 5 (bin ixF (eLst (aCons (bin subF (eVar 5) (eC (.int 1))) (aCons (una negF (eC (.int 1))) (aCons (eC (.bl true)) (aCons (eC .non) (aCons (eC (.str "2")) (aCons (eC (.int 1)) (ret [])))))))) (eCallB 1 f__law_pick 1 (aCons (eC (.int 6)) (ret []))))) (sNext))
  (sSeq (sIf (tst (bin eqF (eVar 6) (eC (.int 4)))) (sAsg 4 (eB (one tupF) (aCons (eLc (iSeq (s2M ixF 2 (eC (.int 1)))) (.nm 9) (ret true) (eB max2F (aCons (eC (.int 0)) (aCons (bin subF (bin subF (eVar 9) (eC (.int 1))) (eCallB 1 f__law_pick 1 (aCons (eC (.int 3)) (ret [])))) (ret []))))) (ret [])))) (sNext))
  (sSeq (sIf (tst (bin eqF (eVar 6) (eC (.int 5)))) (sAsg 3 (bin repF (eTup (aCons (eC (.int 0)) (ret []))) (eC (.int 300)))) (sNext))
  (sSeq (sIf (tst (bin neF (eCall0 3 f__law_seen [] (aCons (eVar 3) (aCons (eVar 4) (aCons (eVar 5) (ret []))))) (eCall0 3 f__law_due [] (aCons (eVar 3) (aCons (eVar 4) (aCons (eVar 5) (ret []))))))) (sRet (eC (.bl false))) (sNext))
  (sSeq (sIf (tst (bin notNF (eCall0 3 f__law_seen [] (aCons (s2M ixF 2 (eC (.int 0))) (aCons (s2M ixF 2 (eC (.int 1))) (aCons (s2M ixF 2 (eC (.int 2))) (ret []))))) (eC .non))) (sRet (eC (.bl false))) (sNext))
  (sSeq (sAsg 7 (eCall0 1 f__law_table [] (aCons (eVar 2) (ret []))))
  (sSeq (sFor (iSeq (eLst (aCons (eC (.bl true)) (aCons (eC (.str "1")) (aCons (una negF (eC (.int 1))) (aCons (eTup (aCons (eC (.int 1)) (ret []))) (aCons (una negF (bin powF (eC (.int 10)) (eC (.int 20)))) (ret [])))))))) (.nm 8) (sIf (cNot (tst (eCall0 2 f__law_refused_value [] (aCons (eVar 7) (aCons (eVar 8) (ret [])))))) (sRet (eC (.bl false))) (sNext)))
  (sRet (eAnd (eCallB 0 f__law_shifts 1 (ret [])) (bin eqF (eCalX "Table" 2 f_Table___call__ (eVar 7) (aCons (eC (.int 0)) (ret []))) (eC (.int 0)))))))))))))))))
def f_law : FnD := bodyD 9 b_law
end
end NF

set_option Elab.async false
set_option linter.all false
set_option maxRecDepth 100000
set_option maxHeartbeats 0
namespace NF
open PySem PySem.Spec PyProof.Rows L2 SL
abbrev prog : Program := PySem.Challenge.pw_needforth_k02_whole_bad_tables
def top (i : Nat) : Stmt := PySem.Challenge.pw_needforth_k02_whole_bad_tables.main.body.getD i (.Pass ⟨0, 0, 0, 0⟩)
def inClass (s : Stmt) (i : Nat) : Stmt := match s with
  | .ClassDef (body := b) .. => b.getD i (.Pass ⟨0, 0, 0, 0⟩)
  | _ => .Pass ⟨0, 0, 0, 0⟩
structure Tx (K : PySem.W.Frag) (mg : Str → Option Value) : Prop where
  n_abs : mg "abs" = none
  n_all : mg "all" = none
  n_bool : mg "bool" = none
  n_int : mg "int" = none
  n_isinstance : mg "isinstance" = none
  n_len : mg "len" = none
  n_list : mg "list" = none
  n_max : mg "max" = none
  n_range : mg "range" = none
  n_super : mg "super" = none
  n_tuple : mg "tuple" = none
  i_cs : ∀ C ∈ cs0, IsC K C
  f_head : FldOk K cs_head "head"
  f_loop : FldOk K cs_loop "loop"
  f_rise : FldOk K cs_rise "rise"
  gx_BadCount : mg "BadCount" = some (.ref (He.ga K "BadCount"))
  gx_BadTable : mg "BadTable" = some (.ref (He.ga K "BadTable"))
  gx_NeedforthError : mg "NeedforthError" = some (.ref (He.ga K "NeedforthError"))
  gx_TooMany : mg "TooMany" = some (.ref (He.ga K "TooMany"))
  y_BadCount : PySem.W.exmOne K (.ref (He.ga K "BadCount")) (.ref (He.ga K "BadCount")) = some true
  y_BadTable : PySem.W.exmOne K (.ref (He.ga K "BadTable")) (.ref (He.ga K "BadTable")) = some true
  z_BadTable_BadCount : PySem.W.exmOne K (.ref (He.ga K "BadTable")) (.ref (He.ga K "BadCount")) = some false
  xf_BadCount_thing : XfC K (He.ga K "BadCount") ∧ PySem.W.findIn K (.ref (He.ga K "BadCount")) "thing" = some none
  xf_BadTable_word : XfC K (He.ga K "BadTable") ∧ PySem.W.findIn K (.ref (He.ga K "BadTable")) "word" = some none
  xc_BadCount : (PySem.W.clsIn K (He.ga K "BadCount")).isSome = true ∧ ExcC K (He.ga K "BadCount")
  xc_BadTable : (PySem.W.clsIn K (He.ga K "BadTable")).isSome = true ∧ ExcC K (He.ga K "BadTable")
  xk_BadCount_BadTable : PySem.W.kitOne K (.ref (He.ga K "BadCount")) (.ref (He.ga K "BadTable")) = some false
  xk_BadTable_NeedforthError : PySem.W.kitOne K (.ref (He.ga K "BadTable")) (.ref (He.ga K "NeedforthError")) = some true
  xk_BadTable_TooMany : PySem.W.kitOne K (.ref (He.ga K "BadTable")) (.ref (He.ga K "TooMany")) = some false
  k_MOST_SHIFT : GlK K mg "MOST_SHIFT" k_MOST_SHIFT
section
variable {P : Program} {w : World} {K : PySem.W.Frag} {mg : Str → Option Value} {base : Heap} {fa : Addr} {fd : FuncData} {dvs : List V}
abbrev s_x_WrongThing : Stmt := inClass (top 3) 0
theorem sc_x_WrongThing : FnScopeS ["self", "thing"] ["self", "thing"] (defScope s_x_WrongThing) := ⟨rfl, rfl, rfl, by decide +kernel, rfl, by decide +kernel, by decide +kernel, by decide +kernel⟩
abbrev s_x_WrongWord : Stmt := inClass (top 4) 0
theorem sc_x_WrongWord : FnScopeS ["self", "word"] ["self", "word"] (defScope s_x_WrongWord) := ⟨rfl, rfl, rfl, by decide +kernel, rfl, by decide +kernel, by decide +kernel, by decide +kernel⟩
abbrev s_is_integer : Stmt := top 9
theorem sc_is_integer : FnScope ["thing"] ["thing"] (defScope s_is_integer) := ⟨rfl, rfl, rfl, by decide +kernel, rfl, by decide +kernel, by decide +kernel⟩
theorem ok_is_integer (T : Tx K mg) (F : FunD K "is_integer" "is_integer" (defArgs s_is_integer) (defBody s_is_integer) (defScope s_is_integer) dvs [] fa fd) : FnOk P w K mg base (L2.CX P w) 1 fa fd ["thing"] (spD K 1 f_is_integer) := by
  have nd := sc_is_integer.nd
  refine fnD F sc_is_integer b_is_integer 0 rfl fun cdv A outer s H E hr => ?_
  exact sss_one (ss_ret (se_and (se_isT (cs := cs0) T.i_cs (se_var 0) T.n_isinstance T.n_int PyProof.Rows.boot_int) (se_one (se_not (se_isT (cs := cs0) T.i_cs (se_var 0) T.n_isinstance T.n_bool PyProof.Rows.boot_bool)))))
abbrev s_is_count : Stmt := top 10
theorem sc_is_count : FnScope ["thing"] ["thing"] (defScope s_is_count) := ⟨rfl, rfl, rfl, by decide +kernel, rfl, by decide +kernel, by decide +kernel⟩
theorem ok_is_count (T : Tx K mg) (G_is_integer : DefOk P w K mg base 1 "is_integer" 1 [] f_is_integer) (F : FunD K "is_count" "is_count" (defArgs s_is_count) (defBody s_is_count) (defScope s_is_count) dvs [] fa fd) : FnOk P w K mg base (L2.CX P w) 3 fa fd ["thing"] (spD K 1 f_is_count) := by
  have nd := sc_is_count.nd
  refine fnD F sc_is_count b_is_count 0 rfl fun cdv A outer s H E hr => ?_
  exact sss_one (ss_ret (se_and (se_call0 G_is_integer (hr.mono (by decide)) (sa_cons (se_var 0) (sa_nil))) (se_one (se_cmp op_ge o2_ge (nomark _) (se_var 0) (se_int)))))
abbrev s_end_of : Stmt := top 20
theorem sc_end_of : FnScope ["raw", "head", "loop", "rise"] ["raw"] (defScope s_end_of) := ⟨rfl, rfl, rfl, by decide +kernel, rfl, by decide +kernel, by decide +kernel⟩
theorem ok_end_of (T : Tx K mg) (F : FunD K "end_of" "end_of" (defArgs s_end_of) (defBody s_end_of) (defScope s_end_of) dvs [] fa fd) : FnOk P w K mg base (L2.CX P w) 1 fa fd ["raw"] (spD K 1 f_end_of) := by
  have nd := sc_end_of.nd
  refine fnD F sc_end_of b_end_of 3 rfl fun cdv A outer s H E hr => ?_
  exact sss_cons (ss_asg (se_var 0) (sg_tp rfl (sgs_cons (sg_nm nd) (sgs_cons (sg_nm nd) (sgs_cons (sg_nm nd) (sgs_nil))))))
        (sss_cons (ss_if (sc_w (sw_or (sc_cmp (op_eqD hr.units) o2_eq (nomark _) (se_B1S (i := 2) call_len sv_len T.n_len boot_len) (se_int)) (sw_or1 (sc_cmp op_gt o2_gt (nomark _) (se_var 3) (se_int))))) (sss_one (ss_ret (se_non))) (sss_nil))
        (sss_one (ss_ret (se_ixS (i := 2) ix_all sv_ix (se_un un_neg o1_neg (se_int))))))
abbrev s_value_at : Stmt := top 21
theorem sc_value_at : FnScope ["raw", "place", "head", "loop", "rise", "rest"] ["raw", "place"] (defScope s_value_at) := ⟨rfl, rfl, rfl, by decide +kernel, rfl, by decide +kernel, by decide +kernel⟩
theorem ok_value_at (T : Tx K mg) (G_end_of : DefOk P w K mg base 1 "end_of" 1 [] f_end_of) (F : FunD K "value_at" "value_at" (defArgs s_value_at) (defBody s_value_at) (defScope s_value_at) dvs [] fa fd) : FnOk P w K mg base (L2.CX P w) 3 fa fd ["raw", "place"] (spD K 2 f_value_at) := by
  have nd := sc_value_at.nd
  refine fnD F sc_value_at b_value_at 4 rfl fun cdv A outer s H E hr => ?_
  exact sss_cons (ss_asg (se_var 0) (sg_tp rfl (sgs_cons (sg_nm nd) (sgs_cons (sg_nm nd) (sgs_cons (sg_nm nd) (sgs_nil))))))
        (sss_cons (ss_if (sc_cmp op_isN o2_isN (nomark _) (se_var 1) (se_non)) (sss_one (ss_ret (se_call0 G_end_of (hr.mono (by decide)) (sa_cons (se_var 0) (sa_nil))))) (sss_nil))
        (sss_cons (ss_if (sc_cmp (op_eqD hr.units) o2_eq (nomark _) (se_var 1) (se_int)) (sss_one (ss_ret (se_int))) (sss_nil))
        (sss_cons (ss_if (sc_cmp op_le_all o2_le (nomark _) (se_var 1) (se_B1S (i := 2) call_len sv_len T.n_len boot_len)) (sss_one (ss_ret (se_ixS (i := 2) ix_all sv_ix (se_bin op_sub o2_sub (se_var 1) (se_int))))) (sss_nil))
        (sss_cons (ss_if (sc_cmp (op_eqD hr.units) o2_eq (nomark _) (se_B1S (i := 3) call_len sv_len T.n_len boot_len) (se_int)) (sss_one (ss_ret (se_non))) (sss_nil))
        (sss_cons (ss_set (i := 5) nd (se_bin op_sub o2_sub (se_bin op_sub o2_sub (se_var 1) (se_B1S (i := 2) call_len sv_len T.n_len boot_len)) (se_int)))
        (sss_one (ss_ret (se_bin op_add_all o2_add (se_ixS (i := 3) ix_all sv_ix (se_bin op_mod o2_mod (se_var 5) (se_B1S (i := 3) call_len sv_len T.n_len boot_len))) (se_bin op_mul_all o2_mul (se_var 4) (se_bin op_fdivW o2_div (se_var 5) (se_B1S (i := 3) call_len sv_len T.n_len boot_len)))))))))))
abbrev s_Table___call__ : Stmt := inClass (top 37) 3
theorem sc_Table___call__ : FnScope ["self", "n"] ["self", "n"] (defScope s_Table___call__) := ⟨rfl, rfl, rfl, by decide +kernel, rfl, by decide +kernel, by decide +kernel⟩
theorem ok_Table___call__ (T : Tx K mg) (G_is_count : DefOk P w K mg base 3 "is_count" 1 [] f_is_count) (G_value_at : DefOk P w K mg base 3 "value_at" 2 [] f_value_at) (X_BadCount : ExcOk P w K mg base 2 "BadCount" "thing" okT) (F : FunD K "__call__" "Table.__call__" (defArgs s_Table___call__) (defBody s_Table___call__) (defScope s_Table___call__) dvs [] fa fd) : FnOk P w K mg base (L2.CX P w) 5 fa fd ["self", "n"] (spD K 2 f_Table___call__) := by
  have nd := sc_Table___call__.nd
  refine fnD F sc_Table___call__ b_Table___call__ 0 rfl fun cdv A outer s H E hr => ?_
  exact sss_cons (ss_if (sc_w (sw_and (sc_cmp op_notN o2_notN (nomark _) (se_var 1) (se_non)) (sw_and1 (sc_not (sc_val (se_call0 G_is_count (hr.mono (by decide)) (sa_cons (se_var 1) (sa_nil)))))))) (sss_one (ss_raise X_BadCount (hr.mono (by decide)) rfl takesD (sa_cons (se_var 1) (sa_nil)))) (sss_nil))
        (sss_one (ss_ret (se_call0 G_value_at (hr.mono (by decide)) (sa_cons (se_tup (sa_cons (se_fldS (i := 0) T.f_head) (sa_cons (se_fldS (i := 0) T.f_loop) (sa_cons (se_fldS (i := 0) T.f_rise) (sa_nil))))) (sa_cons (se_var 1) (sa_nil))))))
abbrev s__law_is_integer : Stmt := top 42
theorem sc__law_is_integer : FnScope ["_law_thing"] ["_law_thing"] (defScope s__law_is_integer) := ⟨rfl, rfl, rfl, by decide +kernel, rfl, by decide +kernel, by decide +kernel⟩
theorem ok__law_is_integer (T : Tx K mg) (F : FunD K "_law_is_integer" "_law_is_integer" (defArgs s__law_is_integer) (defBody s__law_is_integer) (defScope s__law_is_integer) dvs [] fa fd) : FnOk P w K mg base (L2.CX P w) 1 fa fd ["_law_thing"] (spD K 1 f__law_is_integer) := by
  have nd := sc__law_is_integer.nd
  refine fnD F sc__law_is_integer b__law_is_integer 0 rfl fun cdv A outer s H E hr => ?_
  exact sss_one (ss_ret (se_and (se_isT (cs := cs0) T.i_cs (se_var 0) T.n_isinstance T.n_int PyProof.Rows.boot_int) (se_one (se_not (se_isT (cs := cs0) T.i_cs (se_var 0) T.n_isinstance T.n_bool PyProof.Rows.boot_bool)))))
abbrev s__law_is_count : Stmt := top 43
theorem sc__law_is_count : FnScope ["_law_thing"] ["_law_thing"] (defScope s__law_is_count) := ⟨rfl, rfl, rfl, by decide +kernel, rfl, by decide +kernel, by decide +kernel⟩
theorem ok__law_is_count (T : Tx K mg) (G__law_is_integer : DefOk P w K mg base 1 "_law_is_integer" 1 [] f__law_is_integer) (F : FunD K "_law_is_count" "_law_is_count" (defArgs s__law_is_count) (defBody s__law_is_count) (defScope s__law_is_count) dvs [] fa fd) : FnOk P w K mg base (L2.CX P w) 3 fa fd ["_law_thing"] (spD K 1 f__law_is_count) := by
  have nd := sc__law_is_count.nd
  refine fnD F sc__law_is_count b__law_is_count 0 rfl fun cdv A outer s H E hr => ?_
  exact sss_one (ss_ret (se_and (se_call0 G__law_is_integer (hr.mono (by decide)) (sa_cons (se_var 0) (sa_nil))) (se_one (se_cmp op_ge o2_ge (nomark _) (se_var 0) (se_int)))))
abbrev s__law_good : Stmt := top 50
theorem sc__law_good : FnScope ["_law_row", "_law_one", "_law_k"] ["_law_row"] (defScope s__law_good) := ⟨rfl, rfl, rfl, by decide +kernel, rfl, by decide +kernel, by decide +kernel⟩
theorem ok__law_good (T : Tx K mg) (G__law_is_count : DefOk P w K mg base 3 "_law_is_count" 1 [] f__law_is_count) (F : FunD K "_law_good" "_law_good" (defArgs s__law_good) (defBody s__law_good) (defScope s__law_good) dvs [] fa fd) : FnOk P w K mg base (L2.CX P w) 5 fa fd ["_law_row"] (spD K 1 f__law_good) := by
  have nd := sc__law_good.nd
  refine fnD F sc__law_good b__law_good 2 rfl fun cdv A outer s H E hr => ?_
  exact sss_cons (ss_if (sc_w (sw_or (sc_not (sc_val (se_isTL (cs := cs0) T.i_cs (se_var 0) T.n_isinstance T.n_tuple T.n_list))) (sw_or1 (sc_not (sc_val (se_B (cr_all rfl) co_all T.n_all PyProof.Rows.boot_all (sa_cons (se_lc rfl nd (si_seq (se_var 0)) (blkOk_by (own := [("_law_one", 1)]) (N := ["_law_row", "_law_one", "_law_k"]) (sc := defScope s__law_good) (by decide +kernel)) rfl (fun _ => sg_nm nd) (fun _ => se_call0 G__law_is_count (hr.mono (by decide)) (sa_cons (se_var 1) (sa_nil)))) (sa_nil)))))))) (sss_one (ss_ret (se_bl))) (sss_nil))
        (sss_one (ss_ret (se_B (cr_all rfl) co_all T.n_all PyProof.Rows.boot_all (sa_cons (se_lc rfl nd (si_rng1 T.n_range (sa_cons (se_bin op_sub o2_sub (se_B1S (i := 0) call_len sv_len T.n_len boot_len) (se_int)) (sa_nil))) (blkOk_by (own := [("_law_k", 2)]) (N := ["_law_row", "_law_one", "_law_k"]) (sc := defScope s__law_good) (by decide +kernel)) rfl (fun _ => sg_nm nd) (fun _ => se_cmp op_le_all o2_le (nomark _) (se_ixS (i := 0) ix_all sv_ix (se_var 2)) (se_ixS (i := 0) ix_all sv_ix (se_bin op_add_all o2_add (se_var 2) (se_int))))) (sa_nil)))))
abbrev s__law_due : Stmt := top 51
theorem sc__law_due : FnScope ["_law_head", "_law_loop", "_law_rise"] ["_law_head", "_law_loop", "_law_rise"] (defScope s__law_due) := ⟨rfl, rfl, rfl, by decide +kernel, rfl, by decide +kernel, by decide +kernel⟩
theorem ok__law_due (T : Tx K mg) (G__law_good : DefOk P w K mg base 5 "_law_good" 1 [] f__law_good) (G__law_is_count : DefOk P w K mg base 3 "_law_is_count" 1 [] f__law_is_count) (F : FunD K "_law_due" "_law_due" (defArgs s__law_due) (defBody s__law_due) (defScope s__law_due) dvs [] fa fd) : FnOk P w K mg base (L2.CX P w) 7 fa fd ["_law_head", "_law_loop", "_law_rise"] (spD K 3 f__law_due) := by
  have nd := sc__law_due.nd
  refine fnD F sc__law_due b__law_due 0 rfl fun cdv A outer s H E hr => ?_
  exact sss_cons (ss_if (sc_not (sc_val (se_call0 G__law_good (hr.mono (by decide)) (sa_cons (se_var 0) (sa_nil))))) (sss_one (ss_ret (se_str))) (sss_nil))
        (sss_cons (ss_if (sc_w (sw_or (sc_not (sc_val (se_call0 G__law_good (hr.mono (by decide)) (sa_cons (se_var 1) (sa_nil))))) (sw_or1 (sc_w (sw_and (sc_cmp op_gt o2_gt (nomark _) (se_B1S (i := 0) call_len sv_len T.n_len boot_len) (se_int)) (sw_and (sc_cmp op_gt o2_gt (nomark _) (se_B1S (i := 1) call_len sv_len T.n_len boot_len) (se_int)) (sw_and1 (sc_cmp op_lt_all o2_lt (nomark _) (se_ixS (i := 1) ix_all sv_ix (se_int)) (se_ixS (i := 0) ix_all sv_ix (se_un un_neg o1_neg (se_int))))))))))) (sss_one (ss_ret (se_str))) (sss_nil))
        (sss_cons (ss_if (sc_w (sw_or (sc_not (sc_val (se_call0 G__law_is_count (hr.mono (by decide)) (sa_cons (se_var 2) (sa_nil))))) (sw_or1 (sc_w (sw_and (sc_cmp (op_eqD hr.units) o2_eq (nomark _) (se_B1S (i := 1) call_len sv_len T.n_len boot_len) (se_int)) (sw_and1 (sc_cmp (op_neD hr.units) o2_ne (nomark _) (se_var 2) (se_int)))))))) (sss_one (ss_ret (se_str))) (sss_nil))
        (sss_cons (ss_if (sc_w (sw_and (sc_cmp op_gt o2_gt (nomark _) (se_B1S (i := 1) call_len sv_len T.n_len boot_len) (se_int)) (sw_and1 (sc_cmp op_lt_all o2_lt (nomark _) (se_bin op_add_all o2_add (se_ixS (i := 1) ix_all sv_ix (se_int)) (se_var 2)) (se_ixS (i := 1) ix_all sv_ix (se_un un_neg o1_neg (se_int))))))) (sss_one (ss_ret (se_str))) (sss_nil))
        (sss_one (ss_ret (se_non))))))
abbrev s__law_pick : Stmt := top 41
theorem sc__law_pick : FnScope ["_law_source_here", "_law_many", "_law_digit", "_law_value"] ["_law_source_here", "_law_many"] (defScope s__law_pick) := ⟨rfl, rfl, rfl, by decide +kernel, rfl, by decide +kernel, by decide +kernel⟩
theorem ok__law_pick (T : Tx K mg) (F : FunD K "_law_pick" "_law_pick" (defArgs s__law_pick) (defBody s__law_pick) (defScope s__law_pick) dvs [] fa fd) : FnOk P w K mg base (L2.CX P w) 1 fa fd ["_law_source_here", "_law_many"] (spB K 1 f__law_pick) := by
  have nd := sc__law_pick.nd
  refine fnB F sc__law_pick b__law_pick 2 1 rfl rfl fun cdv A outer s H E hr => ?_
  exact sss_cons (ss_if (sc_cmp op_gt o2_gt (nomark _) (se_ixS (i := 0) ix_all sv_ix (se_int)) (se_int)) (sss_cons (ss_set (i := 2) nd (se_bin op_mod o2_mod (se_Ty call_int1 co_int T.n_int PyProof.Rows.boot_int (sa_cons (se_ixS (i := 0) ix_all sv_ix (se_int)) (sa_nil))) (se_var 1)))
        (sss_cons (ss_setI (i := 0) (se_bin op_fdivW o2_div (se_ixS (i := 0) ix_all sv_ix (se_int)) (se_var 1)) (se_int) (hp := fun p q => pg_sub p q set_list))
        (sss_one (ss_ret (se_var 2))))) (sss_nil))
        (sss_cons (ss_setI (i := 0) (se_bin op_add_all o2_add (se_ixS (i := 0) ix_all sv_ix (se_int)) (se_int)) (se_int) (hp := fun p q => pg_sub p q set_list))
        (sss_cons (ss_set (i := 3) nd (se_bin op_mod o2_mod (se_Ty call_int1 co_int T.n_int PyProof.Rows.boot_int (sa_cons (se_bin op_mul_all o2_mul (se_bin op_add_all o2_add (se_ixS (i := 0) ix_all sv_ix (se_int)) (se_bin op_mul_all o2_mul (se_int) (se_ixS (i := 0) ix_all sv_ix (se_int)))) (se_int)) (sa_nil))) (se_int)))
        (sss_cons (ss_set (i := 3) nd (se_bin op_mod o2_mod (se_Ty call_int1 co_int T.n_int PyProof.Rows.boot_int (sa_cons (se_bin op_add_all o2_add (se_bin op_add_all o2_add (se_bin op_mul_all o2_mul (se_var 3) (se_var 3)) (se_bin op_mul_all o2_mul (se_int) (se_ixS (i := 0) ix_all sv_ix (se_int)))) (se_ixS (i := 0) ix_all sv_ix (se_int))) (sa_nil))) (se_int)))
        (sss_cons (ss_set (i := 3) nd (se_bin op_mod o2_mod (se_Ty call_int1 co_int T.n_int PyProof.Rows.boot_int (sa_cons (se_bin op_add_all o2_add (se_bin op_mul_all o2_mul (se_var 3) (se_int)) (se_int)) (sa_nil))) (se_int)))
        (sss_cons (ss_set (i := 3) nd (se_bin op_mod o2_mod (se_Ty call_int1 co_int T.n_int PyProof.Rows.boot_int (sa_cons (se_bin op_add_all o2_add (se_bin op_mul_all o2_mul (se_var 3) (se_var 3)) (se_var 3)) (sa_nil))) (se_int)))
        (sss_one (ss_ret (se_bin op_mod o2_mod (se_Ty call_int1 co_int T.n_int PyProof.Rows.boot_int (sa_cons (se_bin op_fdivW o2_div (se_var 3) (se_int)) (sa_nil))) (se_var 1)))))))))
abbrev s__law_rising : Stmt := top 44
theorem sc__law_rising : FnScope ["_law_source_here", "_law_many", "_law_low", "_law_steps", "_law_told_here", "_law_value", "_law_k"] ["_law_source_here", "_law_many", "_law_low", "_law_steps"] (defScope s__law_rising) := ⟨rfl, rfl, rfl, by decide +kernel, rfl, by decide +kernel, by decide +kernel⟩
theorem ok__law_rising (T : Tx K mg) (G__law_pick : DefB P w K mg base 1 "_law_pick" 1 f__law_pick) (F : FunD K "_law_rising" "_law_rising" (defArgs s__law_rising) (defBody s__law_rising) (defScope s__law_rising) dvs [] fa fd) : FnOk P w K mg base (L2.CX P w) 3 fa fd ["_law_source_here", "_law_many", "_law_low", "_law_steps"] (spB K 3 f__law_rising) := by
  have nd := sc__law_rising.nd
  refine fnB F sc__law_rising b__law_rising 3 3 rfl rfl fun cdv A outer s H E hr => ?_
  exact sss_cons (ss_set (i := 4) nd (se_lst (sa_nil)))
        (sss_cons (ss_set (i := 5) nd (se_var 2))
        (sss_cons (ss_for (passes_of rfl) rfl (si_rng1 T.n_range (sa_cons (se_var 1) (sa_nil))) (sg_nm nd) (sss_cons (ss_set (i := 5) nd (se_bin op_add_all o2_add (se_var 5) (se_callB (i := 0) G__law_pick (hr.mono (by decide)) (sa_cons (se_var 3) (sa_nil)))))
        (sss_one (ss_app (i := 4) (se_var 5)))))
        (sss_one (ss_ret (se_var 4)))))
abbrev s__law_raw : Stmt := top 45
theorem sc__law_raw : FnScope ["_law_source_here", "_law_steady", "_law_head", "_law_low", "_law_many", "_law_loop", "_law_more", "_law_rise"] ["_law_source_here", "_law_steady"] (defScope s__law_raw) := ⟨rfl, rfl, rfl, by decide +kernel, rfl, by decide +kernel, by decide +kernel⟩
theorem ok__law_raw (T : Tx K mg) (G__law_pick : DefB P w K mg base 1 "_law_pick" 1 f__law_pick) (G__law_rising : DefB P w K mg base 3 "_law_rising" 3 f__law_rising) (F : FunD K "_law_raw" "_law_raw" (defArgs s__law_raw) (defBody s__law_raw) (defScope s__law_raw) dvs [] fa fd) : FnOk P w K mg base (L2.CX P w) 5 fa fd ["_law_source_here", "_law_steady"] (spB K 1 f__law_raw) := by
  have nd := sc__law_raw.nd
  refine fnB F sc__law_raw b__law_raw 6 1 rfl rfl fun cdv A outer s H E hr => ?_
  exact sss_cons (ss_set (i := 2) nd (se_callB (i := 0) G__law_rising (hr.mono (by decide)) (sa_cons (se_ix ix_all o2_ix (se_lst (sa_cons (se_int) (sa_cons (se_int) (sa_cons (se_int) (sa_cons (se_int) (sa_cons (se_int) (sa_cons (se_int) (sa_cons (se_int) (sa_cons (se_int) (sa_nil)))))))))) (se_callB (i := 0) G__law_pick (hr.mono (by decide)) (sa_cons (se_int) (sa_nil)))) (sa_cons (se_int) (sa_cons (se_int) (sa_nil))))))
        (sss_cons (ss_set (i := 3) nd (se_if (sc_cmp op_gt o2_gt (nomark _) (se_B1S (i := 2) call_len sv_len T.n_len boot_len) (se_int)) (se_ixS (i := 2) ix_all sv_ix (se_un un_neg o1_neg (se_int))) (se_int)))
        (sss_cons (ss_if (sc_w (sw_and (sc_not (sc_val (se_var 1))) (sw_and1 (sc_cmp (op_eqD hr.units) o2_eq (nomark _) (se_callB (i := 0) G__law_pick (hr.mono (by decide)) (sa_cons (se_int) (sa_nil))) (se_int))))) (sss_one (ss_ret (se_tup (sa_cons (se_Ty1S (i := 2) call_tuple_of sv_tup T.n_tuple PyProof.Rows.boot_tuple) (sa_cons (se_tup (sa_nil)) (sa_cons (se_int) (sa_nil))))))) (sss_nil))
        (sss_cons (ss_set (i := 4) nd (se_ix ix_all o2_ix (se_lst (sa_cons (se_int) (sa_cons (se_int) (sa_cons (se_int) (sa_cons (se_int) (sa_cons (se_int) (sa_cons (se_int) (sa_cons (se_int) (sa_cons (se_int) (sa_nil)))))))))) (se_callB (i := 0) G__law_pick (hr.mono (by decide)) (sa_cons (se_int) (sa_nil)))))
        (sss_cons (ss_set (i := 5) nd (se_callB (i := 0) G__law_rising (hr.mono (by decide)) (sa_cons (se_var 4) (sa_cons (se_var 3) (sa_cons (se_int) (sa_nil))))))
        (sss_cons (ss_set (i := 6) nd (se_ix ix_all o2_ix (se_lst (sa_cons (se_int) (sa_cons (se_int) (sa_cons (se_int) (sa_cons (se_int) (sa_cons (se_int) (sa_cons (se_var 4) (sa_cons (se_int) (sa_cons (se_int) (sa_nil)))))))))) (se_callB (i := 0) G__law_pick (hr.mono (by decide)) (sa_cons (se_int) (sa_nil)))))
        (sss_cons (ss_set (i := 7) nd (se_bin op_add_all o2_add (se_bin op_sub o2_sub (se_ixS (i := 5) ix_all sv_ix (se_un un_neg o1_neg (se_int))) (se_ixS (i := 5) ix_all sv_ix (se_int))) (se_var 6)))
        (sss_cons (ss_if (sc_w (sw_and (sc_val (se_var 1)) (sw_and1 (sc_cmp (op_eqD hr.units) o2_eq (nomark _) (se_var 7) (se_int))))) (sss_one (ss_set (i := 7) nd (se_int))) (sss_nil))
        (sss_one (ss_ret (se_tup (sa_cons (se_Ty1S (i := 2) call_tuple_of sv_tup T.n_tuple PyProof.Rows.boot_tuple) (sa_cons (se_Ty1S (i := 5) call_tuple_of sv_tup T.n_tuple PyProof.Rows.boot_tuple) (sa_cons (se_var 7) (sa_nil))))))))))))))
abbrev s__law_refused_value : Stmt := top 53
theorem sc__law_refused_value : FnScope ["_law_table_here", "_law_thing", "error"] ["_law_table_here", "_law_thing"] (defScope s__law_refused_value) := ⟨rfl, rfl, rfl, by decide +kernel, rfl, by decide +kernel, by decide +kernel⟩
theorem ok__law_refused_value (T : Tx K mg) (G_Table___call__ : CalOk P w K mg base 5 "Table" 2 f_Table___call__) (GX_Table___call__ : CalX P w K mg base 5 "Table" 2 f_Table___call__) (F : FunD K "_law_refused_value" "_law_refused_value" (defArgs s__law_refused_value) (defBody s__law_refused_value) (defScope s__law_refused_value) dvs [] fa fd) : FnOk P w K mg base (L2.CX P w) 7 fa fd ["_law_table_here", "_law_thing"] (spD K 2 f__law_refused_value) := by
  have nd := sc__law_refused_value.nd
  refine fnD F sc__law_refused_value b__law_refused_value 1 rfl fun cdv A outer s H E hr => ?_
  exact sss_cons (ss_tryAs (i := 2) rfl rfl nd rfl rfl ⟨rfl, by decide, .inl T.gx_BadCount⟩ takesD T.y_BadCount nofun (fun W pn xe tk po => sss_one (ss_expr (se_calX GX_Table___call__ (hr.mono (by decide)) tk (se_var 0) (sa_cons (se_var 1) (sa_nil))))) (fun a oe dd pn z f => sss_one (ss_ret (se_and (se_cmp (op_eqD hr.units) o2_eq (nomark _) (se_xf T.xf_BadCount_thing.1 T.xf_BadCount_thing.2 z f (se_var 2)) (se_var 1)) (se_one (se_not (se_isX T.xc_BadCount.2 T.xc_BadCount.1 T.xk_BadCount_BadTable z f (se_var 2) T.n_isinstance T.gx_BadTable)))))))
        (sss_one (ss_ret (se_bl)))
abbrev s_is_listed : Stmt := top 11
theorem sc_is_listed : FnScope ["thing"] ["thing"] (defScope s_is_listed) := ⟨rfl, rfl, rfl, by decide +kernel, rfl, by decide +kernel, by decide +kernel⟩
theorem ok_is_listed (T : Tx K mg) (F : FunD K "is_listed" "is_listed" (defArgs s_is_listed) (defBody s_is_listed) (defScope s_is_listed) dvs [] fa fd) : FnOk P w K mg base (L2.CX P w) 1 fa fd ["thing"] (spD K 1 f_is_listed) := by
  have nd := sc_is_listed.nd
  refine fnD F sc_is_listed b_is_listed 0 rfl fun cdv A outer s H E hr => ?_
  exact sss_one (ss_ret (se_isTL (cs := cs0) T.i_cs (se_var 0) T.n_isinstance T.n_tuple T.n_list))
abbrev s_deep : Stmt := top 13
theorem sc_deep : FnScope ["thing", "one"] ["thing"] (defScope s_deep) := ⟨rfl, rfl, rfl, by decide +kernel, rfl, by decide +kernel, by decide +kernel⟩
theorem ok_deep (T : Tx K mg) (G_is_listed : DefOk P w K mg base 1 "is_listed" 1 [] f_is_listed) (F : FunD K "deep" "deep" (defArgs s_deep) (defBody s_deep) (defScope s_deep) [] [] fa fd) (gm : mg "deep" = some (.ref fa)) : ∀ n, DefOk P w K mg base (3 + 2 * n) "deep" 1 [] (F_deep n)
  | 0 => defOk_of (fnOk_no (ps := ["thing"])) F gm (F.bindsN fun _ _ _ _ _ _ us hl => match us, hl with | [_], _ => rfl)
  | n + 1 => by
    have nd := sc_deep.nd
    have G_deep := ok_deep T G_is_listed F gm n
    refine defOk_of (ps := ["thing"]) (FnOk.mono (fnD (k := 3 + 2 * n) F sc_deep (b_deep (F_deep n)) 1 rfl fun cdv A outer s H E hr => ?_) (by omega)) F gm (F.bindsN fun _ _ _ _ _ _ us hl => match us, hl with | [_], _ => rfl)
    exact sss_cons (ss_if (sc_val (se_call0 G_is_listed (hr.mono (by omega)) (sa_cons (se_var 0) (sa_nil)))) (sss_one (ss_ret (se_Ty call_tuple_of co_tup T.n_tuple PyProof.Rows.boot_tuple (sa_cons (se_lc rfl nd (si_seq (se_var 0)) (blkOk_by (own := [("one", 1)]) (N := ["thing", "one"]) (sc := defScope s_deep) (by decide +kernel)) rfl (fun _ => sg_nm nd) (fun _ => se_call0 G_deep (hr.mono (by omega)) (sa_cons (se_var 1) (sa_nil)))) (sa_nil))))) (sss_nil))
        (sss_one (ss_ret (se_var 0)))
abbrev s_is_counts : Stmt := top 12
theorem sc_is_counts : FnScope ["thing", "one"] ["thing"] (defScope s_is_counts) := ⟨rfl, rfl, rfl, by decide +kernel, rfl, by decide +kernel, by decide +kernel⟩
theorem ok_is_counts (T : Tx K mg) (G_is_count : DefOk P w K mg base 3 "is_count" 1 [] f_is_count) (G_is_listed : DefOk P w K mg base 1 "is_listed" 1 [] f_is_listed) (F : FunD K "is_counts" "is_counts" (defArgs s_is_counts) (defBody s_is_counts) (defScope s_is_counts) dvs [] fa fd) : FnOk P w K mg base (L2.CX P w) 5 fa fd ["thing"] (spD K 1 f_is_counts) := by
  have nd := sc_is_counts.nd
  refine fnD F sc_is_counts b_is_counts 1 rfl fun cdv A outer s H E hr => ?_
  exact sss_one (ss_ret (se_and (se_call0 G_is_listed (hr.mono (by decide)) (sa_cons (se_var 0) (sa_nil))) (se_one (se_B (cr_all rfl) co_all T.n_all PyProof.Rows.boot_all (sa_cons (se_lc rfl nd (si_seq (se_var 0)) (blkOk_by (own := [("one", 1)]) (N := ["thing", "one"]) (sc := defScope s_is_counts) (by decide +kernel)) rfl (fun _ => sg_nm nd) (fun _ => se_call0 G_is_count (hr.mono (by decide)) (sa_cons (se_var 1) (sa_nil)))) (sa_nil))))))
abbrev s_is_rising : Stmt := top 35
theorem sc_is_rising : FnScope ["counts", "place"] ["counts"] (defScope s_is_rising) := ⟨rfl, rfl, rfl, by decide +kernel, rfl, by decide +kernel, by decide +kernel⟩
theorem ok_is_rising (T : Tx K mg) (F : FunD K "is_rising" "is_rising" (defArgs s_is_rising) (defBody s_is_rising) (defScope s_is_rising) dvs [] fa fd) : FnOk P w K mg base (L2.CX P w) 1 fa fd ["counts"] (spD K 1 f_is_rising) := by
  have nd := sc_is_rising.nd
  refine fnD F sc_is_rising b_is_rising 1 rfl fun cdv A outer s H E hr => ?_
  exact sss_one (ss_ret (se_B (cr_all rfl) co_all T.n_all PyProof.Rows.boot_all (sa_cons (se_lc rfl nd (si_rng1 T.n_range (sa_cons (se_bin op_sub o2_sub (se_B1S (i := 0) call_len sv_len T.n_len boot_len) (se_int)) (sa_nil))) (blkOk_by (own := [("place", 1)]) (N := ["counts", "place"]) (sc := defScope s_is_rising) (by decide +kernel)) rfl (fun _ => sg_nm nd) (fun _ => se_cmp op_le_all o2_le (nomark _) (se_ixS (i := 0) ix_all sv_ix (se_var 1)) (se_ixS (i := 0) ix_all sv_ix (se_bin op_add_all o2_add (se_var 1) (se_int))))) (sa_nil))))
abbrev s_short_loop : Stmt := top 22
theorem sc_short_loop : FnScope ["loop", "rise", "many", "step", "place"] ["loop", "rise"] (defScope s_short_loop) := ⟨rfl, rfl, rfl, by decide +kernel, rfl, by decide +kernel, by decide +kernel⟩
theorem ok_short_loop (T : Tx K mg) (F : FunD K "short_loop" "short_loop" (defArgs s_short_loop) (defBody s_short_loop) (defScope s_short_loop) dvs [] fa fd) : FnOk P w K mg base (L2.CX P w) 1 fa fd ["loop", "rise"] (spD K 2 f_short_loop) := by
  have nd := sc_short_loop.nd
  refine fnD F sc_short_loop b_short_loop 3 rfl fun cdv A outer s H E hr => ?_
  exact sss_cons (ss_for (passes_of rfl) rfl (si_rng2 T.n_range (sa_cons (se_int) (sa_cons (se_B1S (i := 0) call_len sv_len T.n_len boot_len) (sa_nil)))) (sg_nm nd) (sss_one (ss_if (sc_w (sw_and (sc_cmp (op_eqD hr.units) o2_eq (nomark _) (se_bin op_mod o2_mod (se_B1S (i := 0) call_len sv_len T.n_len boot_len) (se_var 2)) (se_int)) (sw_and1 (sc_cmp (op_eqD hr.units) o2_eq (nomark _) (se_bin op_mod o2_mod (se_var 1) (se_bin op_fdivW o2_div (se_B1S (i := 0) call_len sv_len T.n_len boot_len) (se_var 2))) (se_int))))) (sss_cons (ss_set (i := 3) nd (se_bin op_fdivW o2_div (se_var 1) (se_bin op_fdivW o2_div (se_B1S (i := 0) call_len sv_len T.n_len boot_len) (se_var 2))))
        (sss_one (ss_if (sc_val (se_B (cr_all rfl) co_all T.n_all PyProof.Rows.boot_all (sa_cons (se_lc rfl nd (si_rng1 T.n_range (sa_cons (se_bin op_sub o2_sub (se_B1S (i := 0) call_len sv_len T.n_len boot_len) (se_var 2)) (sa_nil))) (blkOk_by (own := [("place", 4)]) (N := ["loop", "rise", "many", "step", "place"]) (sc := defScope s_short_loop) (by decide +kernel)) rfl (fun _ => sg_nm nd) (fun _ => se_cmp (op_eqD hr.units) o2_eq (nomark _) (se_ixS (i := 0) ix_all sv_ix (se_bin op_add_all o2_add (se_var 4) (se_var 2))) (se_bin op_add_all o2_add (se_ixS (i := 0) ix_all sv_ix (se_var 4)) (se_var 3)))) (sa_nil)))) (sss_one (ss_ret (se_tup (sa_cons (se_slS (i := 0) sl_all sv_sl (so_none) (so_some (se_var 2))) (sa_cons (se_var 3) (sa_nil)))))) (sss_nil)))) (sss_nil))))
        (sss_one (ss_ret (se_tup (sa_cons (se_var 0) (sa_cons (se_var 1) (sa_nil))))))
abbrev s_plain_form : Stmt := top 23
theorem sc_plain_form : FnScope ["head", "loop", "rise", "keep", "back", "told", "place"] ["head", "loop", "rise"] (defScope s_plain_form) := ⟨rfl, rfl, rfl, by decide +kernel, rfl, by decide +kernel, by decide +kernel⟩
theorem ok_plain_form (T : Tx K mg) (G_short_loop : DefOk P w K mg base 1 "short_loop" 2 [] f_short_loop) (G_value_at : DefOk P w K mg base 3 "value_at" 2 [] f_value_at) (F : FunD K "plain_form" "plain_form" (defArgs s_plain_form) (defBody s_plain_form) (defScope s_plain_form) dvs [] fa fd) : FnOk P w K mg base (L2.CX P w) 5 fa fd ["head", "loop", "rise"] (spD K 3 f_plain_form) := by
  have nd := sc_plain_form.nd
  refine fnD F sc_plain_form b_plain_form 4 rfl fun cdv A outer s H E hr => ?_
  exact sss_cons (ss_if (sc_cmp (op_eqD hr.units) o2_eq (nomark _) (se_B1S (i := 1) call_len sv_len T.n_len boot_len) (se_int)) (sss_one (ss_ret (se_tup (sa_cons (se_var 0) (sa_cons (se_tup (sa_nil)) (sa_cons (se_int) (sa_nil))))))) (sss_nil))
        (sss_cons (ss_asg (se_call0 G_short_loop (hr.mono (by decide)) (sa_cons (se_var 1) (sa_cons (se_var 2) (sa_nil)))) (sg_tp rfl (sgs_cons (sg_nm nd) (sgs_cons (sg_nm nd) (sgs_nil)))))
        (sss_cons (ss_set (i := 3) nd (se_B1S (i := 0) call_len sv_len T.n_len boot_len))
        (sss_cons (ss_while (passes_of rfl) (sc_cmp op_gt o2_gt (nomark _) (se_var 3) (se_int)) (sss_cons (ss_set (i := 4) nd (se_bin op_sub o2_sub (se_B1S (i := 0) call_len sv_len T.n_len boot_len) (se_var 3)))
        (sss_cons (ss_if (sc_cmp (op_neD hr.units) o2_ne (nomark _) (se_ixS (i := 0) ix_all sv_ix (se_bin op_sub o2_sub (se_var 3) (se_int))) (se_bin op_sub o2_sub (se_ixS (i := 1) ix_all sv_ix (se_bin op_sub o2_sub (se_un un_neg o1_neg (se_int)) (se_bin op_mod o2_mod (se_var 4) (se_B1S (i := 1) call_len sv_len T.n_len boot_len)))) (se_bin op_mul_all o2_mul (se_var 2) (se_bin op_add_all o2_add (se_bin op_fdivW o2_div (se_var 4) (se_B1S (i := 1) call_len sv_len T.n_len boot_len)) (se_int))))) (sss_one (ss_brk)) (sss_nil))
        (sss_one (ss_set (i := 3) nd (se_bin op_sub o2_sub (se_var 3) (se_int)))))))
        (sss_cons (ss_set (i := 5) nd (se_tup (sa_cons (se_var 0) (sa_cons (se_var 1) (sa_cons (se_var 2) (sa_nil))))))
        (sss_one (ss_ret (se_tup (sa_cons (se_slS (i := 0) sl_all sv_sl (so_none) (so_some (se_var 3))) (sa_cons (se_Ty call_tuple_of co_tup T.n_tuple PyProof.Rows.boot_tuple (sa_cons (se_lc rfl nd (si_rng1 T.n_range (sa_cons (se_B1S (i := 1) call_len sv_len T.n_len boot_len) (sa_nil))) (blkOk_by (own := [("place", 6)]) (N := ["head", "loop", "rise", "keep", "back", "told", "place"]) (sc := defScope s_plain_form) (by decide +kernel)) rfl (fun _ => sg_nm nd) (fun _ => se_call0 G_value_at (hr.mono (by decide)) (sa_cons (se_var 5) (sa_cons (se_bin op_add_all o2_add (se_bin op_add_all o2_add (se_var 3) (se_int)) (se_var 6)) (sa_nil))))) (sa_nil))) (sa_cons (se_var 2) (sa_nil)))))))))))
abbrev s_checked_table : Stmt := top 36
theorem sc_checked_table : FnScope ["head", "loop", "rise"] ["head", "loop", "rise"] (defScope s_checked_table) := ⟨rfl, rfl, rfl, by decide +kernel, rfl, by decide +kernel, by decide +kernel⟩
theorem ok_checked_table (T : Tx K mg) (G_deep : DefOk P w K mg base 11 "deep" 1 [] f_deep) (G_is_count : DefOk P w K mg base 3 "is_count" 1 [] f_is_count) (G_is_counts : DefOk P w K mg base 5 "is_counts" 1 [] f_is_counts) (G_is_rising : DefOk P w K mg base 1 "is_rising" 1 [] f_is_rising) (G_plain_form : DefOk P w K mg base 5 "plain_form" 3 [] f_plain_form) (X_BadTable : ExcOk P w K mg base 2 "BadTable" "word" okS) (F : FunD K "checked_table" "checked_table" (defArgs s_checked_table) (defBody s_checked_table) (defScope s_checked_table) dvs [] fa fd) : FnOk P w K mg base (L2.CX P w) 13 fa fd ["head", "loop", "rise"] (spD K 3 f_checked_table) := by
  have nd := sc_checked_table.nd
  refine fnD F sc_checked_table b_checked_table 0 rfl fun cdv A outer s H E hr => ?_
  exact sss_cons (ss_if (sc_w (sw_or (sc_not (sc_val (se_call0 G_is_counts (hr.mono (by decide)) (sa_cons (se_var 0) (sa_nil))))) (sw_or1 (sc_not (sc_val (se_call0 G_is_rising (hr.mono (by decide)) (sa_cons (se_var 0) (sa_nil)))))))) (sss_one (ss_raise X_BadTable (hr.mono (by decide)) rfl takesD (sa_cons (se_str) (sa_nil)))) (sss_nil))
        (sss_cons (ss_if (sc_w (sw_or (sc_not (sc_val (se_call0 G_is_counts (hr.mono (by decide)) (sa_cons (se_var 1) (sa_nil))))) (sw_or1 (sc_not (sc_val (se_call0 G_is_rising (hr.mono (by decide)) (sa_cons (se_var 1) (sa_nil)))))))) (sss_one (ss_raise X_BadTable (hr.mono (by decide)) rfl takesD (sa_cons (se_str) (sa_nil)))) (sss_nil))
        (sss_cons (ss_if (sc_w (sw_and (sc_cmp op_gt o2_gt (nomark _) (se_B1S (i := 0) call_len sv_len T.n_len boot_len) (se_int)) (sw_and (sc_cmp op_gt o2_gt (nomark _) (se_B1S (i := 1) call_len sv_len T.n_len boot_len) (se_int)) (sw_and1 (sc_cmp op_lt_all o2_lt (nomark _) (se_ixS (i := 1) ix_all sv_ix (se_int)) (se_ixS (i := 0) ix_all sv_ix (se_un un_neg o1_neg (se_int)))))))) (sss_one (ss_raise X_BadTable (hr.mono (by decide)) rfl takesD (sa_cons (se_str) (sa_nil)))) (sss_nil))
        (sss_cons (ss_if (sc_w (sw_or (sc_not (sc_val (se_call0 G_is_count (hr.mono (by decide)) (sa_cons (se_var 2) (sa_nil))))) (sw_or1 (sc_w (sw_and (sc_cmp (op_eqD hr.units) o2_eq (nomark _) (se_B1S (i := 1) call_len sv_len T.n_len boot_len) (se_int)) (sw_and1 (sc_cmp op_gt o2_gt (nomark _) (se_var 2) (se_int)))))))) (sss_one (ss_raise X_BadTable (hr.mono (by decide)) rfl takesD (sa_cons (se_str) (sa_nil)))) (sss_nil))
        (sss_cons (ss_if (sc_w (sw_and (sc_cmp op_gt o2_gt (nomark _) (se_B1S (i := 1) call_len sv_len T.n_len boot_len) (se_int)) (sw_and1 (sc_cmp op_gt o2_gt (nomark _) (se_ixS (i := 1) ix_all sv_ix (se_un un_neg o1_neg (se_int))) (se_bin op_add_all o2_add (se_ixS (i := 1) ix_all sv_ix (se_int)) (se_var 2)))))) (sss_one (ss_raise X_BadTable (hr.mono (by decide)) rfl takesD (sa_cons (se_str) (sa_nil)))) (sss_nil))
        (sss_one (ss_ret (se_call0 G_plain_form (hr.mono (by decide)) (sa_cons (se_call0 G_deep (hr.mono (by decide)) (sa_cons (se_var 0) (sa_nil))) (sa_cons (se_call0 G_deep (hr.mono (by decide)) (sa_cons (se_var 1) (sa_nil))) (sa_cons (se_var 2) (sa_nil)))))))))))
abbrev s_Table___init__ : Stmt := inClass (top 37) 0
theorem sc_Table___init__ : FnScope ["self", "head", "loop", "rise", "told"] ["self", "head", "loop", "rise"] (defScope s_Table___init__) := ⟨rfl, rfl, rfl, by decide +kernel, rfl, by decide +kernel, by decide +kernel⟩
theorem ok_Table___init__ (T : Tx K mg) (G_checked_table : DefOk P w K mg base 13 "checked_table" 3 [] f_checked_table) (F : FunD K "__init__" "Table.__init__" (defArgs s_Table___init__) (defBody s_Table___init__) (defScope s_Table___init__) dvs [] fa fd) : FnOk P w K mg base (L2.CX P w) 15 fa fd ["self", "head", "loop", "rise"] (spB K 3 f_Table___init__) := by
  have nd := sc_Table___init__.nd
  refine fnB F sc_Table___init__ b_Table___init__ 1 3 rfl rfl fun cdv A outer s H E hr => ?_
  exact sss_cons (ss_set (i := 4) nd (se_call G_checked_table (hr.mono (by decide)) (fun σ => passAt takesD σ) (sa_cons (se_var 1) (sa_cons (se_var 2) (sa_cons (se_var 3) (sa_nil))))))
        (sss_cons (ss_fldSet (i := 0) T.f_head (se_ixS (i := 4) ix_all sv_ix (se_int)))
        (sss_cons (ss_fldSet (i := 0) T.f_loop (se_ixS (i := 4) ix_all sv_ix (se_int)))
        (sss_one (ss_fldSet (i := 0) T.f_rise (se_ixS (i := 4) ix_all sv_ix (se_int))))))
abbrev s__law_seen : Stmt := top 52
theorem sc__law_seen : FnScope ["_law_head", "_law_loop", "_law_rise", "error"] ["_law_head", "_law_loop", "_law_rise"] (defScope s__law_seen) := ⟨rfl, rfl, rfl, by decide +kernel, rfl, by decide +kernel, by decide +kernel⟩
theorem ok__law_seen (T : Tx K mg) (M_Table : MakOk P w K mg base 15 "Table" 3 [] f_Table___init__) (M_Table_1 : MakOk P w K mg base 15 "Table" 3 dd_Table_1 f_Table___init__) (M_Table_2 : MakOk P w K mg base 15 "Table" 3 dd_Table_2 f_Table___init__) (F : FunD K "_law_seen" "_law_seen" (defArgs s__law_seen) (defBody s__law_seen) (defScope s__law_seen) dvs [] fa fd) : FnOk P w K mg base (L2.CX P w) 17 fa fd ["_law_head", "_law_loop", "_law_rise"] (spD K 3 f__law_seen) := by
  have nd := sc__law_seen.nd
  refine fnD F sc__law_seen b__law_seen 1 rfl fun cdv A outer s H E hr => ?_
  exact sss_cons (ss_tryAs (i := 3) rfl rfl nd rfl rfl ⟨rfl, by decide, .inl T.gx_BadTable⟩ takesD T.y_BadTable nofun (fun W pn xe tk po => sss_one (ss_expr (se_makX M_Table (hr.mono (by decide)) tk (sa_cons (se_var 0) (sa_cons (se_var 1) (sa_cons (se_var 2) (sa_nil))))))) (fun a oe dd pn z f => sss_cons (ss_if (sc_w (sw_or (sc_not (sc_val (se_isX T.xc_BadTable.2 T.xc_BadTable.1 T.xk_BadTable_NeedforthError z f (se_var 3) T.n_isinstance T.gx_NeedforthError))) (sw_or1 (sc_val (se_isX T.xc_BadTable.2 T.xc_BadTable.1 T.xk_BadTable_TooMany z f (se_var 3) T.n_isinstance T.gx_TooMany))))) (sss_one (ss_ret (se_tup (sa_cons (se_str) (sa_nil))))) (sss_nil))
        (sss_one (ss_ret (se_xf T.xf_BadTable_word.1 T.xf_BadTable_word.2 z f (se_var 3))))))
        (sss_one (ss_ret (se_non)))
abbrev s_Table_shift : Stmt := inClass (top 37) 1
theorem sc_Table_shift : FnScope ["k"] ["k"] (defScope s_Table_shift) := ⟨rfl, rfl, rfl, by decide +kernel, rfl, by decide +kernel, by decide +kernel⟩
theorem ok_Table_shift (T : Tx K mg) (M_Table : MakOk P w K mg base 15 "Table" 3 [] f_Table___init__) (M_Table_1 : MakOk P w K mg base 15 "Table" 3 dd_Table_1 f_Table___init__) (M_Table_2 : MakOk P w K mg base 15 "Table" 3 dd_Table_2 f_Table___init__) (G_is_integer : DefOk P w K mg base 1 "is_integer" 1 [] f_is_integer) (X_BadCount : ExcOk P w K mg base 2 "BadCount" "thing" okT) (F : FunD K "shift" "Table.shift" (defArgs s_Table_shift) (defBody s_Table_shift) (defScope s_Table_shift) dvs [] fa fd) : FnOk P w K mg base (L2.CX P w) 17 fa fd ["k"] (spD K 1 f_Table_shift) := by
  have nd := sc_Table_shift.nd
  refine fnD F sc_Table_shift b_Table_shift 0 rfl fun cdv A outer s H E hr => ?_
  exact sss_cons (ss_if (sc_w (sw_or (sc_not (sc_val (se_call0 G_is_integer (hr.mono (by decide)) (sa_cons (se_var 0) (sa_nil))))) (sw_or1 (sc_cmp op_gt o2_gt (nomark _) (se_B call_abs co_abs T.n_abs PyProof.Rows.boot_abs (sa_cons (se_var 0) (sa_nil))) (se_globK T.k_MOST_SHIFT))))) (sss_one (ss_raise X_BadCount (hr.mono (by decide)) rfl takesD (sa_cons (se_var 0) (sa_nil)))) (sss_nil))
        (sss_cons (ss_if (sc_cmp op_ge o2_ge (nomark _) (se_var 0) (se_int)) (sss_one (ss_ret (se_makX M_Table (hr.mono (by decide)) takesD (sa_cons (se_tup (sa_nil)) (sa_cons (se_tup (sa_cons (se_bin op_add_all o2_add (se_int) (se_var 0)) (sa_nil))) (sa_cons (se_int) (sa_nil))))))) (sss_nil))
        (sss_one (ss_ret (se_makX M_Table (hr.mono (by decide)) takesD (sa_cons (se_bin op_mulT o2_rep (se_tup (sa_cons (se_int) (sa_nil))) (se_bin op_sub o2_sub (se_un un_neg o1_neg (se_var 0)) (se_int))) (sa_cons (se_tup (sa_cons (se_int) (sa_nil))) (sa_cons (se_int) (sa_nil))))))))
abbrev s__law_shift : Stmt := top 46
theorem sc__law_shift : FnScope ["_law_k"] ["_law_k"] (defScope s__law_shift) := ⟨rfl, rfl, rfl, by decide +kernel, rfl, by decide +kernel, by decide +kernel⟩
theorem ok__law_shift (T : Tx K mg) (F : FunD K "_law_shift" "_law_shift" (defArgs s__law_shift) (defBody s__law_shift) (defScope s__law_shift) dvs [] fa fd) : FnOk P w K mg base (L2.CX P w) 1 fa fd ["_law_k"] (spD K 1 f__law_shift) := by
  have nd := sc__law_shift.nd
  refine fnD F sc__law_shift b__law_shift 0 rfl fun cdv A outer s H E hr => ?_
  exact sss_cons (ss_if (sc_cmp op_ge o2_ge (nomark _) (se_var 0) (se_int)) (sss_one (ss_ret (se_tup (sa_cons (se_tup (sa_nil)) (sa_cons (se_tup (sa_cons (se_bin op_add_all o2_add (se_int) (se_var 0)) (sa_nil))) (sa_cons (se_int) (sa_nil))))))) (sss_nil))
        (sss_one (ss_ret (se_tup (sa_cons (se_bin op_mulT o2_rep (se_tup (sa_cons (se_int) (sa_nil))) (se_bin op_sub o2_sub (se_un un_neg o1_neg (se_var 0)) (se_int))) (sa_cons (se_tup (sa_cons (se_int) (sa_nil))) (sa_cons (se_int) (sa_nil)))))))
abbrev s__law_told : Stmt := top 47
theorem sc__law_told : FnScope ["_law_table_here"] ["_law_table_here"] (defScope s__law_told) := ⟨rfl, rfl, rfl, by decide +kernel, rfl, by decide +kernel, by decide +kernel⟩
theorem ok__law_told (T : Tx K mg) (F : FunD K "_law_told" "_law_told" (defArgs s__law_told) (defBody s__law_told) (defScope s__law_told) dvs [] fa fd) : FnOk P w K mg base (L2.CX P w) 1 fa fd ["_law_table_here"] (spD K 1 f__law_told) := by
  have nd := sc__law_told.nd
  refine fnD F sc__law_told b__law_told 0 rfl fun cdv A outer s H E hr => ?_
  exact sss_one (ss_ret (se_tup (sa_cons (se_fldS (i := 0) T.f_head) (sa_cons (se_fldS (i := 0) T.f_loop) (sa_cons (se_fldS (i := 0) T.f_rise) (sa_nil))))))
abbrev s__law_shifts : Stmt := top 54
theorem sc__law_shifts : FnScope ["_law_source_here", "_law_k", "_law_bad", "error"] ["_law_source_here"] (defScope s__law_shifts) := ⟨rfl, rfl, rfl, by decide +kernel, rfl, by decide +kernel, by decide +kernel⟩
theorem ok__law_shifts (T : Tx K mg) (G_Table_shift : SmOk P w K mg base 17 "Table" "shift" 1 f_Table_shift) (G__law_pick : DefB P w K mg base 1 "_law_pick" 1 f__law_pick) (G__law_shift : DefOk P w K mg base 1 "_law_shift" 1 [] f__law_shift) (G__law_told : DefOk P w K mg base 1 "_law_told" 1 [] f__law_told) (F : FunD K "_law_shifts" "_law_shifts" (defArgs s__law_shifts) (defBody s__law_shifts) (defScope s__law_shifts) dvs [] fa fd) : FnOk P w K mg base (L2.CX P w) 19 fa fd ["_law_source_here"] (spB K 0 f__law_shifts) := by
  have nd := sc__law_shifts.nd
  refine fnB F sc__law_shifts b__law_shifts 3 0 rfl rfl fun cdv A outer s H E hr => ?_
  exact sss_cons (ss_set (i := 1) nd (se_ix ix_all o2_ix (se_lst (sa_cons (se_int) (sa_cons (se_un un_neg o1_neg (se_int)) (sa_cons (se_int) (sa_cons (se_un un_neg o1_neg (se_int)) (sa_cons (se_int) (sa_nil))))))) (se_callB (i := 0) G__law_pick (hr.mono (by decide)) (sa_cons (se_int) (sa_nil)))))
        (sss_cons (ss_if (sc_cmp (op_neD hr.units) o2_ne (nomark _) (se_call0 G__law_told (hr.mono (by decide)) (sa_cons (se_smethX G_Table_shift (hr.mono (by decide)) takesD (sa_cons (se_var 1) (sa_nil))) (sa_nil))) (se_call0 G__law_shift (hr.mono (by decide)) (sa_cons (se_var 1) (sa_nil)))) (sss_one (ss_ret (se_bl))) (sss_nil))
        (sss_cons (ss_set (i := 2) nd (se_ix ix_all o2_ix (se_lst (sa_cons (se_int) (sa_cons (se_un un_neg o1_neg (se_int)) (sa_cons (se_str) (sa_cons (se_non) (sa_cons (se_bl) (sa_cons (se_bin op_pow o2_pow (se_int) (se_int)) (sa_nil)))))))) (se_callB (i := 0) G__law_pick (hr.mono (by decide)) (sa_cons (se_int) (sa_nil)))))
        (sss_cons (ss_tryAs (i := 3) rfl rfl nd rfl rfl ⟨rfl, by decide, .inl T.gx_BadCount⟩ takesD T.y_BadCount (by intro C hC; simp only [List.mem_cons, List.not_mem_nil, or_false] at hC; rcases hC with rfl <;> first | exact T.z_BadTable_BadCount) (fun W pn xe tk po => sss_one (ss_expr (se_smethX G_Table_shift (hr.mono (by decide)) tk (sa_cons (se_var 2) (sa_nil))))) (fun a oe dd pn z f => sss_one (ss_ret (se_cmp (op_eqD hr.units) o2_eq (nomark _) (se_xf T.xf_BadCount_thing.1 T.xf_BadCount_thing.2 z f (se_var 3)) (se_var 2)))))
        (sss_one (ss_ret (se_bl))))))
abbrev s__law_source : Stmt := top 40
theorem sc__law_source : FnScope ["_law_script", "_law_place", "_law_cell", "_law_seed", "_law_one", "_law_number"] ["_law_script", "_law_place"] (defScope s__law_source) := ⟨rfl, rfl, rfl, by decide +kernel, rfl, by decide +kernel, by decide +kernel⟩
theorem ok__law_source (T : Tx K mg) (F : FunD K "_law_source" "_law_source" (defArgs s__law_source) (defBody s__law_source) (defScope s__law_source) dvs [] fa fd) : FnOk P w K mg base (L2.CX P w) 1 fa fd ["_law_script", "_law_place"] (spD K 2 f__law_source) := by
  have nd := sc__law_source.nd
  refine fnD F sc__law_source b__law_source 4 rfl fun cdv A outer s H E hr => ?_
  exact sss_cons (ss_set (i := 2) nd (se_if (sc_cmp op_lt_all o2_lt (nomark _) (se_var 1) (se_B1S (i := 0) call_len sv_len T.n_len boot_len)) (se_ixS (i := 0) ix_all sv_ix (se_var 1)) (se_bin op_add_all o2_add (se_bin op_mul_all o2_mul (se_int) (se_var 1)) (se_int))))
        (sss_cons (ss_set (i := 3) nd (se_bin op_mod o2_mod (se_Ty call_int1 co_int T.n_int PyProof.Rows.boot_int (sa_cons (se_bin op_add_all o2_add (se_bin op_mod o2_mod (se_Ty call_int1 co_int T.n_int PyProof.Rows.boot_int (sa_cons (se_var 2) (sa_nil))) (se_int)) (se_bin op_mul_all o2_mul (se_int) (se_var 1))) (sa_nil))) (se_int)))
        (sss_cons (ss_for (passes_of rfl) rfl (si_seq (se_slS (i := 0) sl_all sv_sl (so_none) (so_some (se_int)))) (sg_nm nd) (sss_one (ss_set (i := 3) nd (se_bin op_mod o2_mod (se_Ty call_int1 co_int T.n_int PyProof.Rows.boot_int (sa_cons (se_bin op_add_all o2_add (se_bin op_mul_all o2_mul (se_var 3) (se_int)) (se_bin op_mod o2_mod (se_Ty call_int1 co_int T.n_int PyProof.Rows.boot_int (sa_cons (se_var 4) (sa_nil))) (se_int))) (sa_nil))) (se_int)))))
        (sss_cons (ss_set (i := 5) nd (se_B call_abs co_abs T.n_abs PyProof.Rows.boot_abs (sa_cons (se_var 2) (sa_nil))))
        (sss_cons (ss_if (sc_cmp op_lt_all o2_lt (nomark _) (se_var 5) (se_bin op_pow o2_pow (se_int) (se_int))) (sss_one (ss_ret (se_lst (sa_cons (se_int) (sa_cons (se_var 3) (sa_cons (se_int) (sa_nil))))))) (sss_nil))
        (sss_cons (ss_if (sc_cmp op_gt o2_gt (nomark _) (se_bin op_shr o2_shr (se_var 5) (se_int)) (se_int)) (sss_one (ss_set (i := 5) nd (se_bin op_sub o2_sub (se_var 5) (se_bin op_shlW o2_shl (se_bin op_shr o2_shr (se_var 5) (se_int)) (se_int))))) (sss_nil))
        (sss_one (ss_ret (se_lst (sa_cons (se_var 5) (sa_cons (se_var 3) (sa_cons (se_int) (sa_nil))))))))))))
abbrev s__law_spoilt : Stmt := top 49
theorem sc__law_spoilt : FnScope ["_law_source_here", "_law_row", "_law_way", "_law_place", "_law_bad"] ["_law_source_here", "_law_row"] (defScope s__law_spoilt) := ⟨rfl, rfl, rfl, by decide +kernel, rfl, by decide +kernel, by decide +kernel⟩
theorem ok__law_spoilt (T : Tx K mg) (G__law_pick : DefB P w K mg base 1 "_law_pick" 1 f__law_pick) (F : FunD K "_law_spoilt" "_law_spoilt" (defArgs s__law_spoilt) (defBody s__law_spoilt) (defScope s__law_spoilt) dvs [] fa fd) : FnOk P w K mg base (L2.CX P w) 3 fa fd ["_law_source_here", "_law_row"] (spB K 1 f__law_spoilt) := by
  have nd := sc__law_spoilt.nd
  refine fnB F sc__law_spoilt b__law_spoilt 3 1 rfl rfl fun cdv A outer s H E hr => ?_
  exact sss_cons (ss_set (i := 2) nd (se_callB (i := 0) G__law_pick (hr.mono (by decide)) (sa_cons (se_int) (sa_nil))))
        (sss_cons (ss_if (sc_cmp (op_eqD hr.units) o2_eq (nomark _) (se_var 2) (se_int)) (sss_one (ss_ret (se_ix ix_all o2_ix (se_lst (sa_cons (se_non) (sa_cons (se_int) (sa_cons (se_str) (sa_cons (se_dic0) (sa_cons (se_bl) (sa_nil))))))) (se_callB (i := 0) G__law_pick (hr.mono (by decide)) (sa_cons (se_int) (sa_nil)))))) (sss_nil))
        (sss_cons (ss_set (i := 3) nd (se_callB (i := 0) G__law_pick (hr.mono (by decide)) (sa_cons (se_bin op_add_all o2_add (se_B1S (i := 1) call_len sv_len T.n_len boot_len) (se_int)) (sa_nil))))
        (sss_cons (ss_set (i := 4) nd (se_ix ix_all o2_ix (se_lst (sa_cons (se_bl) (sa_cons (se_str) (sa_cons (se_non) (sa_cons (se_bin op_sub o2_sub (se_un un_neg o1_neg (se_int)) (se_callB (i := 0) G__law_pick (hr.mono (by decide)) (sa_cons (se_int) (sa_nil)))) (sa_cons (se_tup (sa_cons (se_int) (sa_nil))) (sa_nil))))))) (se_callB (i := 0) G__law_pick (hr.mono (by decide)) (sa_cons (se_int) (sa_nil)))))
        (sss_cons (ss_if (sc_w (sw_and (sc_cmp (op_eqD hr.units) o2_eq (nomark _) (se_var 2) (se_int)) (sw_and1 (sc_cmp op_lt_all o2_lt (nomark _) (se_var 3) (se_B1S (i := 1) call_len sv_len T.n_len boot_len))))) (sss_one (ss_ret (se_bin op_add_all o2_add (se_bin op_add_all o2_add (se_Ty call_list_of co_lst T.n_list PyProof.Rows.boot_list (sa_cons (se_slS (i := 1) sl_all sv_sl (so_none) (so_some (se_var 3))) (sa_nil))) (se_lst (sa_cons (se_bin op_add_all o2_add (se_ixS (i := 1) ix_all sv_ix (se_var 3)) (se_int)) (sa_nil)))) (se_Ty call_list_of co_lst T.n_list PyProof.Rows.boot_list (sa_cons (se_slS (i := 1) sl_all sv_sl (so_some (se_var 3)) (so_none)) (sa_nil)))))) (sss_nil))
        (sss_cons (ss_if (sc_w (sw_and (sc_cmp (op_eqD hr.units) o2_eq (nomark _) (se_var 2) (se_int)) (sw_and1 (sc_cmp op_gt o2_gt (nomark _) (se_B1S (i := 1) call_len sv_len T.n_len boot_len) (se_int))))) (sss_one (ss_ret (se_if (sc_cmp op_gt o2_gt (nomark _) (se_ixS (i := 1) ix_all sv_ix (se_un un_neg o1_neg (se_int))) (se_int)) (se_bin op_add_all o2_add (se_Ty1S (i := 1) call_list_of sv_lst T.n_list PyProof.Rows.boot_list) (se_lst (sa_cons (se_bin op_sub o2_sub (se_ixS (i := 1) ix_all sv_ix (se_un un_neg o1_neg (se_int))) (se_int)) (sa_nil)))) (se_bin op_add_all o2_add (se_Ty1S (i := 1) call_list_of sv_lst T.n_list PyProof.Rows.boot_list) (se_lst (sa_cons (se_un un_neg o1_neg (se_int)) (sa_nil))))))) (sss_nil))
        (sss_one (ss_ret (se_bin op_add_all o2_add (se_bin op_add_all o2_add (se_Ty call_list_of co_lst T.n_list PyProof.Rows.boot_list (sa_cons (se_slS (i := 1) sl_all sv_sl (so_none) (so_some (se_var 3))) (sa_nil))) (se_lst (sa_cons (se_var 4) (sa_nil)))) (se_Ty call_list_of co_lst T.n_list PyProof.Rows.boot_list (sa_cons (se_slS (i := 1) sl_all sv_sl (so_some (se_var 3)) (so_none)) (sa_nil)))))))))))
abbrev s__law_table : Stmt := top 48
theorem sc__law_table : FnScope ["_law_raw_here"] ["_law_raw_here"] (defScope s__law_table) := ⟨rfl, rfl, rfl, by decide +kernel, rfl, by decide +kernel, by decide +kernel⟩
theorem ok__law_table (T : Tx K mg) (M_Table : MakOk P w K mg base 15 "Table" 3 [] f_Table___init__) (M_Table_1 : MakOk P w K mg base 15 "Table" 3 dd_Table_1 f_Table___init__) (M_Table_2 : MakOk P w K mg base 15 "Table" 3 dd_Table_2 f_Table___init__) (F : FunD K "_law_table" "_law_table" (defArgs s__law_table) (defBody s__law_table) (defScope s__law_table) dvs [] fa fd) : FnOk P w K mg base (L2.CX P w) 17 fa fd ["_law_raw_here"] (spD K 1 f__law_table) := by
  have nd := sc__law_table.nd
  refine fnD F sc__law_table b__law_table 0 rfl fun cdv A outer s H E hr => ?_
  exact sss_one (ss_ret (se_makX M_Table (hr.mono (by decide)) takesD (sa_cons (se_ixS (i := 0) ix_all sv_ix (se_int)) (sa_cons (se_ixS (i := 0) ix_all sv_ix (se_int)) (sa_cons (se_ixS (i := 0) ix_all sv_ix (se_int)) (sa_nil))))))
abbrev s_law : Stmt := top 55
theorem sc_law : FnScope ["_law_script", "_law_source_here", "_law_raw_here", "_law_head", "_law_loop", "_law_rise", "_law_way", "_law_table_here", "_law_thing", "_law_one"] ["_law_script"] (defScope s_law) := ⟨rfl, rfl, rfl, by decide +kernel, rfl, by decide +kernel, by decide +kernel⟩
theorem ok_law (T : Tx K mg) (G_Table___call__ : CalOk P w K mg base 5 "Table" 2 f_Table___call__) (GX_Table___call__ : CalX P w K mg base 5 "Table" 2 f_Table___call__) (G__law_due : DefOk P w K mg base 7 "_law_due" 3 [] f__law_due) (G__law_pick : DefB P w K mg base 1 "_law_pick" 1 f__law_pick) (G__law_raw : DefB P w K mg base 5 "_law_raw" 1 f__law_raw) (G__law_refused_value : DefOk P w K mg base 7 "_law_refused_value" 2 [] f__law_refused_value) (G__law_seen : DefOk P w K mg base 17 "_law_seen" 3 [] f__law_seen) (G__law_shifts : DefB P w K mg base 19 "_law_shifts" 0 f__law_shifts) (G__law_source : DefOk P w K mg base 1 "_law_source" 2 [] f__law_source) (G__law_spoilt : DefB P w K mg base 3 "_law_spoilt" 1 f__law_spoilt) (G__law_table : DefOk P w K mg base 17 "_law_table" 1 [] f__law_table) (F : FunD K "law" "law" (defArgs s_law) (defBody s_law) (defScope s_law) dvs [] fa fd) : FnOk P w K mg base (L2.CX P w) 21 fa fd ["_law_script"] (spD K 1 f_law) := by
  have nd := sc_law.nd
  refine fnD F sc_law b_law 9 rfl fun cdv A outer s H E hr => ?_
  exact sss_cons (ss_set (i := 1) nd (se_call0 G__law_source (hr.mono (by decide)) (sa_cons (se_var 0) (sa_cons (se_int) (sa_nil)))))
        (sss_cons (ss_set (i := 2) nd (se_callB (i := 1) G__law_raw (hr.mono (by decide)) (sa_cons (se_bl) (sa_nil))))
        (sss_cons (ss_par3 (i := 3) (jj := 4) (l := 5) rfl nd (sa_cons (se_ixS (i := 2) ix_all sv_ix (se_int)) (sa_cons (se_ixS (i := 2) ix_all sv_ix (se_int)) (sa_cons (se_ixS (i := 2) ix_all sv_ix (se_int)) (sa_nil)))) (by decide) (by decide) (by decide) (fun p => ps_par3 rfl nd rfl rfl rfl (by decide) (by decide) (by decide) rfl rfl rfl p (by rfl)))
        (sss_cons (ss_set (i := 6) nd (se_callB (i := 1) G__law_pick (hr.mono (by decide)) (sa_cons (se_int) (sa_nil))))
        (sss_cons (ss_if (sc_cmp op_in_seq o2_in (by rfl) (se_var 6) (se_tup (sa_cons (se_int) (sa_cons (se_int) (sa_cons (se_int) (sa_nil)))))) (sss_one (ss_set (i := 3) nd (se_callB (i := 1) G__law_spoilt (hr.mono (by decide)) (sa_cons (se_var 3) (sa_nil))))) (sss_nil))
        (sss_cons (ss_if (sc_cmp op_in_seq o2_in (by rfl) (se_var 6) (se_tup (sa_cons (se_int) (sa_cons (se_int) (sa_cons (se_int) (sa_nil)))))) (sss_one (ss_set (i := 4) nd (se_callB (i := 1) G__law_spoilt (hr.mono (by decide)) (sa_cons (se_var 4) (sa_nil))))) (sss_nil))
        (sss_cons (ss_if (sc_cmp op_in_seq o2_in (by rfl) (se_var 6) (se_tup (sa_cons (se_int) (sa_cons (se_int) (sa_cons (se_int) (sa_nil)))))) (sss_one (ss_set (i := 5) nd (se_ix ix_all o2_ix (se_lst (sa_cons (se_bin op_sub o2_sub (se_var 5) (se_int)) (sa_cons (se_un un_neg o1_neg (se_int)) (sa_cons (se_bl) (sa_cons (se_non) (sa_cons (se_str) (sa_cons (se_int) (sa_nil)))))))) (se_callB (i := 1) G__law_pick (hr.mono (by decide)) (sa_cons (se_int) (sa_nil)))))) (sss_nil))
        (sss_cons (ss_if (sc_cmp (op_eqD hr.units) o2_eq (nomark _) (se_var 6) (se_int)) (sss_one (ss_set (i := 4) nd (se_Ty call_tuple_of co_tup T.n_tuple PyProof.Rows.boot_tuple (sa_cons (se_lc rfl nd (si_seq (se_ixS (i := 2) ix_all sv_ix (se_int))) (blkOk_by (own := [("_law_one", 9)]) (N := ["_law_script", "_law_source_here", "_law_raw_here", "_law_head", "_law_loop", "_law_rise", "_law_way", "_law_table_here", "_law_thing", "_law_one"]) (sc := defScope s_law) (by decide +kernel)) rfl (fun _ => sg_nm nd) (fun _ => se_B (call_max2 rfl) co_max2 T.n_max PyProof.Rows.boot_max (sa_cons (se_int) (sa_cons (se_bin op_sub o2_sub (se_bin op_sub o2_sub (se_var 9) (se_int)) (se_callB (i := 1) G__law_pick (hr.mono (by decide)) (sa_cons (se_int) (sa_nil)))) (sa_nil))))) (sa_nil))))) (sss_nil))
        (sss_cons (ss_if (sc_cmp (op_eqD hr.units) o2_eq (nomark _) (se_var 6) (se_int)) (sss_one (ss_set (i := 3) nd (se_bin op_mulT o2_rep (se_tup (sa_cons (se_int) (sa_nil))) (se_int)))) (sss_nil))
        (sss_cons (ss_if (sc_cmp (op_neD hr.units) o2_ne (nomark _) (se_call0 G__law_seen (hr.mono (by decide)) (sa_cons (se_var 3) (sa_cons (se_var 4) (sa_cons (se_var 5) (sa_nil))))) (se_call0 G__law_due (hr.mono (by decide)) (sa_cons (se_var 3) (sa_cons (se_var 4) (sa_cons (se_var 5) (sa_nil)))))) (sss_one (ss_ret (se_bl))) (sss_nil))
        (sss_cons (ss_if (sc_cmp op_notN o2_notN (nomark _) (se_call0 G__law_seen (hr.mono (by decide)) (sa_cons (se_ixS (i := 2) ix_all sv_ix (se_int)) (sa_cons (se_ixS (i := 2) ix_all sv_ix (se_int)) (sa_cons (se_ixS (i := 2) ix_all sv_ix (se_int)) (sa_nil))))) (se_non)) (sss_one (ss_ret (se_bl))) (sss_nil))
        (sss_cons (ss_set (i := 7) nd (se_call0 G__law_table (hr.mono (by decide)) (sa_cons (se_var 2) (sa_nil))))
        (sss_cons (ss_for (passes_of rfl) rfl (si_seq (se_lst (sa_cons (se_bl) (sa_cons (se_str) (sa_cons (se_un un_neg o1_neg (se_int)) (sa_cons (se_tup (sa_cons (se_int) (sa_nil))) (sa_cons (se_un un_neg o1_neg (se_bin op_pow o2_pow (se_int) (se_int))) (sa_nil)))))))) (sg_nm nd) (sss_one (ss_if (sc_not (sc_val (se_call0 G__law_refused_value (hr.mono (by decide)) (sa_cons (se_var 7) (sa_cons (se_var 8) (sa_nil)))))) (sss_one (ss_ret (se_bl))) (sss_nil))))
        (sss_one (ss_ret (se_and (se_callB (i := 1) G__law_shifts (hr.mono (by decide)) (sa_nil)) (se_one (se_cmp (op_eqD hr.units) o2_eq (nomark _) (se_calX GX_Table___call__ (hr.mono (by decide)) takesD (se_var 7) (sa_cons (se_int) (sa_nil))) (se_int))))))))))))))))))
end
end NF

set_option Elab.async false
set_option linter.all false
set_option maxRecDepth 100000
set_option maxHeartbeats 0
namespace NF
open PySem PySem.Spec PyProof.Rows L2 SL
def file0 : Str := "/claim/cut.py"
def D_is_integer : Df := { at_ := fun K => He.ga K "is_integer", name := "is_integer", qual := "is_integer", params := defArgs s_is_integer, body := defBody s_is_integer, scope := defScope s_is_integer, dfl := [] }
def D_is_count : Df := { at_ := fun K => He.ga K "is_count", name := "is_count", qual := "is_count", params := defArgs s_is_count, body := defBody s_is_count, scope := defScope s_is_count, dfl := [] }
def D_end_of : Df := { at_ := fun K => He.ga K "end_of", name := "end_of", qual := "end_of", params := defArgs s_end_of, body := defBody s_end_of, scope := defScope s_end_of, dfl := [] }
def D_value_at : Df := { at_ := fun K => He.ga K "value_at", name := "value_at", qual := "value_at", params := defArgs s_value_at, body := defBody s_value_at, scope := defScope s_value_at, dfl := [] }
def D_Table___call__ : Df := { at_ := fun K => He.ma K (He.ga K "Table") "__call__", name := "__call__", qual := "Table.__call__", params := defArgs s_Table___call__, body := defBody s_Table___call__, scope := defScope s_Table___call__, dfl := [] }
def D__law_is_integer : Df := { at_ := fun K => He.ga K "_law_is_integer", name := "_law_is_integer", qual := "_law_is_integer", params := defArgs s__law_is_integer, body := defBody s__law_is_integer, scope := defScope s__law_is_integer, dfl := [] }
def D__law_is_count : Df := { at_ := fun K => He.ga K "_law_is_count", name := "_law_is_count", qual := "_law_is_count", params := defArgs s__law_is_count, body := defBody s__law_is_count, scope := defScope s__law_is_count, dfl := [] }
def D__law_good : Df := { at_ := fun K => He.ga K "_law_good", name := "_law_good", qual := "_law_good", params := defArgs s__law_good, body := defBody s__law_good, scope := defScope s__law_good, dfl := [] }
def D__law_due : Df := { at_ := fun K => He.ga K "_law_due", name := "_law_due", qual := "_law_due", params := defArgs s__law_due, body := defBody s__law_due, scope := defScope s__law_due, dfl := [] }
def D__law_pick : Df := { at_ := fun K => He.ga K "_law_pick", name := "_law_pick", qual := "_law_pick", params := defArgs s__law_pick, body := defBody s__law_pick, scope := defScope s__law_pick, dfl := [] }
def D__law_rising : Df := { at_ := fun K => He.ga K "_law_rising", name := "_law_rising", qual := "_law_rising", params := defArgs s__law_rising, body := defBody s__law_rising, scope := defScope s__law_rising, dfl := [] }
def D__law_raw : Df := { at_ := fun K => He.ga K "_law_raw", name := "_law_raw", qual := "_law_raw", params := defArgs s__law_raw, body := defBody s__law_raw, scope := defScope s__law_raw, dfl := [] }
def D__law_refused_value : Df := { at_ := fun K => He.ga K "_law_refused_value", name := "_law_refused_value", qual := "_law_refused_value", params := defArgs s__law_refused_value, body := defBody s__law_refused_value, scope := defScope s__law_refused_value, dfl := [] }
def D_is_listed : Df := { at_ := fun K => He.ga K "is_listed", name := "is_listed", qual := "is_listed", params := defArgs s_is_listed, body := defBody s_is_listed, scope := defScope s_is_listed, dfl := [] }
def D_deep : Df := { at_ := fun K => He.ga K "deep", name := "deep", qual := "deep", params := defArgs s_deep, body := defBody s_deep, scope := defScope s_deep, dfl := [] }
def D_is_counts : Df := { at_ := fun K => He.ga K "is_counts", name := "is_counts", qual := "is_counts", params := defArgs s_is_counts, body := defBody s_is_counts, scope := defScope s_is_counts, dfl := [] }
def D_is_rising : Df := { at_ := fun K => He.ga K "is_rising", name := "is_rising", qual := "is_rising", params := defArgs s_is_rising, body := defBody s_is_rising, scope := defScope s_is_rising, dfl := [] }
def D_short_loop : Df := { at_ := fun K => He.ga K "short_loop", name := "short_loop", qual := "short_loop", params := defArgs s_short_loop, body := defBody s_short_loop, scope := defScope s_short_loop, dfl := [] }
def D_plain_form : Df := { at_ := fun K => He.ga K "plain_form", name := "plain_form", qual := "plain_form", params := defArgs s_plain_form, body := defBody s_plain_form, scope := defScope s_plain_form, dfl := [] }
def D_checked_table : Df := { at_ := fun K => He.ga K "checked_table", name := "checked_table", qual := "checked_table", params := defArgs s_checked_table, body := defBody s_checked_table, scope := defScope s_checked_table, dfl := [] }
def D_Table___init__ : Df := { at_ := fun K => He.ma K (He.ga K "Table") "__init__", name := "__init__", qual := "Table.__init__", params := defArgs s_Table___init__, body := defBody s_Table___init__, scope := defScope s_Table___init__, dfl := [.adr (dflM "Table" "__init__" 0), .int 0] }
def D__law_seen : Df := { at_ := fun K => He.ga K "_law_seen", name := "_law_seen", qual := "_law_seen", params := defArgs s__law_seen, body := defBody s__law_seen, scope := defScope s__law_seen, dfl := [] }
def D_Table_shift : Df := { at_ := fun K => smf "Table" "shift" K, name := "shift", qual := "Table.shift", params := defArgs s_Table_shift, body := defBody s_Table_shift, scope := defScope s_Table_shift, dfl := [] }
def D__law_shift : Df := { at_ := fun K => He.ga K "_law_shift", name := "_law_shift", qual := "_law_shift", params := defArgs s__law_shift, body := defBody s__law_shift, scope := defScope s__law_shift, dfl := [] }
def D__law_told : Df := { at_ := fun K => He.ga K "_law_told", name := "_law_told", qual := "_law_told", params := defArgs s__law_told, body := defBody s__law_told, scope := defScope s__law_told, dfl := [] }
def D__law_shifts : Df := { at_ := fun K => He.ga K "_law_shifts", name := "_law_shifts", qual := "_law_shifts", params := defArgs s__law_shifts, body := defBody s__law_shifts, scope := defScope s__law_shifts, dfl := [] }
def D__law_source : Df := { at_ := fun K => He.ga K "_law_source", name := "_law_source", qual := "_law_source", params := defArgs s__law_source, body := defBody s__law_source, scope := defScope s__law_source, dfl := [] }
def D__law_spoilt : Df := { at_ := fun K => He.ga K "_law_spoilt", name := "_law_spoilt", qual := "_law_spoilt", params := defArgs s__law_spoilt, body := defBody s__law_spoilt, scope := defScope s__law_spoilt, dfl := [] }
def D__law_table : Df := { at_ := fun K => He.ga K "_law_table", name := "_law_table", qual := "_law_table", params := defArgs s__law_table, body := defBody s__law_table, scope := defScope s__law_table, dfl := [] }
def D_law : Df := { at_ := fun K => He.ga K "law", name := "law", qual := "law", params := defArgs s_law, body := defBody s_law, scope := defScope s_law, dfl := [] }
def D_x_WrongThing : Df := { at_ := fun K => He.ma K (He.ga K "WrongThing") "__init__", name := "__init__", qual := "WrongThing.__init__", params := defArgs s_x_WrongThing, body := defBody s_x_WrongThing, scope := defScope s_x_WrongThing, dfl := [], free := ["__class__"] }
def D_x_WrongWord : Df := { at_ := fun K => He.ma K (He.ga K "WrongWord") "__init__", name := "__init__", qual := "WrongWord.__init__", params := defArgs s_x_WrongWord, body := defBody s_x_WrongWord, scope := defScope s_x_WrongWord, dfl := [], free := ["__class__"] }
def fn : List Df := [D_is_integer, D_is_count, D_end_of, D_value_at, D_Table___call__, D__law_is_integer, D__law_is_count, D__law_good, D__law_due, D__law_pick, D__law_rising, D__law_raw, D__law_refused_value, D_is_listed, D_deep, D_is_counts, D_is_rising, D_short_loop, D_plain_form, D_checked_table, D_Table___init__, D__law_seen, D_Table_shift, D__law_shift, D__law_told, D__law_shifts, D__law_source, D__law_spoilt, D__law_table, D_law, D_x_WrongThing, D_x_WrongWord]
def fa : List Ft := [pFree "abs", pFree "all", pFree "bool", pFree "int", pFree "isinstance", pFree "len", pFree "list", pFree "max", pFree "range", pFree "super", pFree "tuple", pGlo "BadCount", pGlo "BadTable", pGlo "NeedforthError", pGlo "TooMany", pExm "BadCount" "BadCount" true, pExm "BadTable" "BadTable" true, pExm "BadTable" "BadCount" false, pXf "BadCount" "thing", pXf "BadTable" "word", pExcC "BadCount", pExcC "BadTable", pKit "BadCount" "BadTable" false, pKit "BadTable" "NeedforthError" true, pKit "BadTable" "TooMany" false, pInt "MOST_SHIFT" 5000, pIsC "Table", pCls "Table", pNoat "Table" "head", pNoat "Table" "loop", pNoat "Table" "rise", pSupD "WrongThing" (D_x_WrongThing).at_ file0, pExc "BadCount" "thing" "WrongThing", pSupD "WrongWord" (D_x_WrongWord).at_ file0, pExc "BadTable" "word" "WrongWord", pGlo "is_integer", pGlo "is_count", pGlo "end_of", pGlo "value_at", pMeth "Table" "__call__", pFn "Table" "__call__", pGlo "_law_is_integer", pGlo "_law_is_count", pGlo "_law_good", pGlo "_law_due", pGlo "_law_pick", pGlo "_law_rising", pGlo "_law_raw", pGlo "_law_refused_value", pGlo "is_listed", pGlo "deep", pGlo "is_counts", pGlo "is_rising", pGlo "short_loop", pGlo "plain_form", pGlo "checked_table", pGlo "Table", pMkr "Table", pTup0 (dflM "Table" "__init__" 0), pGlo "_law_seen", pSm "Table" "shift", pGlo "_law_shift", pGlo "_law_told", pGlo "_law_shifts", pGlo "_law_source", pGlo "_law_spoilt", pGlo "_law_table", pGlo "law"]
theorem facts {P : Program} {w : World} {K : PySem.W.Frag} {h : Heap} {mg : Str → Option Value} {f : Addr} (X : K.In h) (G : h.Ns mainGlobals mg) (hfa : mg ("law" : Str) = some (.ref f)) (c : SaysP fa fn K) (hsup : (P.main.scope.names.lookup ("super" : Str)).isSome = false) (hfile : ((P.main.file : Str) == file0) = true) :
    ∃ fd : FuncData, (∀ (s : Shared) (v : Value), BindsTo s fd ⟨[v], []⟩ [("_law_script", v)]) ∧ ∀ base : Heap, K.In base → base.Ns mainGlobals mg → FnOk P w K mg base (L2.CX P w) 21 f fd ["_law_script"] (spD K 1 f_law) := by
  obtain ⟨fd_x_WrongThing, F_x_WrongThing, kp_x_WrongThing⟩ := c.defS 30 (d := D_x_WrongThing) (C := "WrongThing") (file := file0) (c.fact 31 (f := pSupD "WrongThing" (D_x_WrongThing).at_ file0) rfl) hfile
  obtain ⟨fd_x_WrongWord, F_x_WrongWord, kp_x_WrongWord⟩ := c.defS 31 (d := D_x_WrongWord) (C := "WrongWord") (file := file0) (c.fact 33 (f := pSupD "WrongWord" (D_x_WrongWord).at_ file0) rfl) hfile
  obtain ⟨fd_is_integer, F_is_integer⟩ := c.def_ 0 (d := D_is_integer) rfl
  obtain ⟨fd_is_count, F_is_count⟩ := c.def_ 1 (d := D_is_count) rfl
  obtain ⟨fd_end_of, F_end_of⟩ := c.def_ 2 (d := D_end_of) rfl
  obtain ⟨fd_value_at, F_value_at⟩ := c.def_ 3 (d := D_value_at) rfl
  obtain ⟨fd_Table___call__, F_Table___call__⟩ := c.def_ 4 (d := D_Table___call__) rfl
  obtain ⟨fd__law_is_integer, F__law_is_integer⟩ := c.def_ 5 (d := D__law_is_integer) rfl
  obtain ⟨fd__law_is_count, F__law_is_count⟩ := c.def_ 6 (d := D__law_is_count) rfl
  obtain ⟨fd__law_good, F__law_good⟩ := c.def_ 7 (d := D__law_good) rfl
  obtain ⟨fd__law_due, F__law_due⟩ := c.def_ 8 (d := D__law_due) rfl
  obtain ⟨fd__law_pick, F__law_pick⟩ := c.def_ 9 (d := D__law_pick) rfl
  obtain ⟨fd__law_rising, F__law_rising⟩ := c.def_ 10 (d := D__law_rising) rfl
  obtain ⟨fd__law_raw, F__law_raw⟩ := c.def_ 11 (d := D__law_raw) rfl
  obtain ⟨fd__law_refused_value, F__law_refused_value⟩ := c.def_ 12 (d := D__law_refused_value) rfl
  obtain ⟨fd_is_listed, F_is_listed⟩ := c.def_ 13 (d := D_is_listed) rfl
  obtain ⟨fd_deep, F_deep⟩ := c.def_ 14 (d := D_deep) rfl
  obtain ⟨fd_is_counts, F_is_counts⟩ := c.def_ 15 (d := D_is_counts) rfl
  obtain ⟨fd_is_rising, F_is_rising⟩ := c.def_ 16 (d := D_is_rising) rfl
  obtain ⟨fd_short_loop, F_short_loop⟩ := c.def_ 17 (d := D_short_loop) rfl
  obtain ⟨fd_plain_form, F_plain_form⟩ := c.def_ 18 (d := D_plain_form) rfl
  obtain ⟨fd_checked_table, F_checked_table⟩ := c.def_ 19 (d := D_checked_table) rfl
  obtain ⟨fd_Table___init__, F_Table___init__⟩ := c.def_ 20 (d := D_Table___init__) rfl
  obtain ⟨fd__law_seen, F__law_seen⟩ := c.def_ 21 (d := D__law_seen) rfl
  obtain ⟨fd_Table_shift, F_Table_shift⟩ := c.def_ 22 (d := D_Table_shift) rfl
  obtain ⟨fd__law_shift, F__law_shift⟩ := c.def_ 23 (d := D__law_shift) rfl
  obtain ⟨fd__law_told, F__law_told⟩ := c.def_ 24 (d := D__law_told) rfl
  obtain ⟨fd__law_shifts, F__law_shifts⟩ := c.def_ 25 (d := D__law_shifts) rfl
  obtain ⟨fd__law_source, F__law_source⟩ := c.def_ 26 (d := D__law_source) rfl
  obtain ⟨fd__law_spoilt, F__law_spoilt⟩ := c.def_ 27 (d := D__law_spoilt) rfl
  obtain ⟨fd__law_table, F__law_table⟩ := c.def_ 28 (d := D__law_table) rfl
  obtain ⟨fd_law, F_law⟩ := c.def_ 29 (d := D_law) rfl
  have e := hfa.symm.trans (He.glo_ok X G (c.fact 67 (f := pGlo "law") rfl))
  cases e
  have bl := FunD.bindsA (ps := ["_law_script"]) F_law fun _ _ _ _ _ _ us hl => match us, hl with | [_], _ => rfl
  refine ⟨fd_law, fun s v => bl s [v] rfl, fun base _ _ => ?_⟩
  have T : Tx K mg := by
    refine ⟨He.free_ok X G (c.fact 0 (f := pFree "abs") rfl), He.free_ok X G (c.fact 1 (f := pFree "all") rfl), He.free_ok X G (c.fact 2 (f := pFree "bool") rfl), He.free_ok X G (c.fact 3 (f := pFree "int") rfl), He.free_ok X G (c.fact 4 (f := pFree "isinstance") rfl), He.free_ok X G (c.fact 5 (f := pFree "len") rfl), He.free_ok X G (c.fact 6 (f := pFree "list") rfl), He.free_ok X G (c.fact 7 (f := pFree "max") rfl), He.free_ok X G (c.fact 8 (f := pFree "range") rfl), He.free_ok X G (c.fact 9 (f := pFree "super") rfl), He.free_ok X G (c.fact 10 (f := pFree "tuple") rfl), ?_, ?_, ?_, ?_, He.glo_ok X G (c.fact 11 (f := pGlo "BadCount") rfl), He.glo_ok X G (c.fact 12 (f := pGlo "BadTable") rfl), He.glo_ok X G (c.fact 13 (f := pGlo "NeedforthError") rfl), He.glo_ok X G (c.fact 14 (f := pGlo "TooMany") rfl), exm_of (c.fact 15 (f := pExm "BadCount" "BadCount" true) rfl), exm_of (c.fact 16 (f := pExm "BadTable" "BadTable" true) rfl), exm_of (c.fact 17 (f := pExm "BadTable" "BadCount" false) rfl), xf_of (c.fact 18 (f := pXf "BadCount" "thing") rfl), xf_of (c.fact 19 (f := pXf "BadTable" "word") rfl), excC_of (c.fact 20 (f := pExcC "BadCount") rfl), excC_of (c.fact 21 (f := pExcC "BadTable") rfl), kit_of (c.fact 22 (f := pKit "BadCount" "BadTable" false) rfl), kit_of (c.fact 23 (f := pKit "BadTable" "NeedforthError" true) rfl), kit_of (c.fact 24 (f := pKit "BadTable" "TooMany" false) rfl), glk_int X G (c.fact 25 (f := pInt "MOST_SHIFT" 5000) rfl)⟩
    · intro C hC
      simp only [cs0, List.mem_cons, List.not_mem_nil, or_false] at hC
      rcases hC with rfl
      · exact isC_of (c.fact 26 (f := pIsC "Table") rfl)
    · refine fld_of (fun C hC => ?_) (fun C hC => ?_)
      · simp only [cs_head, List.mem_cons, List.not_mem_nil, or_false] at hC
        rcases hC with rfl
        · exact c.fact 27 (f := pCls "Table") rfl
      · simp only [cs_head, List.mem_cons, List.not_mem_nil, or_false] at hC
        rcases hC with rfl
        · exact c.fact 28 (f := pNoat "Table" "head") rfl
    · refine fld_of (fun C hC => ?_) (fun C hC => ?_)
      · simp only [cs_loop, List.mem_cons, List.not_mem_nil, or_false] at hC
        rcases hC with rfl
        · exact c.fact 27 (f := pCls "Table") rfl
      · simp only [cs_loop, List.mem_cons, List.not_mem_nil, or_false] at hC
        rcases hC with rfl
        · exact c.fact 29 (f := pNoat "Table" "loop") rfl
    · refine fld_of (fun C hC => ?_) (fun C hC => ?_)
      · simp only [cs_rise, List.mem_cons, List.not_mem_nil, or_false] at hC
        rcases hC with rfl
        · exact c.fact 27 (f := pCls "Table") rfl
      · simp only [cs_rise, List.mem_cons, List.not_mem_nil, or_false] at hC
        rcases hC with rfl
        · exact c.fact 30 (f := pNoat "Table" "rise") rfl
  have O_x_WrongThing : FnOk P w K mg base (L2.CX P w) 2 _ _ _ (spX P K (He.ga K "WrongThing") "thing" (fun _ => True)) := fnX F_x_WrongThing sc_x_WrongThing T.n_super (fun A outer s0 H E => txt_str)
  have X_BadCount : ExcOk P w K mg base 2 "BadCount" "thing" okT := excOk_of (c.fact 32 (f := pExc "BadCount" "thing" "WrongThing") rfl) hsup O_x_WrongThing (FunS.binds (ps := ["self", "thing"]) F_x_WrongThing fun _ _ _ _ _ us hl => match us, hl with | [_, _], _ => rfl) (He.glo_ok X G (c.fact 11 (f := pGlo "BadCount") rfl)) (fun _ _ _ _ _ => trivial)
  have O_x_WrongWord : FnOk P w K mg base (L2.CX P w) 2 _ _ _ (spX P K (He.ga K "WrongWord") "word" okSV) := fnX F_x_WrongWord sc_x_WrongWord T.n_super (fun A outer s0 H E => txt_js (txps_cons (txp_str (by decide +kernel)) (txps_cons (txp_var rfl (Or.inl rfl)) (txps_cons (txp_str (by decide +kernel)) (txps_nil)))))
  have X_BadTable : ExcOk P w K mg base 2 "BadTable" "word" okS := excOk_of (c.fact 34 (f := pExc "BadTable" "word" "WrongWord") rfl) hsup O_x_WrongWord (FunS.binds (ps := ["self", "word"]) F_x_WrongWord fun _ _ _ _ _ us hl => match us, hl with | [_, _], _ => rfl) (He.glo_ok X G (c.fact 12 (f := pGlo "BadTable") rfl)) okS_rep
  have G_is_integer : DefOk P w K mg base 1 "is_integer" 1 [] f_is_integer := defOk_of (ok_is_integer T F_is_integer) F_is_integer (He.glo_ok X G (c.fact 35 (f := pGlo "is_integer") rfl)) (FunD.bindsN (ps := ["thing"]) F_is_integer fun _ _ _ _ _ _ us hl => match us, hl with | [_], _ => rfl)
  have G_is_count : DefOk P w K mg base 3 "is_count" 1 [] f_is_count := defOk_of (ok_is_count T G_is_integer F_is_count) F_is_count (He.glo_ok X G (c.fact 36 (f := pGlo "is_count") rfl)) (FunD.bindsN (ps := ["thing"]) F_is_count fun _ _ _ _ _ _ us hl => match us, hl with | [_], _ => rfl)
  have G_end_of : DefOk P w K mg base 1 "end_of" 1 [] f_end_of := defOk_of (ok_end_of T F_end_of) F_end_of (He.glo_ok X G (c.fact 37 (f := pGlo "end_of") rfl)) (FunD.bindsN (ps := ["raw"]) F_end_of fun _ _ _ _ _ _ us hl => match us, hl with | [_], _ => rfl)
  have G_value_at : DefOk P w K mg base 3 "value_at" 2 [] f_value_at := defOk_of (ok_value_at T G_end_of F_value_at) F_value_at (He.glo_ok X G (c.fact 38 (f := pGlo "value_at") rfl)) (FunD.bindsN (ps := ["raw", "place"]) F_value_at fun _ _ _ _ _ _ us hl => match us, hl with | [_, _], _ => rfl)
  have G_Table___call__ : CalOk P w K mg base 5 "Table" 2 f_Table___call__ := calOk_of (ok_Table___call__ T G_is_count G_value_at X_BadCount F_Table___call__) (meth_of (c.fact 39 (f := pMeth "Table" "__call__") rfl)) (c.fact 40 (f := pFn "Table" "__call__") rfl) (FunD.bindsN (ps := ["self", "n"]) F_Table___call__ fun _ _ _ _ _ _ us hl => match us, hl with | [_, _], _ => rfl)
  have GX_Table___call__ : CalX P w K mg base 5 "Table" 2 f_Table___call__ := ⟨_, _, _, ok_Table___call__ T G_is_count G_value_at X_BadCount F_Table___call__, (FunD.bindsN (ps := ["self", "n"]) F_Table___call__ fun _ _ _ _ _ _ us hl => match us, hl with | [_, _], _ => rfl), (meth_of (c.fact 39 (f := pMeth "Table" "__call__") rfl)).at_, (meth_of (c.fact 39 (f := pMeth "Table" "__call__") rfl)).fn, c.fact 40 (f := pFn "Table" "__call__") rfl⟩
  have G__law_is_integer : DefOk P w K mg base 1 "_law_is_integer" 1 [] f__law_is_integer := defOk_of (ok__law_is_integer T F__law_is_integer) F__law_is_integer (He.glo_ok X G (c.fact 41 (f := pGlo "_law_is_integer") rfl)) (FunD.bindsN (ps := ["_law_thing"]) F__law_is_integer fun _ _ _ _ _ _ us hl => match us, hl with | [_], _ => rfl)
  have G__law_is_count : DefOk P w K mg base 3 "_law_is_count" 1 [] f__law_is_count := defOk_of (ok__law_is_count T G__law_is_integer F__law_is_count) F__law_is_count (He.glo_ok X G (c.fact 42 (f := pGlo "_law_is_count") rfl)) (FunD.bindsN (ps := ["_law_thing"]) F__law_is_count fun _ _ _ _ _ _ us hl => match us, hl with | [_], _ => rfl)
  have G__law_good : DefOk P w K mg base 5 "_law_good" 1 [] f__law_good := defOk_of (ok__law_good T G__law_is_count F__law_good) F__law_good (He.glo_ok X G (c.fact 43 (f := pGlo "_law_good") rfl)) (FunD.bindsN (ps := ["_law_row"]) F__law_good fun _ _ _ _ _ _ us hl => match us, hl with | [_], _ => rfl)
  have G__law_due : DefOk P w K mg base 7 "_law_due" 3 [] f__law_due := defOk_of (ok__law_due T G__law_good G__law_is_count F__law_due) F__law_due (He.glo_ok X G (c.fact 44 (f := pGlo "_law_due") rfl)) (FunD.bindsN (ps := ["_law_head", "_law_loop", "_law_rise"]) F__law_due fun _ _ _ _ _ _ us hl => match us, hl with | [_, _, _], _ => rfl)
  have G__law_pick : DefB P w K mg base 1 "_law_pick" 1 f__law_pick := ⟨_, _, _, ok__law_pick T F__law_pick, He.glo_ok X G (c.fact 45 (f := pGlo "_law_pick") rfl), F__law_pick.kp, (FunD.bindsN (ps := ["_law_source_here", "_law_many"]) F__law_pick fun _ _ _ _ _ _ us hl => match us, hl with | [_, _], _ => rfl)⟩
  have G__law_rising : DefB P w K mg base 3 "_law_rising" 3 f__law_rising := ⟨_, _, _, ok__law_rising T G__law_pick F__law_rising, He.glo_ok X G (c.fact 46 (f := pGlo "_law_rising") rfl), F__law_rising.kp, (FunD.bindsN (ps := ["_law_source_here", "_law_many", "_law_low", "_law_steps"]) F__law_rising fun _ _ _ _ _ _ us hl => match us, hl with | [_, _, _, _], _ => rfl)⟩
  have G__law_raw : DefB P w K mg base 5 "_law_raw" 1 f__law_raw := ⟨_, _, _, ok__law_raw T G__law_pick G__law_rising F__law_raw, He.glo_ok X G (c.fact 47 (f := pGlo "_law_raw") rfl), F__law_raw.kp, (FunD.bindsN (ps := ["_law_source_here", "_law_steady"]) F__law_raw fun _ _ _ _ _ _ us hl => match us, hl with | [_, _], _ => rfl)⟩
  have G__law_refused_value : DefOk P w K mg base 7 "_law_refused_value" 2 [] f__law_refused_value := defOk_of (ok__law_refused_value T G_Table___call__ GX_Table___call__ F__law_refused_value) F__law_refused_value (He.glo_ok X G (c.fact 48 (f := pGlo "_law_refused_value") rfl)) (FunD.bindsN (ps := ["_law_table_here", "_law_thing"]) F__law_refused_value fun _ _ _ _ _ _ us hl => match us, hl with | [_, _], _ => rfl)
  have G_is_listed : DefOk P w K mg base 1 "is_listed" 1 [] f_is_listed := defOk_of (ok_is_listed T F_is_listed) F_is_listed (He.glo_ok X G (c.fact 49 (f := pGlo "is_listed") rfl)) (FunD.bindsN (ps := ["thing"]) F_is_listed fun _ _ _ _ _ _ us hl => match us, hl with | [_], _ => rfl)
  have G_deep : DefOk P w K mg base 11 "deep" 1 [] f_deep := ok_deep T G_is_listed F_deep (He.glo_ok X G (c.fact 50 (f := pGlo "deep") rfl)) 4
  have G_is_counts : DefOk P w K mg base 5 "is_counts" 1 [] f_is_counts := defOk_of (ok_is_counts T G_is_count G_is_listed F_is_counts) F_is_counts (He.glo_ok X G (c.fact 51 (f := pGlo "is_counts") rfl)) (FunD.bindsN (ps := ["thing"]) F_is_counts fun _ _ _ _ _ _ us hl => match us, hl with | [_], _ => rfl)
  have G_is_rising : DefOk P w K mg base 1 "is_rising" 1 [] f_is_rising := defOk_of (ok_is_rising T F_is_rising) F_is_rising (He.glo_ok X G (c.fact 52 (f := pGlo "is_rising") rfl)) (FunD.bindsN (ps := ["counts"]) F_is_rising fun _ _ _ _ _ _ us hl => match us, hl with | [_], _ => rfl)
  have G_short_loop : DefOk P w K mg base 1 "short_loop" 2 [] f_short_loop := defOk_of (ok_short_loop T F_short_loop) F_short_loop (He.glo_ok X G (c.fact 53 (f := pGlo "short_loop") rfl)) (FunD.bindsN (ps := ["loop", "rise"]) F_short_loop fun _ _ _ _ _ _ us hl => match us, hl with | [_, _], _ => rfl)
  have G_plain_form : DefOk P w K mg base 5 "plain_form" 3 [] f_plain_form := defOk_of (ok_plain_form T G_short_loop G_value_at F_plain_form) F_plain_form (He.glo_ok X G (c.fact 54 (f := pGlo "plain_form") rfl)) (FunD.bindsN (ps := ["head", "loop", "rise"]) F_plain_form fun _ _ _ _ _ _ us hl => match us, hl with | [_, _, _], _ => rfl)
  have G_checked_table : DefOk P w K mg base 13 "checked_table" 3 [] f_checked_table := defOk_of (ok_checked_table T G_deep G_is_count G_is_counts G_is_rising G_plain_form X_BadTable F_checked_table) F_checked_table (He.glo_ok X G (c.fact 55 (f := pGlo "checked_table") rfl)) (FunD.bindsN (ps := ["head", "loop", "rise"]) F_checked_table fun _ _ _ _ _ _ us hl => match us, hl with | [_, _, _], _ => rfl)
  have O_Table___init__ : FnOk P w K mg base (L2.CX P w) 15 _ _ _ (spB K 3 f_Table___init__) := ok_Table___init__ T G_checked_table F_Table___init__
  have M_Table : MakOk P w K mg base 15 "Table" 3 [] f_Table___init__ := by
    obtain ⟨ds, v, bn⟩ := FunD.binds1 (ps := ["self", "head", "loop", "rise"]) F_Table___init__ 4 2 (by exact List.cons_ne_nil _ _) rfl fun _ _ _ _ _ _ _ us its h1 h2 => match us, h1, its, h2 with | [_, _, _, _], _, [_, _], _ => ⟨_, rfl, rfl⟩
    exact makOk_ofD O_Table___init__ (mkr_of (c.fact 57 (f := pMkr "Table") rfl)) (He.glo_ok X G (c.fact 56 (f := pGlo "Table") rfl)) bn v (fun F => reps_nil)
  have M_Table_1 : MakOk P w K mg base 15 "Table" 3 dd_Table_1 f_Table___init__ := by
    obtain ⟨ds, v, bn⟩ := FunD.binds1 (ps := ["self", "head", "loop", "rise"]) F_Table___init__ 3 1 (by exact List.cons_ne_nil _ _) rfl fun _ _ _ _ _ _ _ us its h1 h2 => match us, h1, its, h2 with | [_, _, _], _, [_, _], _ => ⟨_, rfl, rfl⟩
    exact makOk_ofD O_Table___init__ (mkr_of (c.fact 57 (f := pMkr "Table") rfl)) (He.glo_ok X G (c.fact 56 (f := pGlo "Table") rfl)) bn v (fun F => reps_cons rep_int (reps_nil))
  have M_Table_2 : MakOk P w K mg base 15 "Table" 3 dd_Table_2 f_Table___init__ := by
    obtain ⟨ds, v, bn⟩ := FunD.binds1 (ps := ["self", "head", "loop", "rise"]) F_Table___init__ 2 0 (by exact List.cons_ne_nil _ _) rfl fun _ _ _ _ _ _ _ us its h1 h2 => match us, h1, its, h2 with | [_, _], _, [_, _], _ => ⟨_, rfl, rfl⟩
    exact makOk_ofD O_Table___init__ (mkr_of (c.fact 57 (f := pMkr "Table") rfl)) (He.glo_ok X G (c.fact 56 (f := pGlo "Table") rfl)) bn v (fun F => reps_cons (tup0_of (c.fact 58 (f := pTup0 (dflM "Table" "__init__" 0)) rfl) F) (reps_cons rep_int (reps_nil)))
  have G__law_seen : DefOk P w K mg base 17 "_law_seen" 3 [] f__law_seen := defOk_of (ok__law_seen T M_Table M_Table_1 M_Table_2 F__law_seen) F__law_seen (He.glo_ok X G (c.fact 59 (f := pGlo "_law_seen") rfl)) (FunD.bindsN (ps := ["_law_head", "_law_loop", "_law_rise"]) F__law_seen fun _ _ _ _ _ _ us hl => match us, hl with | [_, _, _], _ => rfl)
  have G_Table_shift : SmOk P w K mg base 17 "Table" "shift" 1 f_Table_shift := smOk_of (ok_Table_shift T M_Table M_Table_1 M_Table_2 G_is_integer X_BadCount F_Table_shift) (c.fact 60 (f := pSm "Table" "shift") rfl) F_Table_shift.kp (He.glo_ok X G (c.fact 56 (f := pGlo "Table") rfl)) (FunD.bindsN (ps := ["k"]) F_Table_shift fun _ _ _ _ _ _ us hl => match us, hl with | [_], _ => rfl)
  have G__law_shift : DefOk P w K mg base 1 "_law_shift" 1 [] f__law_shift := defOk_of (ok__law_shift T F__law_shift) F__law_shift (He.glo_ok X G (c.fact 61 (f := pGlo "_law_shift") rfl)) (FunD.bindsN (ps := ["_law_k"]) F__law_shift fun _ _ _ _ _ _ us hl => match us, hl with | [_], _ => rfl)
  have G__law_told : DefOk P w K mg base 1 "_law_told" 1 [] f__law_told := defOk_of (ok__law_told T F__law_told) F__law_told (He.glo_ok X G (c.fact 62 (f := pGlo "_law_told") rfl)) (FunD.bindsN (ps := ["_law_table_here"]) F__law_told fun _ _ _ _ _ _ us hl => match us, hl with | [_], _ => rfl)
  have G__law_shifts : DefB P w K mg base 19 "_law_shifts" 0 f__law_shifts := ⟨_, _, _, ok__law_shifts T G_Table_shift G__law_pick G__law_shift G__law_told F__law_shifts, He.glo_ok X G (c.fact 63 (f := pGlo "_law_shifts") rfl), F__law_shifts.kp, (FunD.bindsN (ps := ["_law_source_here"]) F__law_shifts fun _ _ _ _ _ _ us hl => match us, hl with | [_], _ => rfl)⟩
  have G__law_source : DefOk P w K mg base 1 "_law_source" 2 [] f__law_source := defOk_of (ok__law_source T F__law_source) F__law_source (He.glo_ok X G (c.fact 64 (f := pGlo "_law_source") rfl)) (FunD.bindsN (ps := ["_law_script", "_law_place"]) F__law_source fun _ _ _ _ _ _ us hl => match us, hl with | [_, _], _ => rfl)
  have G__law_spoilt : DefB P w K mg base 3 "_law_spoilt" 1 f__law_spoilt := ⟨_, _, _, ok__law_spoilt T G__law_pick F__law_spoilt, He.glo_ok X G (c.fact 65 (f := pGlo "_law_spoilt") rfl), F__law_spoilt.kp, (FunD.bindsN (ps := ["_law_source_here", "_law_row"]) F__law_spoilt fun _ _ _ _ _ _ us hl => match us, hl with | [_, _], _ => rfl)⟩
  have G__law_table : DefOk P w K mg base 17 "_law_table" 1 [] f__law_table := defOk_of (ok__law_table T M_Table M_Table_1 M_Table_2 F__law_table) F__law_table (He.glo_ok X G (c.fact 66 (f := pGlo "_law_table") rfl)) (FunD.bindsN (ps := ["_law_raw_here"]) F__law_table fun _ _ _ _ _ _ us hl => match us, hl with | [_], _ => rfl)
  exact ok_law T G_Table___call__ GX_Table___call__ G__law_due G__law_pick G__law_raw G__law_refused_value G__law_seen G__law_shifts G__law_source G__law_spoilt G__law_table F_law
end NF

set_option Elab.async false
set_option linter.all false
set_option maxRecDepth 100000
set_option maxHeartbeats 0
namespace NF
open PySem PySem.Spec PyProof.Rows L2 SL
abbrev R : PySem.W.OpenRow := PySem.W.OpenLaw.row PySem.Challenge.rw_needforth_k02_whole_bad_tables
abbrev hk : PySem.W.Hook := hookW 4000 fa fn
def ob (s : PySem.W.SharedT) : He.AlD := obsWG 4000 fa fn (HandSHeadRun.getT s)
theorem ob_eq (s : PySem.W.SharedT) : ob s = hk.obs s.abs := obsWG_eq (HandSHeadRun.getT_eq s)
theorem run (w : World) : HandSHeadRun.RunEq R (PySem.W.view R.prog [55]) hk ob 6000 [PySem.Str.ofString "_wall", PySem.Str.ofString "NeedforthError", PySem.Str.ofString "WrongThing", PySem.Str.ofString "WrongWord", PySem.Str.ofString "TooMany", PySem.Str.ofString "BadCount", PySem.Str.ofString "BadTable", PySem.Str.ofString "is_integer", PySem.Str.ofString "is_count", PySem.Str.ofString "is_listed", PySem.Str.ofString "is_counts", PySem.Str.ofString "deep", PySem.Str.ofString "at_most", PySem.Str.ofString "greater_of", PySem.Str.ofString "lesser_of", PySem.Str.ofString "common_divisor", PySem.Str.ofString "common_multiple", PySem.Str.ofString "end_of", PySem.Str.ofString "value_at", PySem.Str.ofString "short_loop", PySem.Str.ofString "plain_form", PySem.Str.ofString "formed", PySem.Str.ofString "until_never", PySem.Str.ofString "first_beyond", PySem.Str.ofString "behind_raw", PySem.Str.ofString "later_start", PySem.Str.ofString "joined_values", PySem.Str.ofString "joined_raw", PySem.Str.ofString "counts_below", PySem.Str.ofString "turned_raw", PySem.Str.ofString "MOST_SHIFT", PySem.Str.ofString "is_rising", PySem.Str.ofString "checked_table", PySem.Str.ofString "Table", PySem.Str.ofString "table_from", PySem.Str.ofString "_law_source", PySem.Str.ofString "_law_pick", PySem.Str.ofString "_law_is_integer", PySem.Str.ofString "_law_is_count", PySem.Str.ofString "_law_rising", PySem.Str.ofString "_law_raw", PySem.Str.ofString "_law_shift", PySem.Str.ofString "_law_told", PySem.Str.ofString "_law_table", PySem.Str.ofString "_law_spoilt", PySem.Str.ofString "_law_good", PySem.Str.ofString "_law_due", PySem.Str.ofString "_law_seen", PySem.Str.ofString "_law_refused_value", PySem.Str.ofString "_law_shifts"] w := by
  intro os
  kernel_rfl
end NF

set_option Elab.async false
set_option linter.all false
set_option maxRecDepth 100000
set_option maxHeartbeats 400000
/-! evaluation rules of the semantic functions -/
namespace SL
variable {α β : Type}
theorem e_ret (a : α) (ρ : Sl) : ret a ρ = some (.ok a, ρ) := rfl
theorem e_nop (ρ : Sl) : (nop : Mo α) ρ = none := rfl
theorem e_bnd (m : Mo α) (f : α → Mo β) (ρ : Sl) : bnd m f ρ = match m ρ with
  | none => none
  | some (.exc x, ρ') => some (.exc x, ρ')
  | some (.ok a, ρ') => f a ρ' := rfl
theorem e_ite {γ : Type} (c : Prop) [Decidable c] (m n : Sl → γ) (ρ : Sl) : (if c then m else n) ρ = if c then m ρ else n ρ := by split <;> rfl
theorem e_opM (f : List D → Option Out) (ts : List T) (ρ : Sl) : opM f ts ρ = match frzs ts with
  | none => none
  | some ds => outM (f ds) ρ := by unfold opM; cases frzs ts <;> rfl
theorem e_out0 (ρ : Sl) : outM none ρ = none := rfl
theorem e_outd (d : D) (ρ : Sl) : outM (some (.dt d)) ρ = some (.ok (.dat d), ρ) := rfl
theorem e_outn (xs : List D) (ρ : Sl) : outM (some (.nl xs)) ρ = some (.ok (.lst false xs), ρ) := rfl
theorem fz0 : frzs [] = some [] := rfl
theorem fzd (d : D) (ts : List T) : frzs (.dat d :: ts) = (frzs ts).map (d :: ·) := by
  unfold frzs; simp only [List.any_cons, T.brw, Bool.false_or]; split <;> rfl
theorem fzl (xs : List D) (ts : List T) : frzs (.lst false xs :: ts) = (frzs ts).map (.lst xs :: ·) := by
  unfold frzs; simp only [List.any_cons, T.brw, Bool.false_or]; split <;> rfl
theorem fzi (C : PySem.Str) (ns : List PySem.Str) (xs : List D) (ts : List T) : frzs (.ins false C ns xs :: ts) = (frzs ts).map (.obj C ns xs :: ·) := by
  unfold frzs; simp only [List.any_cons, T.brw, Bool.false_or]; split <;> rfl
theorem bd (d : D) : T.brw (.dat d) = false := rfl
theorem bl_ (b : Bool) (xs : List D) : T.brw (.lst b xs) = b := rfl
theorem bi (b : Bool) (C : PySem.Str) (ns : List PySem.Str) (xs : List D) : T.brw (.ins b C ns xs) = b := rfl
theorem zd (d : D) : T.fz (.dat d) = d := rfl
theorem zl (b : Bool) (xs : List D) : T.fz (.lst b xs) = .lst xs := rfl
theorem zi (b : Bool) (C : PySem.Str) (ns : List PySem.Str) (xs : List D) : T.fz (.ins b C ns xs) = .obj C ns xs := rfl
theorem o1 (f : D → Option Out) (d : D) : one f [d] = f d := rfl
theorem o2 (f : D → D → Option Out) (d e : D) : two f [d, e] = f d e := rfl
theorem e_var (i : Nat) (ρ : Sl) : eVar i ρ = match ρ[i]? with
  | some (some t) => if t.brw = true then none else some (.ok (.dat t.fz), ρ.set i (some (.dat t.fz)))
  | _ => none := rfl
theorem e_atS (i : Nat) (ρ : Sl) : atS i ρ = match ρ[i]? with
  | some (some t) => some t
  | _ => none := rfl
theorem e_s1 (f : D → Option Out) (i : Nat) (ρ : Sl) : s1M f i ρ = match atS i ρ with
  | none => none
  | some t => outM (f t.fz) ρ := rfl
theorem e_s2 (f : D → D → Option Out) (i : Nat) (mb : Mo T) (ρ : Sl) : s2M f i mb ρ = match atS i ρ with
  | none => none
  | some _ => (match mb ρ with
    | none => none
    | some (.exc x, ρ1) => some (.exc x, ρ1)
    | some (.ok u, ρ1) => if u.brw = true then none else match atS i ρ1 with
      | none => none
      | some t => outM (f t.fz u.fz) ρ1) := by
  unfold s2M
  cases atS i ρ with
  | none => rfl
  | some t => dsimp only; unfold bnd; rcases mb ρ with _ | ⟨_ | _, _⟩ <;> rfl
theorem e_sl (f : D → Option Int → Option Int → Option Out) (i : Nat) (ml mh : Mo (Option Int)) (ρ : Sl) : sSlM f i ml mh ρ = match atS i ρ with
  | none => none
  | some _ => (match ml ρ with
    | none => none
    | some (.exc x, ρ1) => some (.exc x, ρ1)
    | some (.ok lo, ρ1) => match mh ρ1 with
      | none => none
      | some (.exc x, ρ2) => some (.exc x, ρ2)
      | some (.ok hi, ρ2) => match atS i ρ2 with
        | none => none
        | some t => outM (f t.fz lo hi) ρ2) := by
  unfold sSlM
  cases atS i ρ with
  | none => rfl
  | some t =>
    dsimp only
    unfold bnd
    rcases ml ρ with _ | ⟨_ | _, r1⟩
    · rfl
    · dsimp only; rcases mh r1 with _ | ⟨_ | _, _⟩ <;> rfl
    · rfl
theorem e_toS (m : Mo α) (f : α → So) (ρ : Sl) : toS m f ρ = match m ρ with
  | none => none
  | some (.exc x, ρ') => some (.exc x, ρ')
  | some (.ok a, ρ') => f a ρ' := rfl
theorem e_seq (s u : So) (ρ : Sl) : sSeq s u ρ = match s ρ with
  | none => none
  | some (.next, ρ') => u ρ'
  | some (fl, ρ') => some (fl, ρ') := rfl
theorem e_next (ρ : Sl) : sNext ρ = some (.next, ρ) := rfl
theorem e_no (ρ : Sl) : sNo ρ = none := rfl
theorem e_drop (m : Mo T) (ρ : Sl) : sDrop m ρ = match m ρ with
  | none => none
  | some (.exc x, ρ') => some (.exc x, ρ')
  | some (.ok a, ρ') => some (.next, ρ') := by unfold sDrop toS; rcases m ρ with _ | ⟨_ | _, _⟩ <;> rfl
theorem e_sret (m : Mo T) (ρ : Sl) : sRet m ρ = match m ρ with
  | none => none
  | some (.exc x, ρ') => some (.exc x, ρ')
  | some (.ok a, ρ') => some (.ret a, ρ') := by unfold sRet toS; rcases m ρ with _ | ⟨_ | _, _⟩ <;> rfl
theorem e_if (c : Mo Bool) (s u : So) (ρ : Sl) : sIf c s u ρ = match c ρ with
  | none => none
  | some (.exc x, ρ') => some (.exc x, ρ')
  | some (.ok b, ρ') => if b = true then s ρ' else u ρ' := by
  unfold sIf toS; rcases c ρ with _ | ⟨b | _, _⟩
  · rfl
  · cases b <;> rfl
  · rfl
theorem e_asg (i : Nat) (m : Mo T) (ρ : Sl) : sAsg i m ρ = match m ρ with
  | none => none
  | some (.exc x, ρ') => some (.exc x, ρ')
  | some (.ok t, ρ') => if i < ρ'.length then some (.next, ρ'.set i (some t)) else none := by unfold sAsg toS; rcases m ρ with _ | ⟨_ | _, _⟩ <;> rfl
theorem e_asgp (p : Pat) (m : Mo T) (ρ : Sl) : sAsgP p m ρ = match m ρ with
  | none => none
  | some (.exc x, ρ') => some (.exc x, ρ')
  | some (.ok t, ρ') => if t.brw = true then none else match asgP p t.fz ρ' with
    | none => none
    | some ρ2 => some (.next, ρ2) := by
  unfold sAsgP toS
  rcases m ρ with _ | ⟨t | _, r⟩
  · rfl
  · first
    | (dsimp only; done)
    | (dsimp only; split <;> first | rfl | (cases asgP p t.fz r <;> rfl))
  · rfl
theorem p_nm (i : Nat) (d : D) (ρ : Sl) : asgP (.nm i) d ρ = if i < ρ.length then some (ρ.set i (some (.dat d))) else none := by unfold asgP; first | done | rfl
theorem p_tp (ps : List Pat) (ds : List D) (ρ : Sl) : asgP (.tp ps) (.tup ds) ρ = asgPs ps ds ρ := by unfold asgP; first | done | rfl
theorem p_nil (ρ : Sl) : asgPs [] [] ρ = some ρ := by unfold asgPs; first | done | rfl
theorem p_cons (p : Pat) (ps : List Pat) (d : D) (ds : List D) (ρ : Sl) : asgPs (p :: ps) (d :: ds) ρ = match asgP p d ρ with
  | none => none
  | some ρ' => asgPs ps ds ρ' := by rw [asgPs]; first | done | (cases asgP p d ρ <;> rfl)
theorem a_bl (b : Bool) (ρ : Sl) : asB (.dat (.bl b)) ρ = some (.ok b, ρ) := rfl
theorem a_int (b : Int) (ρ : Sl) : asI (.dat (.int b)) ρ = some (.ok (some b), ρ) := rfl
theorem e_noX (m : Mo T) (ρ : Sl) : noX m ρ = match m ρ with
  | some (.ok t, ρ') => some (.ok t, ρ')
  | _ => none := rfl
theorem e_callM (a : Nat) (f : FnD) (dds : List D) (ts : List T) (ρ : Sl) : callM a f dds ts ρ = match frzs ts with
  | none => none
  | some ds => if (ds ++ dds).length = a then (match f (ds ++ dds) with
    | none => none
    | some (.ok t) => if t.brw = true then none else some (.ok t, ρ)
    | some (.exc x) => some (.exc x, ρ)) else none := by
  unfold callM
  cases frzs ts with
  | none => rfl
  | some ds =>
    dsimp only
    split
    · cases f (ds ++ dds) with
      | none => rfl
      | some r => cases r with
        | ok t => dsimp only; split <;> rfl
        | exc x => rfl
    · rfl
def dn (r : Option (Fl × Sl)) : Option (Rs T) := match r with
  | some (.next, _) => some (.ok (.dat .non))
  | some (.ret t, _) => if t.brw = true then none else some (.ok t)
  | some (.exc x, _) => some (.exc x)
  | _ => none
theorem e_bodyD (m : Nat) (s : So) (ds : List D) : bodyD m s ds = dn (s (ds.map (fun d => some (T.dat d)) ++ List.replicate m none)) := rfl
theorem dn_next (ρ : Sl) : dn (some (.next, ρ)) = some (.ok (.dat .non)) := rfl
theorem dn_ret (t : T) (ρ : Sl) : dn (some (.ret t, ρ)) = if t.brw = true then none else some (.ok t) := rfl
theorem rp0 : List.replicate 0 (none : Option T) = [] := rfl
theorem rp1 : List.replicate 1 (none : Option T) = [none] := rfl
theorem rp2 : List.replicate 2 (none : Option T) = [none, none] := rfl
theorem rp3 : List.replicate 3 (none : Option T) = [none, none, none] := rfl
theorem rp4 : List.replicate 4 (none : Option T) = [none, none, none, none] := rfl
theorem rp5 : List.replicate 5 (none : Option T) = [none, none, none, none, none] := rfl
theorem rp6 : List.replicate 6 (none : Option T) = [none, none, none, none, none, none] := rfl
theorem rp7 : List.replicate 7 (none : Option T) = [none, none, none, none, none, none, none] := rfl
theorem rp8 : List.replicate 8 (none : Option T) = [none, none, none, none, none, none, none, none] := rfl
theorem rp9 : List.replicate 9 (none : Option T) = [none, none, none, none, none, none, none, none, none] := rfl
theorem rp10 : List.replicate 10 (none : Option T) = [none, none, none, none, none, none, none, none, none, none] := rfl
theorem rp11 : List.replicate 11 (none : Option T) = [none, none, none, none, none, none, none, none, none, none, none] := rfl
theorem eq_ii (i j : Int) : eqF (.int i) (.int j) = some (.dt (.bl (decide (i = j)))) := by
  show some (Out.dt (D.bl (i == j))) = _
  rw [Bool.eq_iff_iff.mpr (show (i == j) = true ↔ decide (i = j) = true by simp)]
theorem ne_ii (i j : Int) : neF (.int i) (.int j) = some (.dt (.bl (!decide (i = j)))) := by
  show some (Out.dt (D.bl (!(i == j)))) = _
  rw [Bool.eq_iff_iff.mpr (show (i == j) = true ↔ decide (i = j) = true by simp)]
theorem len_t (xs : List D) : lenF (.tup xs) = some (.dt (.int (xs.length : Nat))) := rfl
theorem len_l (xs : List D) : lenF (.lst xs) = some (.dt (.int (xs.length : Nat))) := rfl
theorem ix_t (xs : List D) (i : Int) : ixF (.tup xs) (.int i) = (L2.atI xs i).map .dt := rfl
theorem ix_l (xs : List D) (i : Int) : ixF (.lst xs) (.int i) = (L2.atI xs i).map .dt := rfl
theorem add_ii (i j : Int) : addF (.int i) (.int j) = some (.dt (.int (i + j))) := rfl
theorem sub_ii (i j : Int) : subF (.int i) (.int j) = some (.dt (.int (i - j))) := rfl
theorem neg_i (i : Int) : negF (.int i) = some (.dt (.int (-i))) := rfl
theorem lt_ii (i j : Int) : ltF (.int i) (.int j) = some (.dt (.bl (decide (i < j)))) := rfl
theorem le_ii (i j : Int) : leF (.int i) (.int j) = some (.dt (.bl (decide (i ≤ j)))) := rfl
theorem gt_ii (i j : Int) : gtF (.int i) (.int j) = some (.dt (.bl (decide (j < i)))) := rfl
theorem ge_ii (i j : Int) : geF (.int i) (.int j) = some (.dt (.bl (decide (j ≤ i)))) := rfl
theorem mul_ii {i j : Int} (h : sml i ∨ sml j) : mulF (.int i) (.int j) = some (.dt (.int (i * j))) := if_pos h
theorem div_ii {i j : Int} (h : 0 < j ∧ j < 4611686018427387904) : divF (.int i) (.int j) = some (.dt (.int (i / j))) := if_pos h
theorem mod_ii {i j : Int} (h : 0 < j) : modF (.int i) (.int j) = some (.dt (.int (i % j))) := if_pos h
theorem isN_i (i : Int) : isNF (.int i) .non = some (.dt (.bl false)) := rfl
theorem isN_n : isNF .non .non = some (.dt (.bl true)) := rfl
theorem notN_i (i : Int) : notNF (.int i) .non = some (.dt (.bl true)) := rfl
theorem notN_n : notNF .non .non = some (.dt (.bl false)) := rfl
theorem notN_t (i : List D) : notNF (.tup i) .non = some (.dt (.bl true)) := rfl
theorem pow_ii {i : Int} {n : Nat} (h : n ≤ 1000 ∧ sml i) : powF (.int i) (.int n) = some (.dt (.int (i ^ n))) := if_pos ⟨Int.natCast_nonneg _, by omega, h.2⟩
theorem few0 (f : List D → Out) : few f [] = some (f []) := rfl
theorem few1 (f : List D → Out) (a : D) : few f [a] = some (f [a]) := rfl
theorem few2 (f : List D → Out) (a b : D) : few f [a, b] = some (f [a, b]) := rfl
theorem few3 (f : List D → Out) (a b c : D) : few f [a, b, c] = some (f [a, b, c]) := rfl
theorem e_bin (f : D → D → Option Out) (ma mb : Mo T) (ρ : Sl) : bin f ma mb ρ = bnd ma (fun x => bnd mb fun y => opM (two f) [x, y]) ρ := rfl
theorem e_una (f : D → Option Out) (ma : Mo T) (ρ : Sl) : una f ma ρ = bnd ma (fun x => opM (one f) [x]) ρ := rfl
theorem e_tst (m : Mo T) (ρ : Sl) : tst m ρ = bnd m asB ρ := rfl
theorem e_cand (m n : Mo Bool) (ρ : Sl) : cAnd m n ρ = bnd m (fun b => if b = true then n else ret false) ρ := rfl
theorem e_cor (m n : Mo Bool) (ρ : Sl) : cOr m n ρ = bnd m (fun b => if b = true then ret true else n) ρ := rfl
theorem e_cnot (m : Mo Bool) (ρ : Sl) : cNot m ρ = bnd m (fun b => ret (!b)) ρ := rfl
theorem e_and (m n : Mo T) (ρ : Sl) : eAnd m n ρ = bnd m (fun t => bnd (asB t) fun b => if b = true then n else ret (.dat (.bl false))) ρ := rfl
theorem e_or (m n : Mo T) (ρ : Sl) : eOr m n ρ = bnd m (fun t => bnd (asB t) fun b => if b = true then ret (.dat (.bl true)) else n) ρ := rfl
theorem e_not (m : Mo T) (ρ : Sl) : eNot m ρ = bnd m (fun t => bnd (asB t) fun b => ret (.dat (.bl !b))) ρ := rfl
theorem e_eif (c : Mo Bool) (m n : Mo T) (ρ : Sl) : eIf c m n ρ = bnd c (fun b => if b = true then m else n) ρ := rfl
theorem e_acons (m : Mo T) (n : Mo (List T)) (ρ : Sl) : aCons m n ρ = bnd m (fun t => bnd n fun ts => ret (t :: ts)) ρ := rfl
theorem e_tup (n : Mo (List T)) (ρ : Sl) : eTup n ρ = bnd n (opM (few fun ds => .dt (.tup ds))) ρ := rfl
theorem e_lst (n : Mo (List T)) (ρ : Sl) : eLst n ρ = bnd n (opM (few fun ds => .nl ds)) ρ := rfl
theorem e_c (d : D) (ρ : Sl) : eC d ρ = some (.ok (.dat d), ρ) := rfl
theorem e_osome (m : Mo T) (ρ : Sl) : oSome m ρ = bnd m asI ρ := rfl
theorem e_B (f : List D → Option Out) (n : Mo (List T)) (ρ : Sl) : eB f n ρ = bnd n (opM f) ρ := rfl
theorem e_call0 (a : Nat) (f : FnD) (dds : List D) (n : Mo (List T)) (ρ : Sl) : eCall0 a f dds n ρ = bnd n (fun ts => noX (callM a f dds ts)) ρ := rfl
theorem e_prp (C : PySem.Str) (f : FnD) (mo : Mo T) (ρ : Sl) : ePrp C f mo ρ = bnd mo (fun t => bnd (chk C "" t) fun t => noX (callM 1 f [] [t])) ρ := rfl
theorem e_met (C m : PySem.Str) (a : Nat) (f : FnD) (dds : List D) (mo : Mo T) (n : Mo (List T)) (ρ : Sl) : eMet C m a f dds mo n ρ = bnd mo (fun t => bnd (chk C m t) fun t => bnd n fun ts => noX (callM a f dds (t :: ts))) ρ := rfl
theorem e_fld (cs : List PySem.Str) (f : PySem.Str) (m : Mo T) (ρ : Sl) : eFld cs f m ρ = bnd m (fun t => opM (fldM cs f) [t]) ρ := rfl
theorem e_mak (C : PySem.Str) (a : Nat) (f : FnB) (dds : List D) (n : Mo (List T)) (ρ : Sl) : eMak C a f dds n ρ = bnd n (makM C a f dds) ρ := rfl
def mkR (r : Option (Rs D × T)) (ρ : Sl) : Option (Rs T × Sl) := match r with
  | some (.ok .non, .ins true C' ns fs) => some (.ok (.ins false C' ns fs), ρ)
  | _ => none
theorem mkR_ok (C : PySem.Str) (ns : List PySem.Str) (fs : List D) (ρ : Sl) : mkR (some (.ok .non, .ins true C ns fs)) ρ = some (.ok (.ins false C ns fs), ρ) := rfl
theorem e_makM (C : PySem.Str) (a : Nat) (f : FnB) (dds : List D) (ts : List T) (ρ : Sl) : makM C a f dds ts ρ = match frzs ts with
  | none => none
  | some ds => if (ds ++ dds).length = a then mkR (f (.ins true C [] []) (ds ++ dds)) ρ else none := by
  unfold makM
  cases frzs ts with
  | none => rfl
  | some ds =>
    dsimp only
    split
    · generalize f (.ins true C [] []) (ds ++ dds) = z
      rcases z with _ | ⟨d | _, t⟩
      · rfl
      · cases d <;> try rfl
        cases t with
        | dat _ => rfl
        | lst _ _ => rfl
        | ins b _ _ _ => cases b <;> rfl
      · rfl
    · rfl
theorem e_calO (C : PySem.Str) (a : Nat) (f : FnD) (mo : Mo T) (n : Mo (List T)) (ρ : Sl) : eCal C a f mo n ρ = bnd mo (fun t => bnd (refM t) fun t => bnd n fun ts => calM C a f (t :: ts)) ρ := rfl
end SL

set_option Elab.async false
set_option linter.all false
/-! sequences that repeat with a rise: the least period, the shortest head -/
namespace PM
def IsPer (f : Nat → Int) (p : Nat) (s : Int) (N : Nat) : Prop := ∀ n, N ≤ n → f (n + p) = f n + s
structure Canon (f : Nat → Int) (p : Nat) (s : Int) (N : Nat) : Prop where
  pos : 0 < p
  per : IsPer f p s N
  least : ∀ q s' N', 0 < q → IsPer f q s' N' → p ≤ q
  tight : ∀ N', IsPer f p s N' → N ≤ N'
variable {f : Nat → Int} {p q L N M H : Nat} {s t r : Int}
theorem IsPer.mono (h : IsPer f p s N) (l : N ≤ M) : IsPer f p s M := fun n hn => h n (Nat.le_trans l hn)
theorem IsPer.mul (h : IsPer f p s N) : ∀ k, IsPer f (p * k) (s * k) N
  | 0 => fun n hn => by simp
  | k + 1 => fun n hn => by
    have h1 := IsPer.mul h k n hn
    have h2 := h (n + p * k) (Nat.le_trans hn (Nat.le_add_right _ _))
    have e : n + p * (k + 1) = n + p * k + p := by rw [Nat.mul_succ, Nat.add_assoc]
    rw [e, h2, h1]
    have : s * ((k + 1 : Nat) : Int) = s * k + s := by rw [Int.natCast_add, Int.mul_add]; simp
    rw [this]; omega
theorem IsPer.rise (h : IsPer f p s N) (h' : IsPer f p t M) : s = t := by
  have h1 := h (max N M) (Nat.le_max_left _ _)
  have h2 := h' (max N M) (Nat.le_max_right _ _)
  omega
theorem IsPer.back (h : IsPer f L r H) (hL : 0 < L) (h' : IsPer f q t M) : IsPer f q t H := fun n hn => by
  have hk : M ≤ n + L * M := Nat.le_trans (Nat.le_mul_of_pos_left _ hL) (Nat.le_add_left _ _)
  have h1 := h' (n + L * M) hk
  have h2 := h.mul M n hn
  have h3 := h.mul M (n + q) (Nat.le_trans hn (Nat.le_add_right _ _))
  have e : n + L * M + q = n + q + L * M := by omega
  rw [e] at h1
  omega
theorem exists_least (P : Nat → Prop) : ∀ n, P n → ∃ n, P n ∧ ∀ m, P m → n ≤ m := by
  intro n
  induction n using Nat.strongRecOn with
  | _ n ih =>
    intro hn
    by_cases h : ∃ m, m < n ∧ P m
    · obtain ⟨m, h1, h2⟩ := h
      exact ih m h1 h2
    · exact ⟨n, hn, fun m hm => Nat.le_of_not_lt fun hlt => h ⟨m, hlt, hm⟩⟩
theorem dvd_of_least (hp : 0 < p) (per : IsPer f p s N) (least : ∀ q s' N', 0 < q → IsPer f q s' N' → p ≤ q) (hL : IsPer f L r H) : ∃ k : Nat, L = p * k ∧ r = s * k := by
  have hd : L = p * (L / p) + L % p := (Nat.div_add_mod L p).symm
  have hc : L % p < p := Nat.mod_lt _ hp
  generalize L / p = k at hd
  generalize L % p = c at hd hc
  have hP : IsPer f c (r - s * k) (max N H) := fun n hn => by
    have h1 := hL n (Nat.le_trans (Nat.le_max_right _ _) hn)
    have h2 := per.mul k (n + c) (Nat.le_trans (Nat.le_trans (Nat.le_max_left _ _) hn) (Nat.le_add_right _ _))
    have e : n + c + p * k = n + L := by omega
    rw [e] at h2
    omega
  by_cases c0 : c = 0
  · subst c0
    have h1 := hP (max N H) (Nat.le_refl _)
    refine ⟨k, by omega, ?_⟩
    simp at h1
    omega
  · have := least c _ _ (Nat.pos_of_ne_zero c0) hP
    omega
theorem Canon.uniq {p' N' : Nat} {s' : Int} (h : Canon f p s N) (h' : Canon f p' s' N') : p = p' ∧ s = s' ∧ N = N' := by
  have e1 : p = p' := Nat.le_antisymm (h.least _ _ _ h'.pos h'.per) (h'.least _ _ _ h.pos h.per)
  subst e1
  have e2 := h.per.rise h'.per
  subst e2
  exact ⟨rfl, rfl, Nat.le_antisymm (h.tight _ h'.per) (h'.tight _ h.per)⟩
/-- m divides the loop as the code asks -/
def OkM (f : Nat → Int) (L : Nat) (r : Int) (H m : Nat) (st : Int) : Prop := 0 < m ∧ (∃ k : Nat, L = m * k ∧ r = st * k) ∧ IsPer f m st H
theorem canon_of {m : Nat} {st : Int} (hL : IsPer f L r H) (L0 : 0 < L) (ok : OkM f L r H m st) (lm : ∀ m' st', OkM f L r H m' st' → m ≤ m') (hN : IsPer f m st N) (tight : ∀ N', IsPer f m st N' → N ≤ N') : Canon f m st N := by
  refine ⟨ok.1, hN, fun q s' N' hq hper => ?_, tight⟩
  obtain ⟨q0, ⟨h1, s0, N0, h2⟩, h3⟩ := exists_least (fun q => 0 < q ∧ ∃ s N, IsPer f q s N) q ⟨hq, s', N', hper⟩
  have hl : ∀ q s' N', 0 < q → IsPer f q s' N' → q0 ≤ q := fun q s' N' a b => h3 q ⟨a, s', N', b⟩
  obtain ⟨k, e1, e2⟩ := dvd_of_least h1 h2 hl hL
  exact Nat.le_trans (lm q0 s0 ⟨h1, ⟨k, e1, e2⟩, hL.back L0 h2⟩) (hl q s' N' hq hper)
/-! ### a table's row: head, loop, rise -/
/-- the value behind place n + 1 -/
def sq (h l : List Int) (r : Int) (n : Nat) : Int := if n < h.length then h.getD n 0 else l.getD ((n - h.length) % l.length) 0 + r * ((n - h.length) / l.length : Nat)
theorem sq_per {h l : List Int} (hl : 0 < l.length) : IsPer (sq h l r) l.length r h.length := fun n hn => by
  unfold sq
  rw [if_neg (by omega), if_neg (by omega)]
  have e : n + l.length - h.length = (n - h.length) + l.length := by omega
  rw [e, Nat.add_mod_right, Nat.add_div_right _ hl, Int.natCast_succ, Int.mul_add]
  omega
theorem sq_head {h l : List Int} {n : Nat} (hn : n < h.length) : sq h l r n = h.getD n 0 := by unfold sq; rw [if_pos hn]
theorem sq_loop {h l : List Int} {n : Nat} (hn : n < l.length) : sq h l r (h.length + n) = l.getD n 0 := by
  unfold sq
  rw [if_neg (by omega)]
  have e : h.length + n - h.length = n := by omega
  rw [e, Nat.mod_eq_of_lt hn, Nat.div_eq_of_lt hn]
  simp
/-- the first n values -/
def row (f : Nat → Int) (a n : Nat) : List Int := (List.range n).map fun k => f (a + k)
theorem row_length (f : Nat → Int) (a n : Nat) : (row f a n).length = n := by simp [row]
theorem row_getD (f : Nat → Int) {a n k : Nat} (h : k < n) : (row f a n).getD k 0 = f (a + k) := by simp [row, List.getD, h]
theorem row_head (h l : List Int) (r : Int) : row (sq h l r) 0 h.length = h := by
  apply List.ext_getElem
  · simp [row]
  · intro i h1 h2
    simp [row, sq, h2]
/-- a row that is told by its values tells them -/
theorem sq_row (hp : 0 < p) (per : IsPer f p s N) : sq (row f 0 N) (row f N p) s = f := by
  funext n
  unfold sq
  simp only [row_length]
  by_cases h : n < N
  · rw [if_pos h, row_getD _ h]; simp
  · rw [if_neg h, row_getD _ (Nat.mod_lt _ hp)]
    have h1 := per.mul ((n - N) / p) (N + (n - N) % p) (Nat.le_add_right _ _)
    have e : N + (n - N) % p + p * ((n - N) / p) = n := by
      have := Nat.div_add_mod (n - N) p
      omega
    rw [e] at h1
    rw [h1]
/-- the plain form of a table with a loop -/
structure Plain (f : Nat → Int) (h l : List Int) (r : Int) : Prop where
  ex : ∃ p N, Canon f p r N ∧ h = row f 0 N ∧ l = row f N p
theorem Plain.uniq {h l h' l' : List Int} {r' : Int} (a : Plain f h l r) (b : Plain f h' l' r') : h = h' ∧ l = l' ∧ r = r' := by
  obtain ⟨p, N, c, e1, e2⟩ := a.ex
  obtain ⟨p', N', c', e1', e2'⟩ := b.ex
  obtain ⟨x, y, z⟩ := c.uniq c'
  subst x y z
  exact ⟨e1.trans e1'.symm, e2.trans e2'.symm, rfl⟩
theorem Plain.sq {h l : List Int} (a : Plain f h l r) : PM.sq h l r = f := by
  obtain ⟨p, N, c, e1, e2⟩ := a.ex
  subst e1 e2
  exact sq_row c.pos c.per
theorem Plain.pos {h l : List Int} (a : Plain f h l r) : 0 < l.length := by
  obtain ⟨p, N, c, e1, e2⟩ := a.ex
  subst e2
  rw [row_length]; exact c.pos
end PM

set_option Elab.async false
set_option linter.all false
namespace PM
variable {f : Nat → Int} {p q L N M H m : Nat} {s t r st : Int} {h l : List Int}
/-- what the code asks of a shorter loop of m values -/
structure Cond (l : List Int) (r : Int) (m : Nat) : Prop where
  pos : 0 < m
  dvd : l.length % m = 0
  rs : r % ((l.length / m : Nat) : Int) = 0
  eq : ∀ k, k < l.length - m → l.getD (k + m) 0 = l.getD k 0 + r / ((l.length / m : Nat) : Int)
theorem Cond.chain (c : Cond l r m) (j : Nat) : ∀ i : Nat, j + m * i < l.length → l.getD (j + m * i) 0 = l.getD j 0 + r / ((l.length / m : Nat) : Int) * i
  | 0, _ => by simp
  | i + 1, h => by
    have e : j + m * (i + 1) = j + m * i + m := by rw [Nat.mul_succ, Nat.add_assoc]
    have h1 := c.eq (j + m * i) (by omega)
    have h2 := Cond.chain c j i (by omega)
    rw [e, h1, h2, Int.natCast_succ, Int.mul_add]
    omega
theorem Cond.ok (c : Cond l r m) (hL : 0 < l.length) : OkM (sq h l r) l.length r h.length m (r / ((l.length / m : Nat) : Int)) := by
  have hd : l.length = m * (l.length / m) := by
    have := Nat.div_add_mod l.length m
    rw [c.dvd] at this; omega
  have hk : 0 < l.length / m := by
    rcases Nat.eq_zero_or_pos (l.length / m) with z | z
    · rw [z] at hd; omega
    · exact z
  have hr : r = r / ((l.length / m : Nat) : Int) * ((l.length / m : Nat) : Int) := by
    have := Int.emod_add_mul_ediv r ((l.length / m : Nat) : Int)
    rw [c.rs] at this
    rw [Int.mul_comm]; omega
  have ch := c.chain
  have ce := c.eq
  refine ⟨c.pos, ⟨_, hd, hr⟩, fun n hn => ?_⟩
  generalize l.length / m = k at *
  generalize r / (k : Int) = st at *
  obtain ⟨j, rfl⟩ : ∃ j, n = h.length + j := ⟨n - h.length, by omega⟩
  have hj := Nat.div_add_mod j l.length
  have hb := Nat.mod_lt j hL
  unfold sq
  rw [if_neg (by omega), if_neg (by omega)]
  have e1 : h.length + j + m - h.length = j + m := by omega
  have e2 : h.length + j - h.length = j := by omega
  rw [e1, e2]
  generalize j / l.length = a at *
  generalize j % l.length = b at *
  by_cases hw : b + m < l.length
  · have e3 : (j + m) % l.length = b + m := by
      rw [← hj, Nat.add_assoc, Nat.mul_add_mod, Nat.mod_eq_of_lt hw]
    have e4 : (j + m) / l.length = a := by
      rw [← hj, Nat.add_assoc, Nat.mul_add_div hL, Nat.div_eq_of_lt hw]; rfl
    rw [e3, e4, ce b (by omega)]
    omega
  · have hm : m ≤ l.length := by rw [hd]; exact Nat.le_mul_of_pos_right _ hk
    obtain ⟨c', hc'⟩ : ∃ c', b + m = l.length + c' := ⟨b + m - l.length, by omega⟩
    have hlt : c' < l.length := by omega
    have e3 : (j + m) % l.length = c' := by
      have : j + m = l.length * (a + 1) + c' := by rw [Nat.mul_succ]; omega
      rw [this, Nat.mul_add_mod, Nat.mod_eq_of_lt hlt]
    have e4 : (j + m) / l.length = a + 1 := by
      have : j + m = l.length * (a + 1) + c' := by rw [Nat.mul_succ]; omega
      rw [this, Nat.mul_add_div hL, Nat.div_eq_of_lt hlt]
    obtain ⟨k', rfl⟩ : ∃ k', k = k' + 1 := ⟨k - 1, by omega⟩
    have hb2 : b = c' + m * k' := by rw [Nat.mul_succ] at hd; omega
    have h3 := ch c' k' (by omega)
    rw [← hb2] at h3
    rw [e3, e4, h3]
    rw [Int.natCast_succ, Int.mul_add] at hr
    rw [Int.natCast_succ, Int.mul_add]
    omega
theorem Cond.of_ok (c : OkM (sq h l r) l.length r h.length m st) (hL : 0 < l.length) : Cond l r m ∧ st = r / ((l.length / m : Nat) : Int) := by
  obtain ⟨h1, ⟨k, hk, hr⟩, per⟩ := c
  have e1 : l.length / m = k := by rw [hk]; exact Nat.mul_div_cancel_left _ h1
  have k0 : 0 < k := by
    rcases Nat.eq_zero_or_pos k with z | z
    · rw [z] at hk; omega
    · exact z
  have e2 : r / ((l.length / m : Nat) : Int) = st := by
    rw [e1, hr]; exact Int.mul_ediv_cancel _ (by omega)
  refine ⟨⟨h1, by rw [hk]; exact Nat.mul_mod_right _ _, ?_, fun i hi => ?_⟩, e2.symm⟩
  · rw [e1, hr]; exact Int.mul_emod_left _ _
  · rw [e2]
    have h2 := per (h.length + i) (Nat.le_add_right _ _)
    rw [Nat.add_assoc, sq_loop (by omega), sq_loop (by omega)] at h2
    exact h2
/-- a table's plain form, from what a program finds: the least m, the shortest head -/
theorem plain_of (hL : 0 < l.length) (c : Cond l r m) (least : ∀ m', Cond l r m' → m ≤ m') (hN : IsPer (sq h l r) m (r / ((l.length / m : Nat) : Int)) N)
    (tight : N = 0 ∨ sq h l r (N - 1 + m) ≠ sq h l r (N - 1) + r / ((l.length / m : Nat) : Int)) : Plain (sq h l r) (row (sq h l r) 0 N) (row (sq h l r) N m) (r / ((l.length / m : Nat) : Int)) := by
  refine ⟨m, N, canon_of (sq_per hL) hL (c.ok hL) (fun m' st' h => least m' (Cond.of_ok h hL).1) hN (fun N' h' => ?_), rfl, rfl⟩
  rcases tight with z | z
  · omega
  · rcases Nat.lt_or_ge N' N with g | g
    · exact absurd (h' (N - 1) (by omega)) z
    · exact g
theorem Cond.self (hL : 0 < l.length) : Cond l r l.length := ⟨hL, Nat.mod_self _, by rw [Nat.div_self hL]; exact Int.emod_one _, fun k hk => by omega⟩
theorem Cond.le (c : Cond l r m) (hL : 0 < l.length) : m ≤ l.length := Nat.le_of_dvd hL (Nat.dvd_of_mod_eq_zero c.dvd)
end PM

set_option Elab.async false
set_option linter.all false
set_option maxRecDepth 100000
/-! loops, comprehensions -/
namespace SL
theorem e_for (m : Mo (List D)) (p : Pat) (b : So) (ρ : Sl) : sFor m p b ρ = match m ρ with
  | none => none
  | some (.exc x, ρ') => some (.exc x, ρ')
  | some (.ok xs, ρ') => forL p b xs ρ' := by unfold sFor toS; rcases m ρ with _ | ⟨_ | _, _⟩ <;> rfl
theorem e_rng (f : List D → Option (List D)) (n : Mo (List T)) (ρ : Sl) : iOf f n ρ = match n ρ with
  | none => none
  | some (.exc x, ρ') => some (.exc x, ρ')
  | some (.ok ts, ρ') => match frzs ts with
    | none => none
    | some ds => match f ds with
      | none => none
      | some xs => some (.ok xs, ρ') := by unfold iOf bnd; rcases n ρ with _ | ⟨_ | _, _⟩ <;> rfl
theorem e_iseq (m : Mo T) (ρ : Sl) : iSeq m ρ = match m ρ with
  | none => none
  | some (.exc x, ρ') => some (.exc x, ρ')
  | some (.ok t, ρ') => if t.brw = true then none else match itemsD t.fz with
    | none => none
    | some xs => some (.ok xs, ρ') := by unfold iSeq bnd; rcases m ρ with _ | ⟨_ | _, _⟩ <;> rfl
theorem it_l (xs : List D) : itemsD (.lst xs) = some xs := rfl
theorem rng1_n {n : Nat} (h : n ≤ 100000) : rng1 [.int (n : Nat)] = some (rngD 0 n) := by
  show (if -100000 ≤ (n : Int) ∧ (n : Int) ≤ 100000 then some (rngD 0 (n : Int).toNat) else none) = _
  rw [if_pos (by omega), Int.toNat_natCast]
theorem rng2_n {i n : Nat} (h : i ≤ 100000) (h2 : n ≤ 100000) : rng2 [.int (i : Nat), .int (n : Nat)] = some (rngD i (n - i)) := by
  show (if -100000 ≤ (i : Int) ∧ (i : Int) ≤ 100000 ∧ -100000 ≤ (n : Int) ∧ (n : Int) ≤ 100000 then some (rngD i ((n : Int) - i).toNat) else none) = _
  rw [if_pos (by omega)]
  have : ((n : Int) - i).toNat = n - i := by omega
  rw [this]
theorem rngD_length (i : Int) (n : Nat) : (rngD i n).length = n := by simp [rngD]
theorem rngD_get {i : Int} {n k : Nat} {d : D} (h : (rngD i n)[k]? = some d) : k < n ∧ d = .int (i + (k : Nat)) := by
  unfold rngD at h
  rw [List.getElem?_map] at h
  rcases Nat.lt_or_ge k n with hk | hk
  · rw [List.getElem?_range hk] at h
    cases h
    exact ⟨hk, rfl⟩
  · rw [List.getElem?_eq_none (by simpa using hk)] at h
    cases h
/-- a loop by what holds behind i turns -/
theorem for_inv {p : Pat} {b : So} : ∀ (xs : List D) (P : Nat → Sl → Prop) (ρ0 : Sl), (∀ i d ρ, xs[i]? = some d → P i ρ → ∃ ρ1 ρ2, asgP p d ρ = some ρ1 ∧ (b ρ1 = some (.next, ρ2) ∨ b ρ1 = some (.cont, ρ2)) ∧ P (i + 1) ρ2) → P 0 ρ0 → ∃ ρ', forL p b xs ρ0 = some (.next, ρ') ∧ P xs.length ρ'
  | [], P, ρ0, _, h0 => ⟨ρ0, rfl, h0⟩
  | d :: xs, P, ρ0, h, h0 => by
    obtain ⟨ρ1, ρ2, h1, h2, h3⟩ := h 0 d ρ0 rfl h0
    obtain ⟨ρ', e1, e2⟩ := for_inv xs (fun i => P (i + 1)) ρ2 (fun i d ρ hd hp => h (i + 1) d ρ hd hp) h3
    refine ⟨ρ', ?_, e2⟩
    unfold forL
    rw [h1]
    dsimp only
    rcases h2 with h2 | h2 <;> rw [h2] <;> exact e1
theorem for_inv_ret {p : Pat} {b : So} {t : T} : ∀ (xs : List D) (P : Nat → Sl → Prop) (ρ0 : Sl) (k : Nat) (d : D), xs[k]? = some d → (∀ i d ρ, i < k → xs[i]? = some d → P i ρ → ∃ ρ1 ρ2, asgP p d ρ = some ρ1 ∧ (b ρ1 = some (.next, ρ2) ∨ b ρ1 = some (.cont, ρ2)) ∧ P (i + 1) ρ2) → P 0 ρ0 →
    (∀ ρ, P k ρ → ∃ ρ1 ρ2, asgP p d ρ = some ρ1 ∧ b ρ1 = some (.ret t, ρ2)) → ∃ ρ', forL p b xs ρ0 = some (.ret t, ρ')
  | [], _, _, _, _, hk, _, _, _ => by simp at hk
  | x :: xs, P, ρ0, 0, d, hk, _, h0, hr => by
    cases hk
    obtain ⟨ρ1, ρ2, h1, h2⟩ := hr ρ0 h0
    refine ⟨ρ2, ?_⟩
    unfold forL
    rw [h1]; dsimp only; rw [h2]
  | x :: xs, P, ρ0, k + 1, d, hk, h, h0, hr => by
    obtain ⟨ρ1, ρ2, h1, h2, h3⟩ := h 0 x ρ0 (Nat.succ_pos _) rfl h0
    obtain ⟨ρ', e1⟩ := for_inv_ret xs (fun i => P (i + 1)) ρ2 k d hk (fun i d ρ hi hd hp => h (i + 1) d ρ (by omega) hd hp) h3 hr
    refine ⟨ρ', ?_⟩
    unfold forL
    rw [h1]
    dsimp only
    rcases h2 with h2 | h2 <;> rw [h2] <;> exact e1
theorem cut_to {α : Type} (xs : List α) (m : Nat) : cut xs none (some (m : Int)) = xs.take m := by
  unfold cut
  rw [HT.sIx_none, HT.sIx_nat]
  simp
theorem sl_t (xs : List D) (lo hi : Option Int) : slF (.tup xs) lo hi = some (.dt (.tup (cut xs lo hi))) := rfl
theorem seq_next {s u : So} {ρ ρ1 : Sl} (h : s ρ = some (.next, ρ1)) : sSeq s u ρ = u ρ1 := by rw [e_seq, h]
theorem seq_ret {s u : So} {ρ ρ1 : Sl} {t : T} (h : s ρ = some (.ret t, ρ1)) : sSeq s u ρ = some (.ret t, ρ1) := by rw [e_seq, h]
theorem if_t {c : Mo Bool} {s u : So} {ρ ρ1 : Sl} (h : c ρ = some (.ok true, ρ1)) : sIf c s u ρ = s ρ1 := by rw [e_if, h]; rfl
theorem if_f {c : Mo Bool} {s u : So} {ρ ρ1 : Sl} (h : c ρ = some (.ok false, ρ1)) : sIf c s u ρ = u ρ1 := by rw [e_if, h]; rfl
theorem e_while (c : Mo Bool) (b : So) (ρ : Sl) : whileF c b ρ = match c ρ with
  | none => none
  | some (.exc x, ρ1) => some (.exc x, ρ1)
  | some (.ok false, ρ1) => some (.next, ρ1)
  | some (.ok true, ρ1) => match b ρ1 with
    | none => none
    | some (.next, ρ2) => whileF c b ρ2
    | some (.cont, ρ2) => whileF c b ρ2
    | some (.brk, ρ2) => some (.next, ρ2)
    | some (.ret t, ρ2) => some (.ret t, ρ2)
    | some (.exc x, ρ2) => some (.exc x, ρ2) := by rw [whileF]; first | done | rfl
/-- a comprehension without a test -/
theorem lc_go {j : Nat} {e : Mo T} {ρ0 : Sl} {g : D → D} (hj : j < ρ0.length) (hs : ρ0.set j none = ρ0) : ∀ (xs acc : List D), (∀ x ∈ xs, ∃ t, e (ρ0.set j (some (.dat x))) = some (.ok t, ρ0.set j (some (.dat x))) ∧ t.brw = false ∧ t.fz = g x) → acc.length + xs.length ≤ 100000 →
    lcL (.nm j) (ret true) e xs acc ρ0 = some (.ok (acc ++ xs.map g), ρ0)
  | [], acc, _, _ => by unfold lcL; simp
  | x :: xs, acc, h, hl => by
    obtain ⟨t, h1, h2, h3⟩ := h x (List.mem_cons_self ..)
    unfold lcL
    rw [p_nm, if_pos hj]
    dsimp only
    rw [e_ret]
    dsimp only
    rw [h1]
    dsimp only
    rw [h2, h3]
    simp only [List.length_cons] at hl
    rw [if_neg (by decide), if_pos (by omega)]
    have hw : wip (ρ0.set j (some (.dat x))) (slotsP (.nm j)) = ρ0 := by
      unfold slotsP wip wip
      rw [List.set_set]; exact hs
    rw [hw, lc_go hj hs xs (acc ++ [g x]) (fun y hy => h y (List.mem_cons_of_mem _ hy)) (by simp; omega)]
    simp
theorem e_lc {m : Mo (List D)} {j : Nat} {e : Mo T} {ρ ρ1 : Sl} {xs : List D} (g : D → D) (hm : m ρ = some (.ok xs, ρ1)) (hj : j < ρ1.length) (hl : xs.length ≤ 100000)
    (he : ∀ x ∈ xs, ∃ t, e (ρ1.set j (some (.dat x))) = some (.ok t, ρ1.set j (some (.dat x))) ∧ t.brw = false ∧ t.fz = g x) : eLc m (.nm j) (ret true) e ρ = some (.ok (.lst false (xs.map g)), ρ1.set j none) := by
  unfold eLc
  rw [hm]
  dsimp only
  have hw : wip ρ1 (slotsP (.nm j)) = ρ1.set j none := by unfold slotsP wip wip; rfl
  rw [hw, lc_go (ρ0 := ρ1.set j none) (g := g) (by simpa using hj) (by rw [List.set_set]) xs [] (by simpa only [List.set_set] using he) (by simpa using hl)]
  rfl
/-! lists of ints, of bools -/
theorem bools_map {α : Type} (b : α → Bool) : ∀ xs : List α, boolsOf (xs.map fun x => .bl (b x)) = some (xs.map b)
  | [] => rfl
  | x :: xs => by simp [boolsOf, bools_map b xs]
theorem all_map {α : Type} (b : α → Bool) (xs : List α) : allF [.lst (xs.map fun x => .bl (b x))] = some (.dt (.bl (xs.all b))) := by
  show (boolsOf (xs.map fun x => .bl (b x))).map (fun ns => Out.dt (.bl (ns.all id))) = _
  rw [bools_map]
  simp [List.all_map, Function.comp_def]
theorem atI_ints (l : List Int) (i : Int) : L2.atI (l.map D.int) i = (L2.atI l i).map D.int := by
  unfold L2.atI
  rw [List.length_map]
  cases L2.ixN l.length i with
  | none => rfl
  | some j => simp
theorem atI_nat {α : Type} {l : List α} {k : Nat} (h : k < l.length) : L2.atI l (k : Int) = l[k]? := by
  unfold L2.atI L2.ixN
  rw [if_pos (by omega), if_pos (by omega)]
  simp
theorem atI_last {α : Type} {l : List α} (h : 0 < l.length) : L2.atI l (-1) = l.getLast? := by
  unfold L2.atI L2.ixN
  rw [if_neg (by omega), if_pos (by omega)]
  show l[((-1 : Int) + l.length).toNat]? = _
  rw [List.getLast?_eq_getElem?]
  congr 1; omega
end SL

set_option Elab.async false
set_option linter.all false
set_option maxRecDepth 100000
set_option maxHeartbeats 400000
/-! bodies read backwards, step by step -/
namespace SL
variable {α β : Type} {m ma mb mo : Mo T} {n : Mo (List T)} {c c2 : Mo Bool} {ρ ρ' : Sl} {s u b : So} {i j k : Nat} {d e z : D} {xs ys : List D} {t : T}
structure We (m : Mo α) (ρ : Sl) (Q : α → Sl → Prop) : Prop where
  ex : ∃ a ρ', m ρ = some (.ok a, ρ') ∧ Q a ρ'
structure Ws (s : So) (ρ : Sl) (Q : Fl → Sl → Prop) : Prop where
  ex : ∃ fl ρ', s ρ = some (fl, ρ') ∧ Q fl ρ'
/-- a value of which only its data counts -/
structure Fd (Q : D → Sl → Prop) (t : T) (ρ : Sl) : Prop where
  b : t.brw = false
  q : Q t.fz ρ
structure Fds (Q : List D → Sl → Prop) (ts : List T) (ρ : Sl) : Prop where
  ex : ∃ ds, frzs ts = some ds ∧ Q ds ρ
theorem fd_d {Q : D → Sl → Prop} (h : Q d ρ) : Fd Q (.dat d) ρ := ⟨rfl, h⟩
theorem fd_l {Q : D → Sl → Prop} (h : Q (.lst xs) ρ) : Fd Q (.lst false xs) ρ := ⟨rfl, h⟩
theorem fd_i {Q : D → Sl → Prop} {C ns} (h : Q (.obj C ns xs) ρ) : Fd Q (.ins false C ns xs) ρ := ⟨rfl, h⟩
def outT : Out → T
  | .dt d => .dat d
  | .nl xs => .lst false xs
theorem out_eq (o : Out) (ρ : Sl) : outM (some o) ρ = some (.ok (outT o), ρ) := by cases o <;> rfl
/-- what a built-in operation gives -/
structure Op (r : Option Out) (Q : T → Prop) : Prop where
  ex : ∃ o, r = some o ∧ Q (outT o)
theorem op_dt {r : Option Out} {Q : T → Prop} (h : r = some (.dt z)) (q : Q (.dat z)) : Op r Q := ⟨_, h, q⟩
theorem op_nl {r : Option Out} {Q : T → Prop} (h : r = some (.nl xs)) (q : Q (.lst false xs)) : Op r Q := ⟨_, h, q⟩
/-- what a def gives -/
structure Cl (r : Option (Rs T)) (Q : T → Prop) : Prop where
  ex : ∃ t, r = some (.ok t) ∧ t.brw = false ∧ Q t
theorem cl_d {r : Option (Rs T)} {Q : T → Prop} (h : r = some (.ok (.dat d))) (q : Q (.dat d)) : Cl r Q := ⟨_, h, rfl, q⟩
theorem cl_l {r : Option (Rs T)} {Q : T → Prop} (h : r = some (.ok (.lst false xs))) (q : Q (.lst false xs)) : Cl r Q := ⟨_, h, rfl, q⟩
theorem cl_i {r : Option (Rs T)} {Q : T → Prop} {C ns} (h : r = some (.ok (.ins false C ns xs))) (q : Q (.ins false C ns xs)) : Cl r Q := ⟨_, h, rfl, q⟩
/-- what a def gives that changes a list -/
structure ClL (r : Option (Rs D × T)) (Q : D → List D → Prop) : Prop where
  ex : ∃ d ys, r = some (.ok d, .lst true ys) ∧ Q d ys
structure Mk (r : Option (Rs D × T)) (Q : T → Prop) : Prop where
  ex : ∃ C ns fs, r = some (.ok .non, .ins true C ns fs) ∧ Q (.ins false C ns fs)
theorem mk_of {r : Option (Rs D × T)} {Q : T → Prop} {C ns fs} (h : r = some (.ok .non, .ins true C ns fs)) (q : Q (.ins false C ns fs)) : Mk r Q := ⟨_, _, _, h, q⟩
structure Bl (d : D) (Q : Bool → Prop) : Prop where
  ex : ∃ b, d = .bl b ∧ Q b
theorem bl_i {b : Bool} {Q : Bool → Prop} (q : Q b) : Bl (.bl b) Q := ⟨_, rfl, q⟩
structure Bt (b : Bool) (A B : Prop) : Prop where
  tr : b = true → A
  fa : b = false → B
theorem br_true {A B : Prop} (a : A) : Bt true A B := ⟨fun _ => a, fun h => Bool.noConfusion h⟩
theorem br_false {A B : Prop} (a : B) : Bt false A B := ⟨fun h => Bool.noConfusion h, fun _ => a⟩
theorem br_not {b : Bool} {A B : Prop} (a : Bt b B A) : Bt (!b) A B := ⟨fun h => a.fa (by simpa using h), fun h => a.tr (by simpa using h)⟩
theorem br_t {b : Bool} {A B : Prop} (h : b = true) (a : A) : Bt b A B := by subst h; exact br_true a
theorem br_f {b : Bool} {A B : Prop} (h : b = false) (a : B) : Bt b A B := by subst h; exact br_false a
theorem br_s {b : Bool} {A B : Prop} (h : b = true → A) (h2 : b = false → B) : Bt b A B := ⟨h, h2⟩
theorem br_or_t {b : Bool} {A B : Prop} (a : A) : Bt (true || b) A B := by rw [Bool.true_or]; exact br_true a
theorem br_or_f {b : Bool} {A B : Prop} (a : Bt b A B) : Bt (false || b) A B := by rw [Bool.false_or]; exact a
theorem br_and_t {b : Bool} {A B : Prop} (a : Bt b A B) : Bt (true && b) A B := by rw [Bool.true_and]; exact a
theorem br_and_f {b : Bool} {A B : Prop} (a : B) : Bt (false && b) A B := by rw [Bool.false_and]; exact br_false a
theorem br_dt {P : Prop} [Decidable P] {A B : Prop} (h : P) (a : A) : Bt (decide P) A B := br_t (decide_eq_true h) a
theorem br_df {P : Prop} [Decidable P] {A B : Prop} (h : ¬ P) (a : B) : Bt (decide P) A B := br_f (decide_eq_false h) a
theorem br_ds {P : Prop} [Decidable P] {A B : Prop} (h : P → A) (h2 : ¬ P → B) : Bt (decide P) A B := ⟨fun x => h (of_decide_eq_true x), fun x => h2 (of_decide_eq_false x)⟩
theorem We.mono {m : Mo α} {P Q : α → Sl → Prop} (h : We m ρ P) (q : ∀ a ρ', P a ρ' → Q a ρ') : We m ρ Q := let ⟨a, r, e, p⟩ := h; ⟨a, r, e, q a r p⟩
theorem Ws.mono {P Q : Fl → Sl → Prop} (h : Ws s ρ P) (q : ∀ a ρ', P a ρ' → Q a ρ') : Ws s ρ Q := let ⟨a, r, e, p⟩ := h; ⟨a, r, e, q a r p⟩
theorem we_c {Q : T → Sl → Prop} (q : Q (.dat d) ρ) : We (eC d) ρ Q := ⟨_, _, rfl, q⟩
theorem set_same {l : Sl} {t : T} (h : l[i]? = some (some t)) : l.set i (some t) = l := by
  apply List.ext_getElem?
  intro k
  by_cases e : k = i
  · subst e
    have := (List.getElem?_eq_some_iff.mp h).1
    rw [List.getElem?_set_self this, h]
  · rw [List.getElem?_set_ne (Ne.symm e)]
theorem we_var {Q : T → Sl → Prop} (h : ρ[i]? = some (some (.dat d))) (q : Q (.dat d) ρ) : We (eVar i) ρ Q := by
  refine ⟨_, ρ, ?_, q⟩
  rw [e_var, h]
  show some (Rs.ok (T.dat d), ρ.set i (some (.dat d))) = _
  rw [set_same h]
theorem we_varl {Q : T → Sl → Prop} (h : ρ[i]? = some (some (.lst false xs))) (hs : ρ.set i (some (.dat (.lst xs))) = ρ') (q : Q (.dat (.lst xs)) ρ') : We (eVar i) ρ Q := by
  subst hs
  refine ⟨_, _, ?_, q⟩
  rw [e_var, h]
  rfl
theorem we_vari {Q : T → Sl → Prop} {C ns} (h : ρ[i]? = some (some (.ins false C ns xs))) (hs : ρ.set i (some (.dat (.obj C ns xs))) = ρ') (q : Q (.dat (.obj C ns xs)) ρ') : We (eVar i) ρ Q := by
  subst hs
  refine ⟨_, _, ?_, q⟩
  rw [e_var, h]
  rfl
theorem fz_two {x y : T} (hx : x.brw = false) (hy : y.brw = false) : frzs [x, y] = some [x.fz, y.fz] := by simp [frzs, hx, hy]
theorem fz_one {x : T} (hx : x.brw = false) : frzs [x] = some [x.fz] := by simp [frzs, hx]
theorem fz_cons {x : T} {ts : List T} {ds : List D} (hx : x.brw = false) (h : frzs ts = some ds) : frzs (x :: ts) = some (x.fz :: ds) := by
  unfold frzs at h ⊢
  split at h
  · cases h
  · next z => cases h; simp [hx]; simpa using z
theorem we_bin {f : D → D → Option Out} {Q : T → Sl → Prop} (h : We ma ρ (Fd fun d ρ1 => We mb ρ1 (Fd fun e ρ2 => Op (f d e) fun t => Q t ρ2))) : We (bin f ma mb) ρ Q := by
  obtain ⟨x, r1, e1, b1, y, r2, e2, b2, o, e3, q⟩ := h
  refine ⟨outT o, r2, ?_, q⟩
  rw [e_bin, e_bnd, e1]; dsimp only
  rw [e_bnd, e2]; dsimp only
  rw [e_opM, fz_two b1 b2]
  show outM (f x.fz y.fz) r2 = _
  rw [e3, out_eq]
theorem we_una {f : D → Option Out} {Q : T → Sl → Prop} (h : We ma ρ (Fd fun d ρ1 => Op (f d) fun t => Q t ρ1)) : We (una f ma) ρ Q := by
  obtain ⟨x, r1, e1, b1, o, e3, q⟩ := h
  refine ⟨outT o, r1, ?_, q⟩
  rw [e_una, e_bnd, e1]; dsimp only
  rw [e_opM, fz_one b1]
  show outM (f x.fz) r1 = _
  rw [e3, out_eq]
theorem asB_of {x : T} {bb : Bool} (h : x.brw = false) (e : x.fz = .bl bb) (r : Sl) : asB x r = some (.ok bb, r) := by
  cases x with
  | dat d => cases e; rfl
  | lst _ _ => cases e
  | ins _ _ _ _ => cases e
theorem we_tst {Q : Bool → Sl → Prop} (h : We m ρ (Fd fun d ρ1 => Bl d fun b => Q b ρ1)) : We (tst m) ρ Q := by
  obtain ⟨x, r1, e1, b1, bb, e2, q⟩ := h
  refine ⟨bb, r1, ?_, q⟩
  rw [e_tst, e_bnd, e1]; exact asB_of b1 e2 r1
theorem we_cand {Q : Bool → Sl → Prop} (h : We c ρ fun b ρ1 => Bt b (We c2 ρ1 Q) (Q false ρ1)) : We (cAnd c c2) ρ Q := by
  obtain ⟨b, r1, e1, h1, h2⟩ := h
  cases b with
  | true => obtain ⟨a, r, e, q⟩ := h1 rfl; exact ⟨a, r, by rw [e_cand, e_bnd, e1]; exact e, q⟩
  | false => exact ⟨false, r1, by rw [e_cand, e_bnd, e1]; rfl, h2 rfl⟩
theorem we_cor {Q : Bool → Sl → Prop} (h : We c ρ fun b ρ1 => Bt b (Q true ρ1) (We c2 ρ1 Q)) : We (cOr c c2) ρ Q := by
  obtain ⟨b, r1, e1, h1, h2⟩ := h
  cases b with
  | false => obtain ⟨a, r, e, q⟩ := h2 rfl; exact ⟨a, r, by rw [e_cor, e_bnd, e1]; exact e, q⟩
  | true => exact ⟨true, r1, by rw [e_cor, e_bnd, e1]; rfl, h1 rfl⟩
theorem we_cnot {Q : Bool → Sl → Prop} (h : We c ρ fun b ρ1 => Q (!b) ρ1) : We (cNot c) ρ Q := by
  obtain ⟨b, r1, e1, q⟩ := h
  exact ⟨!b, r1, by rw [e_cnot, e_bnd, e1]; rfl, q⟩
theorem we_and {Q : T → Sl → Prop} (h : We m ρ (Fd fun d ρ1 => Bl d fun b => Bt b (We mb ρ1 Q) (Q (.dat (.bl false)) ρ1))) : We (eAnd m mb) ρ Q := by
  obtain ⟨x, r1, e1, b1, bb, e2, h1, h2⟩ := h
  cases bb with
  | true => obtain ⟨a, r, e, q⟩ := h1 rfl; exact ⟨a, r, by rw [e_and, e_bnd, e1]; dsimp only; rw [e_bnd, asB_of b1 e2]; exact e, q⟩
  | false => exact ⟨_, r1, by rw [e_and, e_bnd, e1]; dsimp only; rw [e_bnd, asB_of b1 e2]; rfl, h2 rfl⟩
theorem we_or {Q : T → Sl → Prop} (h : We m ρ (Fd fun d ρ1 => Bl d fun b => Bt b (Q (.dat (.bl true)) ρ1) (We mb ρ1 Q))) : We (eOr m mb) ρ Q := by
  obtain ⟨x, r1, e1, b1, bb, e2, h1, h2⟩ := h
  cases bb with
  | false => obtain ⟨a, r, e, q⟩ := h2 rfl; exact ⟨a, r, by rw [e_or, e_bnd, e1]; dsimp only; rw [e_bnd, asB_of b1 e2]; exact e, q⟩
  | true => exact ⟨_, r1, by rw [e_or, e_bnd, e1]; dsimp only; rw [e_bnd, asB_of b1 e2]; rfl, h1 rfl⟩
theorem we_not {Q : T → Sl → Prop} (h : We m ρ (Fd fun d ρ1 => Bl d fun b => Q (.dat (.bl !b)) ρ1)) : We (eNot m) ρ Q := by
  obtain ⟨x, r1, e1, b1, bb, e2, q⟩ := h
  exact ⟨_, r1, by rw [e_not, e_bnd, e1]; dsimp only; rw [e_bnd, asB_of b1 e2]; rfl, q⟩
theorem we_if {Q : T → Sl → Prop} (h : We c ρ fun b ρ1 => Bt b (We ma ρ1 Q) (We mb ρ1 Q)) : We (eIf c ma mb) ρ Q := by
  obtain ⟨bb, r1, e1, h1, h2⟩ := h
  cases bb with
  | true => obtain ⟨a, r, e, q⟩ := h1 rfl; exact ⟨a, r, by rw [e_eif, e_bnd, e1]; exact e, q⟩
  | false => obtain ⟨a, r, e, q⟩ := h2 rfl; exact ⟨a, r, by rw [e_eif, e_bnd, e1]; exact e, q⟩
theorem wa_nil {Q : List D → Sl → Prop} (q : Q [] ρ) : We (ret []) ρ (Fds Q) := ⟨_, _, rfl, [], rfl, q⟩
theorem wa_cons {Q : List D → Sl → Prop} (h : We m ρ (Fd fun d ρ1 => We n ρ1 (Fds fun ds ρ2 => Q (d :: ds) ρ2))) : We (aCons m n) ρ (Fds Q) := by
  obtain ⟨x, r1, e1, b1, ts, r2, e2, ds, e3, q⟩ := h
  refine ⟨x :: ts, r2, ?_, x.fz :: ds, fz_cons b1 e3, q⟩
  rw [e_acons, e_bnd, e1]; dsimp only
  rw [e_bnd, e2]; rfl
/-- arguments as they are -/
theorem wt_nil {Q : List T → Sl → Prop} (q : Q [] ρ) : We (ret []) ρ Q := ⟨_, _, rfl, q⟩
theorem wt_cons {Q : List T → Sl → Prop} (h : We m ρ fun t ρ1 => We n ρ1 fun ts ρ2 => Q (t :: ts) ρ2) : We (aCons m n) ρ Q := by
  obtain ⟨x, r1, e1, ts, r2, e2, q⟩ := h
  refine ⟨x :: ts, r2, ?_, q⟩
  rw [e_acons, e_bnd, e1]; dsimp only
  rw [e_bnd, e2]; rfl
theorem we_opA {f : List D → Option Out} {Q : T → Sl → Prop} (h : We n ρ (Fds fun ds ρ1 => Op (f ds) fun t => Q t ρ1)) : We (bnd n (opM f)) ρ Q := by
  obtain ⟨ts, r1, e1, ds, e2, o, e3, q⟩ := h
  refine ⟨outT o, r1, ?_, q⟩
  rw [e_bnd, e1]; dsimp only
  rw [e_opM, e2]; dsimp only
  rw [e3, out_eq]
theorem we_B {f : List D → Option Out} {Q : T → Sl → Prop} (h : We n ρ (Fds fun ds ρ1 => Op (f ds) fun t => Q t ρ1)) : We (eB f n) ρ Q := we_opA h
theorem we_tup {Q : T → Sl → Prop} (h : We n ρ (Fds fun ds ρ1 => ds.length ≤ 100000 ∧ Q (.dat (.tup ds)) ρ1)) : We (eTup n) ρ Q := we_opA (h.mono fun ts r ⟨ds, e, l, q⟩ => ⟨ds, e, .dt (.tup ds), by unfold few; rw [if_pos l], q⟩)
theorem we_lst {Q : T → Sl → Prop} (h : We n ρ (Fds fun ds ρ1 => ds.length ≤ 100000 ∧ Q (.lst false ds) ρ1)) : We (eLst n) ρ Q := we_opA (h.mono fun ts r ⟨ds, e, l, q⟩ => ⟨ds, e, .nl ds, by unfold few; rw [if_pos l], q⟩)
theorem we_tup0 {Q : T → Sl → Prop} (q : Q (.dat (.tup [])) ρ) : We (eTup (ret [])) ρ Q := we_tup (wa_nil ⟨by decide, q⟩)
theorem we_lst0 {Q : T → Sl → Prop} (q : Q (.lst false []) ρ) : We (eLst (ret [])) ρ Q := we_lst (wa_nil ⟨by decide, q⟩)
theorem atS_of {ρ : Sl} (h : ρ[i]? = some (some t)) : atS i ρ = some t := by unfold atS; rw [h]
theorem we_s1d {f : D → Option Out} {Q : T → Sl → Prop} (h : ρ[i]? = some (some (.dat d))) (q : Op (f d) fun t => Q t ρ) : We (s1M f i) ρ Q := by
  obtain ⟨o, e, q⟩ := q
  exact ⟨outT o, ρ, by rw [e_s1, atS_of h]; show outM (f d) ρ = _; rw [e, out_eq], q⟩
theorem we_s1l {f : D → Option Out} {Q : T → Sl → Prop} {bb : Bool} (h : ρ[i]? = some (some (.lst bb xs))) (q : Op (f (.lst xs)) fun t => Q t ρ) : We (s1M f i) ρ Q := by
  obtain ⟨o, e, q⟩ := q
  exact ⟨outT o, ρ, by rw [e_s1, atS_of h]; show outM (f (.lst xs)) ρ = _; rw [e, out_eq], q⟩
theorem we_s1i {f : D → Option Out} {Q : T → Sl → Prop} {bb : Bool} {C ns} (h : ρ[i]? = some (some (.ins bb C ns xs))) (q : Op (f (.obj C ns xs)) fun t => Q t ρ) : We (s1M f i) ρ Q := by
  obtain ⟨o, e, q⟩ := q
  exact ⟨outT o, ρ, by rw [e_s1, atS_of h]; show outM (f (.obj C ns xs)) ρ = _; rw [e, out_eq], q⟩
theorem we_s2 {f : D → D → Option Out} {Q : T → Sl → Prop} {t0 : T} (h : ρ[i]? = some (some t0)) (q : We mb ρ (Fd fun e ρ1 => ∃ t, ρ1[i]? = some (some t) ∧ Op (f t.fz e) fun t => Q t ρ1)) : We (s2M f i mb) ρ Q := by
  obtain ⟨y, r, e1, b1, t, e2, o, e3, q⟩ := q
  refine ⟨outT o, r, ?_, q⟩
  rw [e_s2, atS_of h]; dsimp only
  rw [e1]; dsimp only
  rw [if_neg (by rw [b1]; decide), atS_of e2]; dsimp only
  rw [e3, out_eq]
theorem we_s2d {f : D → D → Option Out} {Q : T → Sl → Prop} (h : ρ[i]? = some (some (.dat d))) (q : We mb ρ (Fd fun e ρ1 => ρ1[i]? = some (some (.dat d)) ∧ Op (f d e) fun t => Q t ρ1)) : We (s2M f i mb) ρ Q :=
  we_s2 h (q.mono fun _ _ ⟨b1, e2, q⟩ => ⟨b1, _, e2, q⟩)
theorem we_s2l {f : D → D → Option Out} {Q : T → Sl → Prop} {bb : Bool} (h : ρ[i]? = some (some (.lst bb xs))) (q : We mb ρ (Fd fun e ρ1 => ρ1[i]? = some (some (.lst bb xs)) ∧ Op (f (.lst xs) e) fun t => Q t ρ1)) : We (s2M f i mb) ρ Q :=
  we_s2 h (q.mono fun _ _ ⟨b1, e2, q⟩ => ⟨b1, _, e2, q⟩)
theorem wo_none {Q : Option Int → Sl → Prop} (q : Q none ρ) : We (ret none) ρ Q := ⟨_, _, rfl, q⟩
theorem wo_some {Q : Option Int → Sl → Prop} (h : We m ρ (Fd fun d ρ1 => ∃ v : Int, d = .int v ∧ Q (some v) ρ1)) : We (oSome m) ρ Q := by
  obtain ⟨x, r, e1, b1, v, e2, q⟩ := h
  refine ⟨some v, r, ?_, q⟩
  rw [e_osome, e_bnd, e1]
  cases x with
  | dat d => cases e2; rfl
  | lst _ _ => cases e2
  | ins _ _ _ _ => cases e2
theorem we_sSl {f : D → Option Int → Option Int → Option Out} {ml mh : Mo (Option Int)} {Q : T → Sl → Prop} {t0 : T} (h : ρ[i]? = some (some t0)) (q : We ml ρ fun lo ρ1 => We mh ρ1 fun hi ρ2 => ∃ t, ρ2[i]? = some (some t) ∧ Op (f t.fz lo hi) fun t => Q t ρ2) : We (sSlM f i ml mh) ρ Q := by
  obtain ⟨lo, r1, e1, hi, r2, e2, t, e3, o, e4, q⟩ := q
  refine ⟨outT o, r2, ?_, q⟩
  rw [e_sl, atS_of h]; dsimp only
  rw [e1]; dsimp only
  rw [e2]; dsimp only
  rw [atS_of e3]; dsimp only
  rw [e4, out_eq]
theorem we_sSld {f : D → Option Int → Option Int → Option Out} {ml mh : Mo (Option Int)} {Q : T → Sl → Prop} (h : ρ[i]? = some (some (.dat d))) (q : We ml ρ fun lo ρ1 => We mh ρ1 fun hi ρ2 => ρ2[i]? = some (some (.dat d)) ∧ Op (f d lo hi) fun t => Q t ρ2) : We (sSlM f i ml mh) ρ Q :=
  we_sSl h (q.mono fun _ _ q => q.mono fun _ _ ⟨e, q⟩ => ⟨_, e, q⟩)
theorem we_sSll {f : D → Option Int → Option Int → Option Out} {ml mh : Mo (Option Int)} {Q : T → Sl → Prop} {bb : Bool} (h : ρ[i]? = some (some (.lst bb xs))) (q : We ml ρ fun lo ρ1 => We mh ρ1 fun hi ρ2 => ρ2[i]? = some (some (.lst bb xs)) ∧ Op (f (.lst xs) lo hi) fun t => Q t ρ2) : We (sSlM f i ml mh) ρ Q :=
  we_sSl h (q.mono fun _ _ q => q.mono fun _ _ ⟨e, q⟩ => ⟨_, e, q⟩)
theorem we_eSl {f : D → Option Int → Option Int → Option Out} {ml mh : Mo (Option Int)} {Q : T → Sl → Prop} (q : We m ρ (Fd fun d ρ0 => We ml ρ0 fun lo ρ1 => We mh ρ1 fun hi ρ2 => Op (f d lo hi) fun t => Q t ρ2)) : We (eSl f m ml mh) ρ Q := by
  obtain ⟨x, r0, e0, b0, lo, r1, e1, hi, r2, e2, o, e4, q⟩ := q
  refine ⟨outT o, r2, ?_, q⟩
  unfold eSl
  rw [e_bnd, e0]; dsimp only
  rw [e_bnd, e1]; dsimp only
  rw [e_bnd, e2]; dsimp only
  rw [e_opM, fz_one b0]
  show outM (f x.fz lo hi) r2 = _
  rw [e4, out_eq]
theorem e_callM_ok {a : Nat} {f : FnD} {dds : List D} {ts : List T} {ds : List D} {t : T} (h1 : frzs ts = some ds) (h2 : (ds ++ dds).length = a) (h3 : f (ds ++ dds) = some (.ok t)) (h4 : t.brw = false) (ρ : Sl) : callM a f dds ts ρ = some (.ok t, ρ) := by
  rw [e_callM, h1]; dsimp only
  rw [if_pos h2, h3]; dsimp only
  rw [if_neg (by rw [h4]; decide)]
theorem we_call0 {a : Nat} {f : FnD} {Q : T → Sl → Prop} (h : We n ρ (Fds fun ds ρ1 => ds.length = a ∧ Cl (f ds) fun t => Q t ρ1)) : We (eCall0 a f [] n) ρ Q := by
  obtain ⟨ts, r1, e1, ds, e2, l, t, e3, b, q⟩ := h
  refine ⟨t, r1, ?_, q⟩
  rw [e_call0, e_bnd, e1]; dsimp only
  rw [e_noX, e_callM_ok e2 (by simpa using l) (by simpa using e3) b]
/-- the state behind a store -/
structure St' (r : Sl) (i : Nat) (t : T) (P : Sl → Prop) : Prop where
  l : i < r.length
  p : P (r.set i (some t))
theorem st_i {r r2 : Sl} {P : Sl → Prop} (hs : r.set i (some t) = r2) (hl : i < r.length) (p : P r2) : St' r i t P := by subst hs; exact ⟨hl, p⟩
theorem we_callB {f : FnB} {Q : T → Sl → Prop} {t0 : T} (h0 : ρ[i]? = some (some t0)) (h : We n ρ (Fds fun ds ρ1 => ∃ bb xs, ρ1[i]? = some (some (.lst bb xs)) ∧ ds.length = k ∧ ClL (f (.lst true xs) ds) fun d ys => St' ρ1 i (.lst bb ys) fun r => Q (.dat d) r)) : We (eCallB k f i n) ρ Q := by
  obtain ⟨ts, r1, e1, ds, e2, bb, xs, e3, l, d, ys, e4, q⟩ := h
  refine ⟨_, _, ?_, q.p⟩
  unfold eCallB
  rw [atS_of h0]; dsimp only
  rw [e_bnd, e1]; dsimp only
  rw [e2, atS_of e3]; dsimp only
  rw [if_pos ⟨rfl, l⟩]
  have e5 : f (T.setB true (T.lst bb xs)) ds = some (.ok d, .lst true ys) := e4
  rw [e5]
  rfl
/-- the list that is lent stands in slot i -/
theorem we_callBl {f : FnB} {Q : T → Sl → Prop} {bb : Bool} (h0 : ρ[i]? = some (some (.lst bb xs))) (h : We n ρ (Fds fun ds ρ1 => ρ1[i]? = some (some (.lst bb xs)) ∧ ds.length = k ∧ ClL (f (.lst true xs) ds) fun d ys => St' ρ1 i (.lst bb ys) fun r => Q (.dat d) r)) : We (eCallB k f i n) ρ Q :=
  we_callB h0 (h.mono fun _ _ ⟨ds, e, h1, h2, h3⟩ => ⟨ds, e, _, _, h1, h2, h3⟩)
theorem we_callT {f : FnB} {Q : T → Sl → Prop} (h : We m ρ fun t ρ1 => We n ρ1 (Fds fun ds ρ2 => ∃ xs, t = .lst false xs ∧ ds.length = k ∧ ClL (f (.lst true xs) ds) fun d ys => Q (.dat d) ρ2)) : We (eCallT k f (aCons m n)) ρ Q := by
  obtain ⟨t, r1, e1, ts, r2, e2, ds, e3, xs, rfl, l, d, ys, e4, q⟩ := h
  refine ⟨_, r2, ?_, q⟩
  unfold eCallT
  rw [e_bnd, e_acons, e_bnd, e1]; dsimp only
  rw [e_bnd, e2]; dsimp only
  rw [e_ret]; dsimp only
  unfold tmpM
  dsimp only
  rw [e3]; dsimp only
  rw [if_pos ⟨rfl, rfl, l⟩]
  have e5 : f (T.setB true (T.lst false xs)) ds = some (.ok d, .lst true ys) := e4
  rw [e5]
  rfl
theorem we_mak {C : PySem.Str} {a : Nat} {f : FnB} {dds : List D} {Q : T → Sl → Prop} (h : We n ρ (Fds fun ds ρ1 => (ds ++ dds).length = a ∧ Mk (f (.ins true C [] []) (ds ++ dds)) fun t => Q t ρ1)) : We (eMak C a f dds n) ρ Q := by
  obtain ⟨ts, r1, e1, ds, e2, l, C', ns, fs, e3, q⟩ := h
  refine ⟨_, r1, ?_, q⟩
  rw [e_mak, e_bnd, e1]; dsimp only
  rw [e_makM, e2]; dsimp only
  rw [if_pos l, e3, mkR_ok]
/-- an instance of C -/
structure Ob (C m : PySem.Str) (d : D) (P : Prop) : Prop where
  o : ∃ ns fs, d = .obj C ns fs ∧ ns.contains m = false
  p : P
theorem ob_i {C m : PySem.Str} {ns : List PySem.Str} {fs : List D} {P : Prop} (h : ns.contains m = false) (p : P) : Ob C m (.obj C ns fs) P := ⟨⟨_, _, rfl, h⟩, p⟩
theorem chk_ok {C mm : PySem.Str} {x : T} (b1 : x.brw = false) {P : Prop} (h : Ob C mm x.fz P) (r : Sl) : chk C mm x r = some (.ok (.dat x.fz), r) := by
  obtain ⟨⟨ns, fs, e, h⟩, _⟩ := h
  unfold chk
  rw [if_neg (by rw [b1]; decide), e]
  dsimp only
  rw [if_pos ⟨rfl, h⟩]
  rfl
theorem we_met {C mm : PySem.Str} {a : Nat} {f : FnD} {Q : T → Sl → Prop} (h : We mo ρ (Fd fun d ρ1 => Ob C mm d (We n ρ1 (Fds fun ds ρ2 => (d :: ds).length = a ∧ Cl (f (d :: ds)) fun t => Q t ρ2)))) : We (eMet C mm a f [] mo n) ρ Q := by
  obtain ⟨x, r1, e1, b1, h⟩ := h
  have hc := chk_ok b1 h r1
  obtain ⟨_, ts, r2, e2, ds, e3, l, t, e4, b, q⟩ := h
  refine ⟨t, r2, ?_, q⟩
  rw [e_met, e_bnd, e1]; dsimp only
  rw [e_bnd, hc]; dsimp only
  rw [e_bnd, e2]; dsimp only
  rw [e_noX, e_callM_ok (fz_cons (x := .dat x.fz) rfl e3) (by simpa using l) (by simpa [zd] using e4) b]
theorem we_prp {C : PySem.Str} {f : FnD} {Q : T → Sl → Prop} (h : We mo ρ (Fd fun d ρ1 => Ob C "" d (Cl (f [d]) fun t => Q t ρ1))) : We (ePrp C f mo) ρ Q := by
  obtain ⟨x, r1, e1, b1, h⟩ := h
  have hc := chk_ok b1 h r1
  obtain ⟨_, t, e4, b, q⟩ := h
  refine ⟨t, r1, ?_, q⟩
  rw [e_prp, e_bnd, e1]; dsimp only
  rw [e_bnd, hc]; dsimp only
  rw [e_noX, e_callM_ok (fz_one (x := .dat x.fz) rfl) (by simp) (by simpa [zd] using e4) b]
theorem we_fld {cs : List PySem.Str} {f : PySem.Str} {Q : T → Sl → Prop} (h : We m ρ (Fd fun d ρ1 => Op (fldM cs f [d]) fun t => Q t ρ1)) : We (eFld cs f m) ρ Q := by
  obtain ⟨x, r1, e1, b1, o, e2, q⟩ := h
  refine ⟨outT o, r1, ?_, q⟩
  rw [e_fld, e_bnd, e1]; dsimp only
  rw [e_opM, fz_one b1]; dsimp only
  rw [e2, out_eq]
theorem we_cal {C : PySem.Str} {a : Nat} {f : FnD} {Q : T → Sl → Prop} (h : We mo ρ (Fd fun d ρ1 => ∃ ns fs, d = .obj C ns fs ∧ We n ρ1 (Fds fun ds ρ2 => (d :: ds).length = a ∧ Cl (f (d :: ds)) fun t => Q t ρ2))) : We (eCal C a f mo n) ρ Q := by
  obtain ⟨x, r1, e1, b1, ns, fs, e0, ts, r2, e2, ds, e3, l, t, e4, b, q⟩ := h
  refine ⟨t, r2, ?_, q⟩
  rw [e_calO, e_bnd, e1]; dsimp only
  have hr : refM x r1 = some (.ok x, r1) := by unfold refM; rw [if_pos (by rw [e0]; rfl)]; rfl
  rw [e_bnd, hr]; dsimp only
  rw [e_bnd, e2]; dsimp only
  unfold calM
  rw [fz_cons b1 e3]; dsimp only
  rw [if_pos (by rw [e0]; simp [hdObj]), e_noX, e_callM_ok (fz_cons b1 e3) (by simpa using l) (by simpa using e4) b]
/-! own operators -/
/-! comprehensions -/
theorem lc_goE {ι : Type} {φ ψ : ι → D} {p : ι → Bool} {tt : Mo Bool} {e : Mo T} {ρ0 : Sl} (hj : j < ρ0.length) (hs : ρ0.set j none = ρ0) : ∀ (l : List ι) (acc : List D), (∀ x ∈ l, We tt (ρ0.set j (some (.dat (φ x)))) fun b ρ2 => b = p x ∧ ρ2 = ρ0.set j (some (.dat (φ x)))) →
    (∀ x ∈ l, p x = true → We e (ρ0.set j (some (.dat (φ x)))) (Fd fun d ρ2 => d = ψ x ∧ ρ2 = ρ0.set j (some (.dat (φ x))))) → acc.length + l.length ≤ 100000 →
    lcL (.nm j) tt e (l.map φ) acc ρ0 = some (.ok (acc ++ (l.filter p).map ψ), ρ0)
  | [], acc, _, _, _ => by simp [lcL]
  | x :: l, acc, h0, h, hl => by
    obtain ⟨_, _, e0, rfl, rfl⟩ := h0 x (List.mem_cons_self ..)
    have hw : wip (ρ0.set j (some (.dat (φ x)))) (slotsP (.nm j)) = ρ0 := by
      unfold slotsP wip wip
      rw [List.set_set]; exact hs
    simp only [List.length_cons] at hl
    simp only [List.map_cons]
    unfold lcL
    rw [p_nm, if_pos hj]
    try dsimp only
    rw [e0]
    try dsimp only
    cases hp : p x with
    | true =>
      obtain ⟨t, _, h1, h2, h3, rfl⟩ := h x (List.mem_cons_self ..) hp
      dsimp only
      rw [h1]
      dsimp only
      rw [h2, h3, if_neg (by decide), if_pos (by omega), hw, lc_goE hj hs l (acc ++ [ψ x]) (fun y hy => h0 y (List.mem_cons_of_mem _ hy)) (fun y hy => h y (List.mem_cons_of_mem _ hy)) (by simp; omega)]
      simp [hp]
    | false =>
      dsimp only
      rw [hw, lc_goE hj hs l acc (fun y hy => h0 y (List.mem_cons_of_mem _ hy)) (fun y hy => h y (List.mem_cons_of_mem _ hy)) (by omega)]
      simp [hp]
theorem we_lcIf {ι : Type} (l : List ι) (φ ψ : ι → D) (p : ι → Bool) {me : Mo (List D)} {tt : Mo Bool} {Q : T → Sl → Prop}
    (h : We me ρ fun xs ρ1 => xs = l.map φ ∧ j < ρ1.length ∧ l.length ≤ 100000 ∧ (∀ x ∈ l, We tt (ρ1.set j (some (.dat (φ x)))) fun b ρ2 => b = p x ∧ ρ2 = ρ1.set j (some (.dat (φ x)))) ∧
      (∀ x ∈ l, p x = true → We m (ρ1.set j (some (.dat (φ x)))) (Fd fun d ρ2 => d = ψ x ∧ ρ2 = ρ1.set j (some (.dat (φ x))))) ∧ Q (.lst false ((l.filter p).map ψ)) (ρ1.set j none)) : We (eLc me (.nm j) tt m) ρ Q := by
  obtain ⟨xs, r1, e1, rfl, hj, hl, h0, h1, q⟩ := h
  refine ⟨_, _, ?_, q⟩
  unfold eLc
  rw [e1]
  dsimp only
  have hw : wip r1 (slotsP (.nm j)) = r1.set j none := by unfold slotsP wip wip; rfl
  rw [hw, lc_goE (p := p) (ψ := ψ) (φ := φ) (ρ0 := r1.set j none) (by simpa using hj) (by rw [List.set_set]) l [] (by simpa only [List.set_set] using h0) (by simpa only [List.set_set] using h1) (by simpa using hl)]
  rfl
theorem we_lc {ι : Type} (l : List ι) (φ ψ : ι → D) {me : Mo (List D)} {Q : T → Sl → Prop}
    (h : We me ρ fun xs ρ1 => xs = l.map φ ∧ j < ρ1.length ∧ l.length ≤ 100000 ∧ (∀ x ∈ l, We m (ρ1.set j (some (.dat (φ x)))) (Fd fun d ρ2 => d = ψ x ∧ ρ2 = ρ1.set j (some (.dat (φ x))))) ∧ Q (.lst false (l.map ψ)) (ρ1.set j none)) : We (eLc me (.nm j) (ret true) m) ρ Q := by
  refine we_lcIf l φ ψ (fun _ => true) (h.mono fun xs r ⟨h1, h2, h3, h4, h5⟩ => ⟨h1, h2, h3, fun x _ => ⟨true, _, rfl, rfl, rfl⟩, fun x hx _ => h4 x hx, ?_⟩)
  rwa [List.filter_eq_self.mpr (fun _ _ => rfl)]
/-! what is walked -/
theorem wi_seq {Q : List D → Sl → Prop} (h : We m ρ (Fd fun d ρ1 => ∃ xs, itemsD d = some xs ∧ Q xs ρ1)) : We (iSeq m) ρ Q := by
  obtain ⟨x, r, e1, b1, xs, e2, q⟩ := h
  exact ⟨xs, r, by rw [e_iseq, e1]; dsimp only; rw [if_neg (by rw [b1]; decide), e2], q⟩
theorem wi_of {f : List D → Option (List D)} {Q : List D → Sl → Prop} (h : We n ρ (Fds fun ds ρ1 => ∃ xs, f ds = some xs ∧ Q xs ρ1)) : We (iOf f n) ρ Q := by
  obtain ⟨ts, r, e1, ds, e2, xs, e3, q⟩ := h
  exact ⟨xs, r, by rw [e_rng, e1]; dsimp only; rw [e2]; dsimp only; rw [e3], q⟩
/-! statements -/
def SeqQ (nx : Sl → Prop) (Q : Fl → Sl → Prop) : Fl → Sl → Prop
  | .next, ρ => nx ρ
  | .brk, ρ => Q .brk ρ
  | .cont, ρ => Q .cont ρ
  | .ret t, ρ => Q (.ret t) ρ
  | .exc x, ρ => Q (.exc x) ρ
def LoopQ (nx : Sl → Prop) (Q : Fl → Sl → Prop) : Fl → Sl → Prop
  | .next, ρ => nx ρ
  | .brk, ρ => Q .next ρ
  | .cont, ρ => nx ρ
  | .ret t, ρ => Q (.ret t) ρ
  | .exc x, ρ => Q (.exc x) ρ
section
variable {nx : Sl → Prop} {Q : Fl → Sl → Prop}
theorem sq_next (h : nx ρ) : SeqQ nx Q .next ρ := h
theorem sq_brk (h : Q .brk ρ) : SeqQ nx Q .brk ρ := h
theorem sq_cont (h : Q .cont ρ) : SeqQ nx Q .cont ρ := h
theorem sq_ret (h : Q (.ret t) ρ) : SeqQ nx Q (.ret t) ρ := h
theorem lq_next (h : nx ρ) : LoopQ nx Q .next ρ := h
theorem lq_brk (h : Q .next ρ) : LoopQ nx Q .brk ρ := h
theorem lq_cont (h : nx ρ) : LoopQ nx Q .cont ρ := h
theorem lq_ret (h : Q (.ret t) ρ) : LoopQ nx Q (.ret t) ρ := h
theorem ws_seq (h : Ws s ρ (SeqQ (fun ρ1 => Ws u ρ1 Q) Q)) : Ws (sSeq s u) ρ Q := by
  obtain ⟨fl, r, e, q⟩ := h
  cases fl with
  | next => obtain ⟨f2, r2, e2, q⟩ := q; exact ⟨f2, r2, by rw [e_seq, e]; exact e2, q⟩
  | _ => exact ⟨_, r, by rw [e_seq, e], q⟩
theorem ws_next (q : Q .next ρ) : Ws sNext ρ Q := ⟨_, _, rfl, q⟩
theorem ws_brk (q : Q .brk ρ) : Ws (fun ρ => some (.brk, ρ)) ρ Q := ⟨_, _, rfl, q⟩
theorem ws_cont (q : Q .cont ρ) : Ws (fun ρ => some (.cont, ρ)) ρ Q := ⟨_, _, rfl, q⟩
theorem ws_retN (q : Q (.ret (.dat .non)) ρ) : Ws (fun ρ => some (.ret (.dat .non), ρ)) ρ Q := ⟨_, _, rfl, q⟩
theorem ws_ret (h : We m ρ fun t ρ1 => Q (.ret t) ρ1) : Ws (sRet m) ρ Q := by
  obtain ⟨t, r, e, q⟩ := h
  exact ⟨_, r, by rw [e_sret, e], q⟩
theorem ws_drop (h : We m ρ fun _ ρ1 => Q .next ρ1) : Ws (sDrop m) ρ Q := by
  obtain ⟨t, r, e, q⟩ := h
  exact ⟨_, r, by rw [e_drop, e], q⟩
theorem ws_if (h : We c ρ fun b ρ1 => Bt b (Ws s ρ1 Q) (Ws u ρ1 Q)) : Ws (sIf c s u) ρ Q := by
  obtain ⟨bb, r, e, h1, h2⟩ := h
  cases bb with
  | true => obtain ⟨f2, r2, e2, q⟩ := h1 rfl; exact ⟨f2, r2, by rw [e_if, e]; exact e2, q⟩
  | false => obtain ⟨f2, r2, e2, q⟩ := h2 rfl; exact ⟨f2, r2, by rw [e_if, e]; exact e2, q⟩
theorem ws_asg (h : We m ρ fun t ρ1 => St' ρ1 i t fun r => Q .next r) : Ws (sAsg i m) ρ Q := by
  obtain ⟨t, r, e, hl, q⟩ := h
  exact ⟨_, _, by rw [e_asg, e]; dsimp only; rw [if_pos hl], q⟩
structure Ap (p : Pat) (d : D) (ρ : Sl) (Q : Sl → Prop) : Prop where
  ex : ∃ ρ1, asgP p d ρ = some ρ1 ∧ Q ρ1
structure Aps (p : List Pat) (d : List D) (ρ : Sl) (Q : Sl → Prop) : Prop where
  ex : ∃ ρ1, asgPs p d ρ = some ρ1 ∧ Q ρ1
theorem ap_nm {Q : Sl → Prop} (q : St' ρ i (.dat d) Q) : Ap (.nm i) d ρ Q := ⟨_, by rw [p_nm, if_pos q.l], q.p⟩
theorem ap_tp {ps : List Pat} {ds : List D} {Q : Sl → Prop} (q : Aps ps ds ρ Q) : Ap (.tp ps) (.tup ds) ρ Q := by
  obtain ⟨r, e, q⟩ := q
  exact ⟨r, by rw [p_tp, e], q⟩
theorem aps_nil {Q : Sl → Prop} (q : Q ρ) : Aps [] [] ρ Q := ⟨_, p_nil ρ, q⟩
theorem aps_cons {p : Pat} {ps : List Pat} {ds : List D} {Q : Sl → Prop} (q : Ap p d ρ fun r => Aps ps ds r Q) : Aps (p :: ps) (d :: ds) ρ Q := by
  obtain ⟨r, e, r2, e2, q⟩ := q
  exact ⟨r2, by rw [p_cons, e]; exact e2, q⟩
theorem ws_asgp {p : Pat} (h : We m ρ (Fd fun d ρ1 => Ap p d ρ1 fun r => Q .next r)) : Ws (sAsgP p m) ρ Q := by
  obtain ⟨t, r, e, b, r2, e2, q⟩ := h
  exact ⟨_, r2, by rw [e_asgp, e]; dsimp only; rw [if_neg (by rw [b]; decide), e2], q⟩
theorem ws_app (h0 : ρ[i]? = some (some (.lst false ys))) (h : We m ρ (Fd fun d ρ1 => ∃ bb xs, ρ1[i]? = some (some (.lst bb xs)) ∧ xs.length < 100000 ∧ St' ρ1 i (.lst bb (xs ++ [d])) fun r => Q .next r)) : Ws (sApp i m) ρ Q := by
  obtain ⟨t, r, e, b, bb, xs, e2, hl, hq⟩ := h
  refine ⟨_, _, ?_, hq.p⟩
  unfold sApp
  rw [atS_of h0]; dsimp only
  rw [e_toS, e]; dsimp only
  rw [if_neg (by rw [b]; decide), atS_of e2]; dsimp only
  rw [if_pos hl]
theorem ws_appl (h0 : ρ[i]? = some (some (.lst false xs))) (h : We m ρ (Fd fun d ρ1 => ρ1[i]? = some (some (.lst false xs)) ∧ xs.length < 100000 ∧ St' ρ1 i (.lst false (xs ++ [d])) fun r => Q .next r)) : Ws (sApp i m) ρ Q :=
  ws_app h0 (h.mono fun _ _ ⟨b, h1, h2, h3⟩ => ⟨b, _, _, h1, h2, h3⟩)
theorem ws_setI {bb : Bool} (h : We mo ρ (Fd fun d ρ1 => ρ1[i]? = some (some (.lst bb ys)) ∧ We mb ρ1 fun w ρ2 => ∃ q xs jj, w = .dat (.int q) ∧ ρ2[i]? = some (some (.lst bb xs)) ∧ L2.ixN xs.length q = some jj ∧ St' ρ2 i (.lst bb (xs.set jj d)) fun r => Q .next r)) : Ws (sSetI i mo mb) ρ Q := by
  obtain ⟨t, r, e, b, h0, w, r2, e2, q, xs, jj, rfl, e3, e4, hq⟩ := h
  refine ⟨_, _, ?_, hq.p⟩
  unfold sSetI
  rw [e_toS, e]; dsimp only
  rw [if_neg (by rw [b]; decide), atS_of h0]; dsimp only
  rw [e_toS, e2]; dsimp only
  rw [atS_of e3]; dsimp only
  rw [e4]
theorem ws_fset {cs : List PySem.Str} {f : PySem.Str} (h : We m ρ (Fd fun d ρ1 => ∃ bb C ns xs, ρ1[i]? = some (some (.ins bb C ns xs)) ∧ cs.contains C = true ∧ ns.length < 900 ∧ St' ρ1 i (.ins bb C (putO f d ns xs).1 (putO f d ns xs).2) fun r => Q .next r)) : Ws (sFldSet cs i f m) ρ Q := by
  obtain ⟨t, r, e, b, bb, C, ns, xs, e2, h1, h2, hq⟩ := h
  refine ⟨_, _, ?_, hq.p⟩
  unfold sFldSet
  rw [e_toS, e]; dsimp only
  rw [if_neg (by rw [b]; decide), atS_of e2]; dsimp only
  rw [if_pos ⟨h1, h2⟩]
theorem ws_aug {f : Int → Int → Int} {v : Int} (h0 : ρ[i]? = some (some (.dat (.int v)))) (h : We m ρ fun t ρ1 => ∃ w, t = .dat (.int w) ∧ St' ρ1 i (.dat (.int (f v w))) fun r => Q .next r) : Ws (sAug i f m) ρ Q := by
  obtain ⟨t, r, e, w, rfl, hq⟩ := h
  refine ⟨_, _, ?_, hq.p⟩
  unfold sAug
  rw [atS_of h0]; dsimp only
  rw [e_toS, e]; dsimp only
  rw [if_pos hq.l]
theorem ws_par (h : We ma ρ fun t ρ1 => We mb ρ1 fun u ρ2 => t.brw = false ∧ u.brw = false ∧ St' ρ2 j u fun r => St' r i t fun r => Q .next r) : Ws (sPar i j (aCons ma (aCons mb (ret [])))) ρ Q := by
  obtain ⟨t, r1, e1, v, r2, e2, b1, b2, ⟨l1, l2, q⟩⟩ := h
  refine ⟨_, _, ?_, q⟩
  unfold sPar
  rw [e_toS, e_acons, e_bnd, e1]; dsimp only
  rw [e_bnd, e_acons, e_bnd, e2]; dsimp only
  rw [e_bnd]
  show (match [t, v] with
    | [t, u] => if t.brw = false ∧ u.brw = false ∧ i < r2.length ∧ j < r2.length then some (Fl.next, (r2.set j (some u)).set i (some t)) else none
    | _ => none) = _
  dsimp only
  rw [if_pos ⟨b1, b2, by simpa using l2, l1⟩]
theorem ws_par3 (h : We n ρ (Fds fun ds ρ1 => ∃ d e g, ds = [d, e, g] ∧ St' ρ1 i (.dat d) fun r => St' r j (.dat e) fun r => St' r k (.dat g) fun r => Q .next r)) : Ws (sPar3 i j k n) ρ Q := by
  obtain ⟨ts, r, e1, ds, e2, d, e, g, rfl, l1, l2, l3, q⟩ := h
  refine ⟨_, _, ?_, q⟩
  unfold sPar3
  rw [e_toS, e1]; dsimp only
  rw [e2]; dsimp only
  rw [if_pos ⟨l1, by simpa using l2, by simpa using l3⟩]
/-- a for loop by what holds behind i turns -/
theorem wf_inv {p : Pat} (P : Nat → Sl → Prop) (h0 : P 0 ρ) (st : ∀ i d ρ, xs[i]? = some d → P i ρ → Ap p d ρ fun ρ1 => Ws b ρ1 (LoopQ (P (i + 1)) Q)) (en : ∀ ρ, P xs.length ρ → Q .next ρ) : Ws (forL p b xs) ρ Q := by
  induction xs generalizing P ρ with
  | nil => exact ⟨_, _, rfl, en _ h0⟩
  | cons d xs ih =>
    obtain ⟨r1, e1, fl, r2, e2, q⟩ := st 0 d ρ rfl h0
    have go : P 1 r2 → (fl = .next ∨ fl = .cont) → Ws (forL p b (d :: xs)) ρ Q := fun hp hf => by
      obtain ⟨f3, r3, e3, q3⟩ := ih (ρ := r2) (fun i => P (i + 1)) hp (fun i d ρ hd hp => st (i + 1) d ρ hd hp) (fun ρ hp => en ρ hp)
      refine ⟨f3, r3, ?_, q3⟩
      unfold forL
      rw [e1]; dsimp only
      rcases hf with rfl | rfl <;> rw [e2] <;> exact e3
    cases fl with
    | next => exact go q (.inl rfl)
    | cont => exact go q (.inr rfl)
    | brk => exact ⟨.next, r2, by unfold forL; rw [e1]; dsimp only; rw [e2], q⟩
    | ret t => exact ⟨.ret t, r2, by unfold forL; rw [e1]; dsimp only; rw [e2], q⟩
    | exc x => exact ⟨.exc x, r2, by unfold forL; rw [e1]; dsimp only; rw [e2], q⟩
theorem ws_for {me : Mo (List D)} {p : Pat} (h : We me ρ fun xs ρ1 => Ws (forL p b xs) ρ1 Q) : Ws (sFor me p b) ρ Q := by
  obtain ⟨xs, r, e, f2, r2, e2, q⟩ := h
  exact ⟨f2, r2, by rw [e_for, e]; exact e2, q⟩
end
theorem rp12 : List.replicate 12 (none : Option T) = [none, none, none, none, none, none, none, none, none, none, none, none] := rfl
theorem rp13 : List.replicate 13 (none : Option T) = [none, none, none, none, none, none, none, none, none, none, none, none, none] := rfl
theorem rp14 : List.replicate 14 (none : Option T) = [none, none, none, none, none, none, none, none, none, none, none, none, none, none] := rfl
theorem rp15 : List.replicate 15 (none : Option T) = [none, none, none, none, none, none, none, none, none, none, none, none, none, none, none] := rfl
theorem rp16 : List.replicate 16 (none : Option T) = [none, none, none, none, none, none, none, none, none, none, none, none, none, none, none, none] := rfl
theorem rp17 : List.replicate 17 (none : Option T) = [none, none, none, none, none, none, none, none, none, none, none, none, none, none, none, none, none] := rfl
theorem rp18 : List.replicate 18 (none : Option T) = [none, none, none, none, none, none, none, none, none, none, none, none, none, none, none, none, none, none] := rfl
theorem rp19 : List.replicate 19 (none : Option T) = [none, none, none, none, none, none, none, none, none, none, none, none, none, none, none, none, none, none, none] := rfl
/-! bodies -/
def RetQ (Q : T → Prop) : Fl → Sl → Prop
  | .ret t, _ => t.brw = false ∧ Q t
  | .next, _ => Q (.dat .non)
  | _, _ => False
def RetL (Q : D → List D → Prop) : Fl → Sl → Prop
  | .ret t, ρ => t.brw = false ∧ ∃ ys, ρ[0]? = some (some (.lst true ys)) ∧ Q t.fz ys
  | .next, ρ => ∃ ys, ρ[0]? = some (some (.lst true ys)) ∧ Q .non ys
  | _, _ => False
theorem rq_d {Q : T → Prop} (h : Q (.dat d)) : RetQ Q (.ret (.dat d)) ρ := ⟨rfl, h⟩
theorem rq_l {Q : T → Prop} (h : Q (.lst false xs)) : RetQ Q (.ret (.lst false xs)) ρ := ⟨rfl, h⟩
theorem rq_i {Q : T → Prop} {C ns} (h : Q (.ins false C ns xs)) : RetQ Q (.ret (.ins false C ns xs)) ρ := ⟨rfl, h⟩
theorem rq_n {Q : T → Prop} (h : Q (.dat .non)) : RetQ Q .next ρ := h
theorem rl_d {Q : D → List D → Prop} (h0 : ρ[0]? = some (some (.lst true ys))) (h : Q d ys) : RetL Q (.ret (.dat d)) ρ := ⟨rfl, _, h0, h⟩
theorem rl_l {Q : D → List D → Prop} (h0 : ρ[0]? = some (some (.lst true ys))) (h : Q (.lst xs) ys) : RetL Q (.ret (.lst false xs)) ρ := ⟨rfl, _, h0, h⟩
theorem cl_body {mm : Nat} {ds : List D} {Q : T → Prop} {ρ0 : Sl} (hr : ds.map (fun d => some (T.dat d)) ++ List.replicate mm none = ρ0) (h : Ws s ρ0 (RetQ Q)) : Cl (bodyD mm s ds) Q := by
  subst hr
  obtain ⟨fl, r, e, q⟩ := h
  cases fl with
  | ret t => exact ⟨t, by rw [e_bodyD, e]; show (if t.brw = true then none else some (Rs.ok t)) = _; rw [if_neg (by rw [q.1]; decide)], q.1, q.2⟩
  | next => exact ⟨_, by rw [e_bodyD, e]; rfl, rfl, q⟩
  | _ => exact q.elim
theorem cl_eq {r : Option (Rs T)} {d : D} (h : Cl r fun t => t = .dat d) : r = some (.ok (.dat d)) := by
  obtain ⟨t, e, _, rfl⟩ := h
  exact e
theorem cl_eqi {r : Option (Rs T)} {C ns} {xs : List D} (h : Cl r fun t => t = .ins false C ns xs) : r = some (.ok (.ins false C ns xs)) := by
  obtain ⟨t, e, _, rfl⟩ := h
  exact e
theorem Cl.mono {r : Option (Rs T)} {P Q : T → Prop} (h : Cl r P) (q : ∀ t, P t → Q t) : Cl r Q := let ⟨t, e, b, p⟩ := h; ⟨t, e, b, q t p⟩
theorem clL_body {mm : Nat} {ds : List D} {Q : D → List D → Prop} {ρ0 : Sl} (hr : some (.lst true xs) :: (ds.map (fun d => some (T.dat d)) ++ List.replicate mm none) = ρ0) (h : Ws s ρ0 (RetL Q)) : ClL (bodyB mm s (.lst true xs) ds) Q := by
  subst hr
  obtain ⟨fl, r, e, q⟩ := h
  cases fl with
  | ret t =>
    obtain ⟨b, ys, e1, q⟩ := q
    refine ⟨t.fz, ys, ?_, q⟩
    unfold bodyB
    rw [e]; dsimp only
    rw [if_neg (by rw [b]; decide)]
    unfold finB
    rw [e1]; rfl
  | next =>
    obtain ⟨ys, e1, q⟩ := q
    refine ⟨.non, ys, ?_, q⟩
    unfold bodyB
    rw [e]; dsimp only
    unfold finB
    rw [e1]; rfl
  | _ => exact q.elim
theorem ex_it_t {Q : List D → Prop} (q : Q xs) : ∃ ys, itemsD (.tup xs) = some ys ∧ Q ys := ⟨_, rfl, q⟩
theorem ex_it_l {Q : List D → Prop} (q : Q xs) : ∃ ys, itemsD (.lst xs) = some ys ∧ Q ys := ⟨_, rfl, q⟩
theorem ex_it_s {ns : List Int} {Q : List D → Prop} (q : Q (ns.map .int)) : ∃ ys, itemsD (.scr ns) = some ys ∧ Q ys := ⟨_, rfl, q⟩
theorem ex_int {v : Int} {Q : Int → Prop} (q : Q v) : ∃ w, D.int v = D.int w ∧ Q w := ⟨_, rfl, q⟩
theorem ex_tint {v : Int} {Q : Int → Prop} (q : Q v) : ∃ w, T.dat (D.int v) = T.dat (D.int w) ∧ Q w := ⟨_, rfl, q⟩
theorem ex_lst {Q : List D → Prop} (q : Q xs) : ∃ ys, T.lst false xs = T.lst false ys ∧ Q ys := ⟨_, rfl, q⟩
theorem ex_three {a b c : D} {Q : D → D → D → Prop} (q : Q a b c) : ∃ d e g, [a, b, c] = [d, e, g] ∧ Q d e g := ⟨_, _, _, rfl, q⟩
theorem ex_obj {C : PySem.Str} {ns : List PySem.Str} {Q : List PySem.Str → List D → Prop} (q : Q ns xs) : ∃ ns' fs, D.obj C ns xs = D.obj C ns' fs ∧ Q ns' fs := ⟨_, _, rfl, q⟩
/-! operations -/
section
variable {Q : T → Prop} {v w : Int}
theorem op_add (q : Q (.dat (.int (v + w)))) : Op (addF (.int v) (.int w)) Q := ⟨_, rfl, q⟩
theorem op_sub' (q : Q (.dat (.int (v - w)))) : Op (subF (.int v) (.int w)) Q := ⟨_, rfl, q⟩
theorem op_neg (q : Q (.dat (.int (-v)))) : Op (negF (.int v)) Q := ⟨_, rfl, q⟩
theorem op_mul' (h : sml v ∨ sml w) (q : Q (.dat (.int (v * w)))) : Op (mulF (.int v) (.int w)) Q := ⟨_, mul_ii h, q⟩
theorem op_div' (h : 0 < w ∧ w < 4611686018427387904) (q : Q (.dat (.int (v / w)))) : Op (divF (.int v) (.int w)) Q := ⟨_, div_ii h, q⟩
theorem op_mod' (h : 0 < w) (q : Q (.dat (.int (v % w)))) : Op (modF (.int v) (.int w)) Q := ⟨_, mod_ii h, q⟩
theorem op_lt' (q : Q (.dat (.bl (decide (v < w))))) : Op (ltF (.int v) (.int w)) Q := ⟨_, rfl, q⟩
theorem op_le' (q : Q (.dat (.bl (decide (v ≤ w))))) : Op (leF (.int v) (.int w)) Q := ⟨_, rfl, q⟩
theorem op_gt' (q : Q (.dat (.bl (decide (w < v))))) : Op (gtF (.int v) (.int w)) Q := ⟨_, rfl, q⟩
theorem op_ge' (q : Q (.dat (.bl (decide (w ≤ v))))) : Op (geF (.int v) (.int w)) Q := ⟨_, rfl, q⟩
theorem op_eqi (q : Q (.dat (.bl (decide (v = w))))) : Op (eqF (.int v) (.int w)) Q := ⟨_, eq_ii v w, q⟩
theorem op_nei (q : Q (.dat (.bl (!decide (v = w))))) : Op (neF (.int v) (.int w)) Q := ⟨_, ne_ii v w, q⟩
theorem op_isi (q : Q (.dat (.bl false))) : Op (isNF (.int v) .non) Q := ⟨_, rfl, q⟩
theorem op_isn (q : Q (.dat (.bl true))) : Op (isNF .non .non) Q := ⟨_, rfl, q⟩
theorem op_noi (q : Q (.dat (.bl true))) : Op (notNF (.int v) .non) Q := ⟨_, rfl, q⟩
theorem op_non (q : Q (.dat (.bl false))) : Op (notNF .non .non) Q := ⟨_, rfl, q⟩
theorem op_len1 {ι : Type} {l : List ι} {φ : ι → D} (q : Q (.dat (.int (l.length : Nat)))) : Op (one lenF [.tup (l.map φ)]) Q := ⟨_, rfl, by rw [List.length_map]; exact q⟩
theorem op_len2 {ι : Type} {l : List ι} {φ : ι → D} (q : Q (.dat (.int (l.length : Nat)))) : Op (lenF (.tup (l.map φ))) Q := ⟨_, rfl, by rw [List.length_map]; exact q⟩
theorem op_len3 {ι : Type} {l : List ι} {φ : ι → D} (q : Q (.dat (.int (l.length : Nat)))) : Op (one lenF [.lst (l.map φ)]) Q := ⟨_, rfl, by rw [List.length_map]; exact q⟩
theorem op_len4 {ι : Type} {l : List ι} {φ : ι → D} (q : Q (.dat (.int (l.length : Nat)))) : Op (lenF (.lst (l.map φ))) Q := ⟨_, rfl, by rw [List.length_map]; exact q⟩
theorem op_eqb {a b : Bool} (q : Q (.dat (.bl (a == b)))) : Op (eqF (.bl a) (.bl b)) Q := ⟨.dt (.bl (a == b)), by cases a <;> cases b <;> rfl, q⟩
theorem op_lrgz {j : Int} (h : 0 ≤ j ∧ j ≤ 100000) (q : Q (.lst false (rngD 0 j.toNat))) : Op (lrg2F (.int 0) (.int j)) Q := ⟨.nl (rngD 0 j.toNat), by
  unfold lrg2F
  dsimp only
  rw [if_pos (by omega), Int.sub_zero]
  rfl, q⟩
theorem op_all2 {a b : Bool} (q : Q (.dat (.bl (a && b)))) : Op (allF [.lst [.bl a, .bl b]]) Q := ⟨.dt (.bl (a && b)), by cases a <;> cases b <;> rfl, q⟩
theorem op_any2 {a b : Bool} (q : Q (.dat (.bl (a || b)))) : Op (anyF [.lst [.bl a, .bl b]]) Q := ⟨.dt (.bl (a || b)), by cases a <;> cases b <;> rfl, q⟩
theorem rng1_z {j : Int} {n : Nat} (h : j = n) (h1 : n ≤ 100000) : rng1 [.int j] = some (rngD 0 n) := by
  subst h; exact rng1_n h1
theorem op_addl (h : xs.length + ys.length ≤ 100000) (q : Q (.lst false (xs ++ ys))) : Op (addF (.lst xs) (.lst ys)) Q := ⟨.nl _, if_pos h, q⟩
theorem op_addt (h : xs.length + ys.length ≤ 100000) (q : Q (.dat (.tup (xs ++ ys)))) : Op (addF (.tup xs) (.tup ys)) Q := ⟨.dt _, if_pos h, q⟩
end
end SL

set_option Elab.async false
set_option linter.all false
set_option maxRecDepth 100000
set_option maxHeartbeats 400000
/-! bodies that end with an exception, and try, read backwards -/
namespace SL
variable {α β : Type} {m ma mb mo : Mo T} {n : Mo (List T)} {c c2 : Mo Bool} {ρ ρ' : Sl} {s u b : So} {i j k : Nat} {d e z : D} {xs ys : List D} {t : T}
structure Wz (m : Mo α) (ρ : Sl) (Q : Xc → Sl → Prop) : Prop where
  ex : ∃ x ρ', m ρ = some (.exc x, ρ') ∧ Q x ρ'
structure Wx (s : So) (ρ : Sl) (Q : Xc → Sl → Prop) : Prop where
  ex : ∃ x ρ', s ρ = some (.exc x, ρ') ∧ Q x ρ'
/-- a def ends with an exception -/
structure Cx (r : Option (Rs T)) (Q : Xc → Prop) : Prop where
  ex : ∃ x, r = some (.exc x) ∧ Q x
theorem cx_of {r : Option (Rs T)} {x : Xc} {Q : Xc → Prop} (h : r = some (.exc x)) (q : Q x) : Cx r Q := ⟨_, h, q⟩
theorem cx_eq {r : Option (Rs T)} {x : Xc} (h : Cx r fun y => y = x) : r = some (.exc x) := by
  obtain ⟨y, e, rfl⟩ := h
  exact e
variable {Q : Xc → Sl → Prop}
theorem wx_seq1 (h : Wx s ρ Q) : Wx (sSeq s u) ρ Q := by
  obtain ⟨x, r, e, q⟩ := h
  exact ⟨x, r, by rw [e_seq, e], q⟩
theorem wx_seq (h : Ws s ρ fun fl ρ1 => fl = .next ∧ Wx u ρ1 Q) : Wx (sSeq s u) ρ Q := by
  obtain ⟨_, r, e, rfl, x, r2, e2, q⟩ := h
  exact ⟨x, r2, by rw [e_seq, e]; exact e2, q⟩
theorem wx_if (h : We c ρ fun b ρ1 => Bt b (Wx s ρ1 Q) (Wx u ρ1 Q)) : Wx (sIf c s u) ρ Q := by
  obtain ⟨bb, r, e, h1, h2⟩ := h
  cases bb with
  | true => obtain ⟨f2, r2, e2, q⟩ := h1 rfl; exact ⟨f2, r2, by rw [e_if, e]; exact e2, q⟩
  | false => obtain ⟨f2, r2, e2, q⟩ := h2 rfl; exact ⟨f2, r2, by rw [e_if, e]; exact e2, q⟩
theorem wx_toS {m : Mo α} {f : α → So} (h : Wz m ρ Q) : Wx (toS m f) ρ Q := by
  obtain ⟨x, r, e, q⟩ := h
  exact ⟨x, r, by rw [e_toS, e], q⟩
theorem wx_drop (h : Wz m ρ Q) : Wx (sDrop m) ρ Q := wx_toS h
theorem wx_asg (h : Wz m ρ Q) : Wx (sAsg i m) ρ Q := wx_toS h
theorem wx_raise {C f : PySem.Str} {ok : D → Bool} (h : We n ρ (Fds fun ds ρ1 => ∃ d, ds = [d] ∧ ok d = true ∧ Q ⟨C, [f], [d]⟩ ρ1)) : Wx (sRaise C f ok n) ρ Q := by
  obtain ⟨ts, r, e, ds, e2, d, rfl, h, q⟩ := h
  refine ⟨_, r, ?_, q⟩
  unfold sRaise
  rw [e_toS, e]; dsimp only
  unfold rsM
  rw [e2]; dsimp only
  rw [if_pos h]
theorem e_callM_x {a : Nat} {f : FnD} {dds : List D} {ts : List T} {ds : List D} {x : Xc} (h1 : frzs ts = some ds) (h2 : (ds ++ dds).length = a) (h3 : f (ds ++ dds) = some (.exc x)) (ρ : Sl) : callM a f dds ts ρ = some (.exc x, ρ) := by
  rw [e_callM, h1]; dsimp only
  rw [if_pos h2, h3]
theorem we_metX {C mm : PySem.Str} {a : Nat} {f : FnD} {Q : T → Sl → Prop} (h : We mo ρ (Fd fun d ρ1 => Ob C mm d (We n ρ1 (Fds fun ds ρ2 => (d :: ds).length = a ∧ Cl (f (d :: ds)) fun t => Q t ρ2)))) : We (eMetX C mm a f [] mo n) ρ Q := by
  obtain ⟨x, r1, e1, b1, h⟩ := h
  have hc := chk_ok b1 h r1
  obtain ⟨_, ts, r2, e2, ds, e3, l, t, e4, b, q⟩ := h
  refine ⟨t, r2, ?_, q⟩
  unfold eMetX
  rw [e_bnd, e1]; dsimp only
  rw [e_bnd, hc]; dsimp only
  rw [e_bnd, e2]; dsimp only
  rw [e_callM_ok (fz_cons (x := .dat x.fz) rfl e3) (by simpa using l) (by simpa [zd] using e4) b]
theorem we_callX {a : Nat} {f : FnD} {Q : T → Sl → Prop} (h : We n ρ (Fds fun ds ρ1 => ds.length = a ∧ Cl (f ds) fun t => Q t ρ1)) : We (eCall a f [] n) ρ Q := by
  obtain ⟨ts, r1, e1, ds, e2, l, t, e3, b, q⟩ := h
  refine ⟨t, r1, ?_, q⟩
  unfold eCall
  rw [e_bnd, e1]; dsimp only
  rw [e_callM_ok e2 (by simpa using l) (by simpa using e3) b]
theorem wz_call {a : Nat} {f : FnD} (h : We n ρ (Fds fun ds ρ1 => ds.length = a ∧ Cx (f ds) fun x => Q x ρ1)) : Wz (eCall a f [] n) ρ Q := by
  obtain ⟨ts, r1, e1, ds, e2, l, x, e3, q⟩ := h
  refine ⟨x, r1, ?_, q⟩
  unfold eCall
  rw [e_bnd, e1]; dsimp only
  rw [e_callM_x e2 (by simpa using l) (by simpa using e3)]
theorem we_makX {C : PySem.Str} {a : Nat} {f : FnB} {dds : List D} {Q : T → Sl → Prop} (h : We n ρ (Fds fun ds ρ1 => (ds ++ dds).length = a ∧ Mk (f (.ins true C [] []) (ds ++ dds)) fun t => Q t ρ1)) : We (eMakX C a f dds n) ρ Q := by
  obtain ⟨ts, r1, e1, ds, e2, l, C', ns, fs, e3, q⟩ := h
  refine ⟨_, r1, ?_, q⟩
  unfold eMakX
  rw [e_bnd, e1]; dsimp only
  unfold makMX
  rw [e2]; dsimp only
  rw [if_pos l, e3]
  rfl
/-- a making ends with an exception -/
structure MkX (r : Option (Rs D × T)) (Q : Xc → Prop) : Prop where
  ex : ∃ x C ns fs, r = some (.exc x, .ins true C ns fs) ∧ Q x
theorem wz_makX {C : PySem.Str} {a : Nat} {f : FnB} {dds : List D} (h : We n ρ (Fds fun ds ρ1 => (ds ++ dds).length = a ∧ MkX (f (.ins true C [] []) (ds ++ dds)) fun x => Q x ρ1)) : Wz (eMakX C a f dds n) ρ Q := by
  obtain ⟨ts, r1, e1, ds, e2, l, x, C', ns, fs, e3, q⟩ := h
  refine ⟨x, r1, ?_, q⟩
  unfold eMakX
  rw [e_bnd, e1]; dsimp only
  unfold makMX
  rw [e2]; dsimp only
  rw [if_pos l, e3]
theorem cx_body {mm : Nat} {ds : List D} {Q : Xc → Prop} {ρ0 : Sl} (hr : ds.map (fun d => some (T.dat d)) ++ List.replicate mm none = ρ0) (h : Wx s ρ0 fun x _ => Q x) : Cx (bodyD mm s ds) Q := by
  subst hr
  obtain ⟨x, r, e, q⟩ := h
  exact ⟨x, by rw [e_bodyD, e]; rfl, q⟩
/-! try -/
def notX : Fl → Prop
  | .exc _ => False
  | _ => True
theorem ws_try {C : PySem.Str} {no : List PySem.Str} {h : PySem.Addr → PySem.Addr → So} {Q : Fl → Sl → Prop} (g : Ws s ρ fun fl r => notX fl ∧ Q fl r) : Ws (sTryAs i C no s h) ρ Q := by
  obtain ⟨fl, r, e, hx, q⟩ := g
  refine ⟨fl, r, ?_, q⟩
  unfold sTryAs
  rw [e]
  cases fl with
  | exc _ => exact hx.elim
  | _ => rfl
theorem ws_tryE {C : PySem.Str} {no : List PySem.Str} {h : PySem.Addr → PySem.Addr → So} {Q : Fl → Sl → Prop} (g : Wx s ρ fun x ρ1 => x.cls = C ∧ x.ns ≠ [] ∧ i < ρ1.length ∧ ∃ fl ρ2, (∀ a d, Ws (h a d) (ρ1.set i (some (.dat (.exn a d x.ns x.ds)))) fun fl' r => fl' = fl ∧ notX fl ∧ r.set i none = ρ2) ∧ Q fl ρ2) : Ws (sTryAs i C no s h) ρ Q := by
  obtain ⟨x, r, e, hC, hn, hi, fl, ρ2, hh, q⟩ := g
  refine ⟨fl, ρ2, ?_, q⟩
  unfold sTryAs
  rw [e]
  dsimp only
  rw [if_pos hC, if_pos ⟨hn, hi⟩]
  refine hRun_eq fun a d => ?_
  obtain ⟨fl', r', e', rfl, hx, rfl⟩ := hh a d
  rw [e']
  cases fl' with
  | exc _ => exact hx.elim
  | _ => rfl
theorem we_xf {a dd : PySem.Addr} {f : PySem.Str} {Q : T → Sl → Prop} (h : We m ρ (Fd fun d ρ1 => ∃ ns fs v, d = .exn a dd ns fs ∧ idxOf f ns fs = some v ∧ Q (.dat v) ρ1)) : We (eXf a dd f m) ρ Q := by
  obtain ⟨x, r1, e1, b1, ns, fs, v, e2, e3, q⟩ := h
  refine ⟨.dat v, r1, ?_, q⟩
  unfold eXf
  rw [e_bnd, e1]; dsimp only
  rw [e_opM, fz_one b1]; dsimp only
  rw [e2]
  unfold one
  dsimp only
  rw [if_pos ⟨rfl, rfl⟩, e3]
  rfl
theorem op_isX {b : Bool} {a dd : PySem.Addr} {ns : List PySem.Str} {fs : List D} {Q : T → Prop} (q : Q (.dat (.bl b))) : Op (isXF b a dd (.exn a dd ns fs)) Q := ⟨.dt (.bl b), by unfold isXF; dsimp only; rw [if_pos ⟨rfl, rfl⟩], q⟩
theorem we_idxd {Q : T → Sl → Prop} (h : ρ[i]? = some (some (.dat (.lst xs)))) (q : We mb ρ (Fd fun e ρ1 => ρ1[i]? = some (some (.dat (.lst xs))) ∧ Op (idxF (.lst xs) e) fun t => Q t ρ1)) : We (sIdx i mb) ρ Q := by
  obtain ⟨t, r, e, q⟩ := we_s2d h q
  refine ⟨t, r, ?_, q⟩
  unfold sIdx
  rw [atS_of h]
  dsimp only
  rw [if_pos (show isLstD (T.dat (.lst xs)).fz = true from rfl)]
  exact e
theorem we_idxl {Q : T → Sl → Prop} {bb : Bool} (h : ρ[i]? = some (some (.lst bb xs))) (q : We mb ρ (Fd fun e ρ1 => ρ1[i]? = some (some (.lst bb xs)) ∧ Op (idxF (.lst xs) e) fun t => Q t ρ1)) : We (sIdx i mb) ρ Q := by
  obtain ⟨t, r, e, q⟩ := we_s2l h q
  refine ⟨t, r, ?_, q⟩
  unfold sIdx
  rw [atS_of h]
  dsimp only
  rw [if_pos (show isLstD (T.lst bb xs).fz = true from rfl)]
  exact e
/-- a comprehension by what holds behind i turns -/
theorem lc_inv {e : Mo T} (P : Nat → List D → Sl → Prop) : ∀ (xs acc : List D) (i0 : Nat) (ρ0 : Sl), P i0 acc ρ0 → acc.length + xs.length ≤ 100000 → (∀ i d acc ρ, xs[i]? = some d → P (i0 + i) acc ρ → j < ρ.length ∧ We e (ρ.set j (some (.dat d))) (Fd fun v ρ3 => P (i0 + i + 1) (acc ++ [v]) (ρ3.set j none))) →
    ∃ acc' ρ', lcL (.nm j) (ret true) e xs acc ρ0 = some (.ok acc', ρ') ∧ P (i0 + xs.length) acc' ρ' ∧ acc'.length = acc.length + xs.length
  | [], acc, i0, ρ0, h0, _, _ => ⟨acc, ρ0, rfl, h0, rfl⟩
  | d :: xs, acc, i0, ρ0, h0, hl, st => by
    simp only [List.length_cons] at hl
    obtain ⟨hj, t, ρ3, e1, hb, hp⟩ := st 0 d acc ρ0 rfl h0
    obtain ⟨acc', ρ', h1, h2, h3⟩ := lc_inv P xs (acc ++ [t.fz]) (i0 + 1) (ρ3.set j none) hp (by simp; omega) (fun i d acc ρ hd hp => by
      have e : i0 + 1 + i = i0 + (i + 1) := by omega
      rw [e] at hp ⊢
      exact st (i + 1) d acc ρ hd hp)
    refine ⟨acc', ρ', ?_, by rw [List.length_cons, show i0 + (xs.length + 1) = i0 + 1 + xs.length by omega]; exact h2, by rw [h3]; simp; omega⟩
    unfold lcL
    rw [p_nm, if_pos hj]
    dsimp only
    rw [show (ret true : Mo Bool) (ρ0.set j (some (.dat d))) = some (.ok true, ρ0.set j (some (.dat d))) from rfl]
    dsimp only
    rw [e1]
    dsimp only
    rw [if_neg (by rw [hb]; decide), if_pos (by omega)]
    exact h1
theorem we_lcI {e : Mo T} {me : Mo (List D)} {Q : T → Sl → Prop} (P : Nat → List D → Sl → Prop)
    (h : We me ρ fun xs ρ1 => xs.length ≤ 100000 ∧ P 0 [] (ρ1.set j none) ∧ (∀ i d acc ρ, xs[i]? = some d → P i acc ρ → j < ρ.length ∧ We e (ρ.set j (some (.dat d))) (Fd fun v ρ3 => P (i + 1) (acc ++ [v]) (ρ3.set j none))) ∧ ∀ acc ρ2, P xs.length acc ρ2 → acc.length = xs.length → Q (.lst false acc) ρ2) : We (eLc me (.nm j) (ret true) e) ρ Q := by
  obtain ⟨xs, r1, e1, hl, h0, st, q⟩ := h
  obtain ⟨acc, ρ', h1, h2, h3⟩ := lc_inv (j := j) P xs [] 0 (r1.set j none) h0 (by simpa using hl) (fun i d acc ρ hd hp => by rw [Nat.zero_add] at hp ⊢; exact st i d acc ρ hd hp)
  refine ⟨_, _, ?_, q acc ρ' (by simpa using h2) (by simpa using h3)⟩
  unfold eLc
  rw [e1]
  dsimp only
  have hw : wip r1 (slotsP (.nm j)) = r1.set j none := by unfold slotsP wip wip; rfl
  rw [hw, h1]
/-! calls of instances that let exceptions pass -/
theorem wz_calX {C : PySem.Str} {a : Nat} {f : FnD} (h : We mo ρ (Fd fun d ρ1 => ∃ ns fs, d = .obj C ns fs ∧ We n ρ1 (Fds fun ds ρ2 => (d :: ds).length = a ∧ Cx (f (d :: ds)) fun x => Q x ρ2))) : Wz (eCalX C a f mo n) ρ Q := by
  obtain ⟨x, r1, e1, b1, ns, fs, e0, ts, r2, e2, ds, e3, l, xc, e4, q⟩ := h
  refine ⟨xc, r2, ?_, q⟩
  unfold eCalX
  rw [e_bnd, e1]; dsimp only
  have hr : refM x r1 = some (.ok x, r1) := by unfold refM; rw [if_pos (by rw [e0]; rfl)]; rfl
  rw [e_bnd, hr]; dsimp only
  rw [e_bnd, e2]; dsimp only
  unfold calMX
  rw [fz_cons b1 e3]; dsimp only
  rw [if_pos (by rw [e0]; simp [hdObj]), e_callM_x (fz_cons b1 e3) (by simpa using l) (by simpa using e4)]
theorem we_calX {C : PySem.Str} {a : Nat} {f : FnD} {Q : T → Sl → Prop} (h : We mo ρ (Fd fun d ρ1 => ∃ ns fs, d = .obj C ns fs ∧ We n ρ1 (Fds fun ds ρ2 => (d :: ds).length = a ∧ Cl (f (d :: ds)) fun t => Q t ρ2))) : We (eCalX C a f mo n) ρ Q := by
  obtain ⟨x, r1, e1, b1, ns, fs, e0, ts, r2, e2, ds, e3, l, t, e4, b, q⟩ := h
  refine ⟨t, r2, ?_, q⟩
  unfold eCalX
  rw [e_bnd, e1]; dsimp only
  have hr : refM x r1 = some (.ok x, r1) := by unfold refM; rw [if_pos (by rw [e0]; rfl)]; rfl
  rw [e_bnd, hr]; dsimp only
  rw [e_bnd, e2]; dsimp only
  unfold calMX
  rw [fz_cons b1 e3]; dsimp only
  rw [if_pos (by rw [e0]; simp [hdObj]), e_callM_ok (fz_cons b1 e3) (by simpa using l) (by simpa using e4) b]
theorem we_dic0 {Q : T → Sl → Prop} (q : Q (.dat (.dic [] [])) ρ) : We eDic0 ρ Q := ⟨_, _, rfl, q⟩
/-! a method whose self is lent -/
structure ClB (r : Option (Rs D × T)) (Q : D → PySem.Str → List PySem.Str → List D → Prop) : Prop where
  ex : ∃ d C ns fs, r = some (.ok d, .ins true C ns fs) ∧ Q d C ns fs
def RetI (Q : D → PySem.Str → List PySem.Str → List D → Prop) : Fl → Sl → Prop
  | .ret t, ρ => t.brw = false ∧ ∃ C ns fs, ρ[0]? = some (some (.ins true C ns fs)) ∧ Q t.fz C ns fs
  | .next, ρ => ∃ C ns fs, ρ[0]? = some (some (.ins true C ns fs)) ∧ Q .non C ns fs
  | _, _ => False
theorem clB_body {mm : Nat} {ds : List D} {C : PySem.Str} {ns : List PySem.Str} {Q : D → PySem.Str → List PySem.Str → List D → Prop} {ρ0 : Sl} (hr : some (.ins true C ns xs) :: (ds.map (fun d => some (T.dat d)) ++ List.replicate mm none) = ρ0) (h : Ws s ρ0 (RetI Q)) : ClB (bodyB mm s (.ins true C ns xs) ds) Q := by
  subst hr
  obtain ⟨fl, r, e, q⟩ := h
  cases fl with
  | ret t =>
    obtain ⟨b, C', ns', fs', e1, q⟩ := q
    refine ⟨t.fz, C', ns', fs', ?_, q⟩
    unfold bodyB
    rw [e]; dsimp only
    rw [if_neg (by rw [b]; decide)]
    unfold finB
    rw [e1]; rfl
  | next =>
    obtain ⟨C', ns', fs', e1, q⟩ := q
    refine ⟨.non, C', ns', fs', ?_, q⟩
    unfold bodyB
    rw [e]; dsimp only
    unfold finB
    rw [e1]; rfl
  | _ => exact q.elim
theorem mkx_body {mm : Nat} {ds : List D} {C : PySem.Str} {ns : List PySem.Str} {Q : Xc → Prop} {ρ0 : Sl} (hr : some (.ins true C ns xs) :: (ds.map (fun d => some (T.dat d)) ++ List.replicate mm none) = ρ0) (h : Wx s ρ0 fun x r => (∃ C' ns' fs', r[0]? = some (some (.ins true C' ns' fs'))) ∧ Q x) : MkX (bodyB mm s (.ins true C ns xs) ds) Q := by
  subst hr
  obtain ⟨x, r, e, ⟨C', ns', fs', e1⟩, q⟩ := h
  refine ⟨x, C', ns', fs', ?_, q⟩
  unfold bodyB
  rw [e]; dsimp only
  unfold finB
  rw [e1]; rfl
end SL

set_option Elab.async false
set_option linter.all false
set_option maxRecDepth 100000
set_option maxHeartbeats 1000000
namespace NF
open SL PM
abbrev ti (l : List Int) : D := .tup (l.map .int)
abbrev raw (h l : List Int) (r : Int) : D := .tup [ti h, ti l, .int r]
def oD : Option Int → D
  | none => .non
  | some i => .int i
/-- a tuple or a list of ints -/
inductive Lk (l : List Int) : D → Prop
  | t : Lk l (.tup (l.map .int))
  | l : Lk l (.lst (l.map .int))
theorem Lk.items {l : List Int} {c : D} (h : Lk l c) : itemsD c = some (l.map .int) := by cases h <;> rfl
theorem is_integer_ok (i : Int) : f_is_integer [.int i] = some (.ok (.dat (.bl true))) := rfl
theorem is_count_ok (i : Int) : f_is_count [.int i] = some (.ok (.dat (.bl (decide (0 ≤ i))))) := by
  unfold f_is_count b_is_count
  simp only [e_ret, e_nop, e_bnd, e_ite, e_opM, e_out0, e_outd, e_outn, fz0, fzd, fzl, fzi, bd, bl_, bi, zd, zl, zi, o1, o2, e_var, e_atS, e_s1, e_s2, e_sl, e_toS, e_seq, e_next, e_no, e_drop, e_sret, e_if, e_asg, e_asgp, p_nm, p_tp, p_nil, p_cons, a_bl, a_int, e_noX, e_callM, e_bodyD, dn_next, dn_ret, rp0, rp1, rp2, rp3, rp4, rp5, rp6, rp7, rp8, rp9, rp10, rp11, eq_ii, ne_ii, len_t, len_l, ix_t, ix_l, add_ii, sub_ii, neg_i, lt_ii, le_ii, gt_ii, ge_ii, isN_i, isN_n, notN_i, notN_n, notN_t, e_bin, e_una, e_tst, e_cand, e_cor, e_cnot, e_and, e_or, e_not, e_eif, e_acons, e_tup, e_lst, e_c, e_osome, e_B, e_call0, e_prp, e_met, e_fld, e_mak, e_makM, mkR_ok, e_calO, List.map_cons, List.map_nil, List.cons_append, List.nil_append, List.append_nil, List.getElem?_cons_zero, List.getElem?_cons_succ, List.set_cons_zero, List.set_cons_succ, List.length_cons, List.length_nil, List.length_map, Option.map_some, Option.map_none, reduceIte, Bool.false_eq_true, Bool.not_true, Bool.not_false, decide_true, decide_false, Nat.reduceAdd, Nat.reduceLT, Nat.reduceEqDiff, Nat.zero_add, Nat.lt_add_left_iff_pos, Nat.succ_pos, Nat.zero_lt_succ, few0, few1, few2, few3, is_integer_ok]
theorem is_listed_i (i : Int) : f_is_listed [.int i] = some (.ok (.dat (.bl false))) := rfl
theorem is_listed_ok {l : List Int} {c : D} (h : Lk l c) : f_is_listed [c] = some (.ok (.dat (.bl true))) := by cases h <;> rfl
theorem is_counts_ok {l : List Int} {c : D} (h : Lk l c) (hl : l.length ≤ 100000) : f_is_counts [c] = some (.ok (.dat (.bl (l.all fun i => decide (0 ≤ i))))) := by
  unfold f_is_counts b_is_counts
  have hc : eLc (iSeq (eVar 0)) (.nm 1) (ret true) (eCall0 1 f_is_count [] (aCons (eVar 1) (ret []))) [some (.dat c), none] = some (.ok (.lst false (l.map fun i => .bl (decide (0 ≤ i)))), [some (.dat c), none]) := by
    rw [e_lc (xs := l.map .int) (ρ1 := [some (.dat c), none]) (fun d => match d with | .int i => .bl (decide (0 ≤ i)) | _ => .non) (by simp only [e_ret, e_nop, e_bnd, e_ite, e_opM, e_out0, e_outd, e_outn, fz0, fzd, fzl, fzi, bd, bl_, bi, zd, zl, zi, o1, o2, e_var, e_atS, e_s1, e_s2, e_sl, e_toS, e_seq, e_next, e_no, e_drop, e_sret, e_if, e_asg, e_asgp, p_nm, p_tp, p_nil, p_cons, a_bl, a_int, e_noX, e_callM, e_bodyD, dn_next, dn_ret, rp0, rp1, rp2, rp3, rp4, rp5, rp6, rp7, rp8, rp9, rp10, rp11, eq_ii, ne_ii, len_t, len_l, ix_t, ix_l, add_ii, sub_ii, neg_i, lt_ii, le_ii, gt_ii, ge_ii, isN_i, isN_n, notN_i, notN_n, notN_t, e_bin, e_una, e_tst, e_cand, e_cor, e_cnot, e_and, e_or, e_not, e_eif, e_acons, e_tup, e_lst, e_c, e_osome, e_B, e_call0, e_prp, e_met, e_fld, e_mak, e_makM, mkR_ok, e_calO, List.map_cons, List.map_nil, List.cons_append, List.nil_append, List.append_nil, List.getElem?_cons_zero, List.getElem?_cons_succ, List.set_cons_zero, List.set_cons_succ, List.length_cons, List.length_nil, List.length_map, Option.map_some, Option.map_none, reduceIte, Bool.false_eq_true, Bool.not_true, Bool.not_false, decide_true, decide_false, Nat.reduceAdd, Nat.reduceLT, Nat.reduceEqDiff, Nat.zero_add, Nat.lt_add_left_iff_pos, Nat.succ_pos, Nat.zero_lt_succ, few0, few1, few2, few3, e_iseq, h.items]) (by simp) (by simpa using hl) (fun x hx => ?_)]
    · simp [List.map_map, Function.comp_def]
    · simp only [List.mem_map] at hx
      obtain ⟨i, _, rfl⟩ := hx
      exact ⟨_, by simp only [e_ret, e_nop, e_bnd, e_ite, e_opM, e_out0, e_outd, e_outn, fz0, fzd, fzl, fzi, bd, bl_, bi, zd, zl, zi, o1, o2, e_var, e_atS, e_s1, e_s2, e_sl, e_toS, e_seq, e_next, e_no, e_drop, e_sret, e_if, e_asg, e_asgp, p_nm, p_tp, p_nil, p_cons, a_bl, a_int, e_noX, e_callM, e_bodyD, dn_next, dn_ret, rp0, rp1, rp2, rp3, rp4, rp5, rp6, rp7, rp8, rp9, rp10, rp11, eq_ii, ne_ii, len_t, len_l, ix_t, ix_l, add_ii, sub_ii, neg_i, lt_ii, le_ii, gt_ii, ge_ii, isN_i, isN_n, notN_i, notN_n, notN_t, e_bin, e_una, e_tst, e_cand, e_cor, e_cnot, e_and, e_or, e_not, e_eif, e_acons, e_tup, e_lst, e_c, e_osome, e_B, e_call0, e_prp, e_met, e_fld, e_mak, e_makM, mkR_ok, e_calO, List.map_cons, List.map_nil, List.cons_append, List.nil_append, List.append_nil, List.getElem?_cons_zero, List.getElem?_cons_succ, List.set_cons_zero, List.set_cons_succ, List.length_cons, List.length_nil, List.length_map, Option.map_some, Option.map_none, reduceIte, Bool.false_eq_true, Bool.not_true, Bool.not_false, decide_true, decide_false, Nat.reduceAdd, Nat.reduceLT, Nat.reduceEqDiff, Nat.zero_add, Nat.lt_add_left_iff_pos, Nat.succ_pos, Nat.zero_lt_succ, few0, few1, few2, few3, is_count_ok]; rfl, rfl, rfl⟩
  simp only [e_ret, e_nop, e_bnd, e_ite, e_opM, e_out0, e_outd, e_outn, fz0, fzd, fzl, fzi, bd, bl_, bi, zd, zl, zi, o1, o2, e_var, e_atS, e_s1, e_s2, e_sl, e_toS, e_seq, e_next, e_no, e_drop, e_sret, e_if, e_asg, e_asgp, p_nm, p_tp, p_nil, p_cons, a_bl, a_int, e_noX, e_callM, e_bodyD, dn_next, dn_ret, rp0, rp1, rp2, rp3, rp4, rp5, rp6, rp7, rp8, rp9, rp10, rp11, eq_ii, ne_ii, len_t, len_l, ix_t, ix_l, add_ii, sub_ii, neg_i, lt_ii, le_ii, gt_ii, ge_ii, isN_i, isN_n, notN_i, notN_n, notN_t, e_bin, e_una, e_tst, e_cand, e_cor, e_cnot, e_and, e_or, e_not, e_eif, e_acons, e_tup, e_lst, e_c, e_osome, e_B, e_call0, e_prp, e_met, e_fld, e_mak, e_makM, mkR_ok, e_calO, List.map_cons, List.map_nil, List.cons_append, List.nil_append, List.append_nil, List.getElem?_cons_zero, List.getElem?_cons_succ, List.set_cons_zero, List.set_cons_succ, List.length_cons, List.length_nil, List.length_map, Option.map_some, Option.map_none, reduceIte, Bool.false_eq_true, Bool.not_true, Bool.not_false, decide_true, decide_false, Nat.reduceAdd, Nat.reduceLT, Nat.reduceEqDiff, Nat.zero_add, Nat.lt_add_left_iff_pos, Nat.succ_pos, Nat.zero_lt_succ, few0, few1, few2, few3, is_listed_ok h, hc, all_map]
theorem deep_i (i : Int) (n : Nat) : F_deep (n + 1) [.int i] = some (.ok (.dat (.int i))) := by
  show bodyD _ (b_deep (F_deep n)) _ = _
  unfold b_deep
  simp only [e_ret, e_nop, e_bnd, e_ite, e_opM, e_out0, e_outd, e_outn, fz0, fzd, fzl, fzi, bd, bl_, bi, zd, zl, zi, o1, o2, e_var, e_atS, e_s1, e_s2, e_sl, e_toS, e_seq, e_next, e_no, e_drop, e_sret, e_if, e_asg, e_asgp, p_nm, p_tp, p_nil, p_cons, a_bl, a_int, e_noX, e_callM, e_bodyD, dn_next, dn_ret, rp0, rp1, rp2, rp3, rp4, rp5, rp6, rp7, rp8, rp9, rp10, rp11, eq_ii, ne_ii, len_t, len_l, ix_t, ix_l, add_ii, sub_ii, neg_i, lt_ii, le_ii, gt_ii, ge_ii, isN_i, isN_n, notN_i, notN_n, notN_t, e_bin, e_una, e_tst, e_cand, e_cor, e_cnot, e_and, e_or, e_not, e_eif, e_acons, e_tup, e_lst, e_c, e_osome, e_B, e_call0, e_prp, e_met, e_fld, e_mak, e_makM, mkR_ok, e_calO, List.map_cons, List.map_nil, List.cons_append, List.nil_append, List.append_nil, List.getElem?_cons_zero, List.getElem?_cons_succ, List.set_cons_zero, List.set_cons_succ, List.length_cons, List.length_nil, List.length_map, Option.map_some, Option.map_none, reduceIte, Bool.false_eq_true, Bool.not_true, Bool.not_false, decide_true, decide_false, Nat.reduceAdd, Nat.reduceLT, Nat.reduceEqDiff, Nat.zero_add, Nat.lt_add_left_iff_pos, Nat.succ_pos, Nat.zero_lt_succ, few0, few1, few2, few3, is_listed_i]
theorem deep_ok {l : List Int} {c : D} (h : Lk l c) (hl : l.length ≤ 100000) (n : Nat) : F_deep (n + 2) [c] = some (.ok (.dat (ti l))) := by
  show bodyD _ (b_deep (F_deep (n + 1))) _ = _
  unfold b_deep
  have hc : eLc (iSeq (eVar 0)) (.nm 1) (ret true) (eCall0 1 (F_deep (n + 1)) [] (aCons (eVar 1) (ret []))) [some (.dat c), none] = some (.ok (.lst false (l.map .int)), [some (.dat c), none]) := by
    rw [e_lc (xs := l.map .int) (ρ1 := [some (.dat c), none]) (fun d => d) (by simp only [e_ret, e_nop, e_bnd, e_ite, e_opM, e_out0, e_outd, e_outn, fz0, fzd, fzl, fzi, bd, bl_, bi, zd, zl, zi, o1, o2, e_var, e_atS, e_s1, e_s2, e_sl, e_toS, e_seq, e_next, e_no, e_drop, e_sret, e_if, e_asg, e_asgp, p_nm, p_tp, p_nil, p_cons, a_bl, a_int, e_noX, e_callM, e_bodyD, dn_next, dn_ret, rp0, rp1, rp2, rp3, rp4, rp5, rp6, rp7, rp8, rp9, rp10, rp11, eq_ii, ne_ii, len_t, len_l, ix_t, ix_l, add_ii, sub_ii, neg_i, lt_ii, le_ii, gt_ii, ge_ii, isN_i, isN_n, notN_i, notN_n, notN_t, e_bin, e_una, e_tst, e_cand, e_cor, e_cnot, e_and, e_or, e_not, e_eif, e_acons, e_tup, e_lst, e_c, e_osome, e_B, e_call0, e_prp, e_met, e_fld, e_mak, e_makM, mkR_ok, e_calO, List.map_cons, List.map_nil, List.cons_append, List.nil_append, List.append_nil, List.getElem?_cons_zero, List.getElem?_cons_succ, List.set_cons_zero, List.set_cons_succ, List.length_cons, List.length_nil, List.length_map, Option.map_some, Option.map_none, reduceIte, Bool.false_eq_true, Bool.not_true, Bool.not_false, decide_true, decide_false, Nat.reduceAdd, Nat.reduceLT, Nat.reduceEqDiff, Nat.zero_add, Nat.lt_add_left_iff_pos, Nat.succ_pos, Nat.zero_lt_succ, few0, few1, few2, few3, e_iseq, h.items]) (by simp) (by simpa using hl) (fun x hx => ?_)]
    · simp [List.map_map, Function.comp_def]
    · simp only [List.mem_map] at hx
      obtain ⟨i, _, rfl⟩ := hx
      exact ⟨_, by simp only [e_ret, e_nop, e_bnd, e_ite, e_opM, e_out0, e_outd, e_outn, fz0, fzd, fzl, fzi, bd, bl_, bi, zd, zl, zi, o1, o2, e_var, e_atS, e_s1, e_s2, e_sl, e_toS, e_seq, e_next, e_no, e_drop, e_sret, e_if, e_asg, e_asgp, p_nm, p_tp, p_nil, p_cons, a_bl, a_int, e_noX, e_callM, e_bodyD, dn_next, dn_ret, rp0, rp1, rp2, rp3, rp4, rp5, rp6, rp7, rp8, rp9, rp10, rp11, eq_ii, ne_ii, len_t, len_l, ix_t, ix_l, add_ii, sub_ii, neg_i, lt_ii, le_ii, gt_ii, ge_ii, isN_i, isN_n, notN_i, notN_n, notN_t, e_bin, e_una, e_tst, e_cand, e_cor, e_cnot, e_and, e_or, e_not, e_eif, e_acons, e_tup, e_lst, e_c, e_osome, e_B, e_call0, e_prp, e_met, e_fld, e_mak, e_makM, mkR_ok, e_calO, List.map_cons, List.map_nil, List.cons_append, List.nil_append, List.append_nil, List.getElem?_cons_zero, List.getElem?_cons_succ, List.set_cons_zero, List.set_cons_succ, List.length_cons, List.length_nil, List.length_map, Option.map_some, Option.map_none, reduceIte, Bool.false_eq_true, Bool.not_true, Bool.not_false, decide_true, decide_false, Nat.reduceAdd, Nat.reduceLT, Nat.reduceEqDiff, Nat.zero_add, Nat.lt_add_left_iff_pos, Nat.succ_pos, Nat.zero_lt_succ, few0, few1, few2, few3, deep_i]; rfl, rfl, rfl⟩
  simp only [e_ret, e_nop, e_bnd, e_ite, e_opM, e_out0, e_outd, e_outn, fz0, fzd, fzl, fzi, bd, bl_, bi, zd, zl, zi, o1, o2, e_var, e_atS, e_s1, e_s2, e_sl, e_toS, e_seq, e_next, e_no, e_drop, e_sret, e_if, e_asg, e_asgp, p_nm, p_tp, p_nil, p_cons, a_bl, a_int, e_noX, e_callM, e_bodyD, dn_next, dn_ret, rp0, rp1, rp2, rp3, rp4, rp5, rp6, rp7, rp8, rp9, rp10, rp11, eq_ii, ne_ii, len_t, len_l, ix_t, ix_l, add_ii, sub_ii, neg_i, lt_ii, le_ii, gt_ii, ge_ii, isN_i, isN_n, notN_i, notN_n, notN_t, e_bin, e_una, e_tst, e_cand, e_cor, e_cnot, e_and, e_or, e_not, e_eif, e_acons, e_tup, e_lst, e_c, e_osome, e_B, e_call0, e_prp, e_met, e_fld, e_mak, e_makM, mkR_ok, e_calO, List.map_cons, List.map_nil, List.cons_append, List.nil_append, List.append_nil, List.getElem?_cons_zero, List.getElem?_cons_succ, List.set_cons_zero, List.set_cons_succ, List.length_cons, List.length_nil, List.length_map, Option.map_some, Option.map_none, reduceIte, Bool.false_eq_true, Bool.not_true, Bool.not_false, decide_true, decide_false, Nat.reduceAdd, Nat.reduceLT, Nat.reduceEqDiff, Nat.zero_add, Nat.lt_add_left_iff_pos, Nat.succ_pos, Nat.zero_lt_succ, few0, few1, few2, few3, is_listed_ok h, hc]
  rfl
theorem rng1_i {j : Int} (h : -100000 ≤ j ∧ j ≤ 100000) : rng1 [.int j] = some (rngD 0 j.toNat) := by
  show (if -100000 ≤ j ∧ j ≤ 100000 then some (rngD 0 j.toNat) else none) = _
  rw [if_pos h]
theorem at_i {l : List Int} {i : Int} (h0 : 0 ≤ i) (h : i < l.length) : L2.atI (l.map D.int) i = some (.int (l.getD i.toNat 0)) := by
  rw [atI_ints]
  obtain ⟨k, rfl⟩ : ∃ k : Nat, i = k := ⟨i.toNat, by omega⟩
  have hk : k < l.length := by omega
  rw [atI_nat hk]
  simp [hk]
theorem at_m {l : List Int} (h : 0 < l.length) : L2.atI (l.map D.int) (-1) = some (.int (l.getD (l.length - 1) 0)) := by
  rw [atI_ints, atI_last h, List.getLast?_eq_getElem?]
  have : l.length - 1 < l.length := by omega
  simp [this]
theorem Lk.len {l : List Int} {c : D} (h : Lk l c) : lenF c = some (.dt (.int l.length)) := by cases h <;> simp [lenF, lenD]
theorem Lk.ix {l : List Int} {c : D} (h : Lk l c) {i : Int} (h0 : 0 ≤ i) (hi : i < l.length) : ixF c (.int i) = some (.dt (.int (l.getD i.toNat 0))) := by
  cases h <;> (first | rw [ix_t] | rw [ix_l]) <;> rw [at_i h0 hi] <;> rfl
theorem Lk.ixm {l : List Int} {c : D} (h : Lk l c) (hi : 0 < l.length) : ixF c (.int (-1)) = some (.dt (.int (l.getD (l.length - 1) 0))) := by
  cases h <;> (first | rw [ix_t] | rw [ix_l]) <;> rw [at_m hi] <;> rfl
def ris (l : List Int) : Bool := (List.range (l.length - 1)).all fun k => decide (l.getD k 0 ≤ l.getD (k + 1) 0)
theorem is_rising_ok {l : List Int} {c : D} (h : Lk l c) (hl : l.length ≤ 100000) : f_is_rising [c] = some (.ok (.dat (.bl (ris l)))) := by
  unfold f_is_rising b_is_rising
  have hc : eLc (iOf rng1 (aCons (SL.bin subF (s1M lenF 0) (eC (.int 1))) (ret []))) (.nm 1) (ret true) (SL.bin leF (s2M ixF 0 (eVar 1)) (s2M ixF 0 (SL.bin addF (eVar 1) (eC (.int 1))))) [some (.dat c), none] =
      some (.ok (.lst false ((List.range (l.length - 1)).map fun k => .bl (decide (l.getD k 0 ≤ l.getD (k + 1) 0)))), [some (.dat c), none]) := by
    rw [e_lc (xs := rngD 0 (l.length - 1)) (ρ1 := [some (.dat c), none]) (fun d => match d with | .int i => .bl (decide (l.getD i.toNat 0 ≤ l.getD (i + 1).toNat 0)) | _ => .non) ?_ (by simp) (by simp [rngD]; omega) (fun x hx => ?_)]
    · simp [rngD, List.map_map, Function.comp_def]
    · have e : ((l.length : Int) - 1).toNat = l.length - 1 := by omega
      simp only [e_ret, e_nop, e_bnd, e_ite, e_opM, e_out0, e_outd, e_outn, fz0, fzd, fzl, fzi, bd, bl_, bi, zd, zl, zi, o1, o2, e_var, e_atS, e_s1, e_s2, e_sl, e_toS, e_seq, e_next, e_no, e_drop, e_sret, e_if, e_asg, e_asgp, p_nm, p_tp, p_nil, p_cons, a_bl, a_int, e_noX, e_callM, e_bodyD, dn_next, dn_ret, rp0, rp1, rp2, rp3, rp4, rp5, rp6, rp7, rp8, rp9, rp10, rp11, eq_ii, ne_ii, len_t, len_l, ix_t, ix_l, add_ii, sub_ii, neg_i, lt_ii, le_ii, gt_ii, ge_ii, isN_i, isN_n, notN_i, notN_n, notN_t, e_bin, e_una, e_tst, e_cand, e_cor, e_cnot, e_and, e_or, e_not, e_eif, e_acons, e_tup, e_lst, e_c, e_osome, e_B, e_call0, e_prp, e_met, e_fld, e_mak, e_makM, mkR_ok, e_calO, List.map_cons, List.map_nil, List.cons_append, List.nil_append, List.append_nil, List.getElem?_cons_zero, List.getElem?_cons_succ, List.set_cons_zero, List.set_cons_succ, List.length_cons, List.length_nil, List.length_map, Option.map_some, Option.map_none, reduceIte, Bool.false_eq_true, Bool.not_true, Bool.not_false, decide_true, decide_false, Nat.reduceAdd, Nat.reduceLT, Nat.reduceEqDiff, Nat.zero_add, Nat.lt_add_left_iff_pos, Nat.succ_pos, Nat.zero_lt_succ, few0, few1, few2, few3, e_rng, h.len, rng1_i (j := (l.length : Int) - 1) ⟨by omega, by omega⟩, e]
    · simp only [rngD, List.mem_map, List.mem_range] at hx
      obtain ⟨k, hk, rfl⟩ := hx
      have h1 : ixF c (.int (0 + (k : Int))) = _ := h.ix (by omega) (by omega)
      have h2 : ixF c (.int (0 + (k : Int) + 1)) = _ := h.ix (by omega) (by omega)
      exact ⟨_, by simp only [e_ret, e_nop, e_bnd, e_ite, e_opM, e_out0, e_outd, e_outn, fz0, fzd, fzl, fzi, bd, bl_, bi, zd, zl, zi, o1, o2, e_var, e_atS, e_s1, e_s2, e_sl, e_toS, e_seq, e_next, e_no, e_drop, e_sret, e_if, e_asg, e_asgp, p_nm, p_tp, p_nil, p_cons, a_bl, a_int, e_noX, e_callM, e_bodyD, dn_next, dn_ret, rp0, rp1, rp2, rp3, rp4, rp5, rp6, rp7, rp8, rp9, rp10, rp11, eq_ii, ne_ii, len_t, len_l, ix_t, ix_l, add_ii, sub_ii, neg_i, lt_ii, le_ii, gt_ii, ge_ii, isN_i, isN_n, notN_i, notN_n, notN_t, e_bin, e_una, e_tst, e_cand, e_cor, e_cnot, e_and, e_or, e_not, e_eif, e_acons, e_tup, e_lst, e_c, e_osome, e_B, e_call0, e_prp, e_met, e_fld, e_mak, e_makM, mkR_ok, e_calO, List.map_cons, List.map_nil, List.cons_append, List.nil_append, List.append_nil, List.getElem?_cons_zero, List.getElem?_cons_succ, List.set_cons_zero, List.set_cons_succ, List.length_cons, List.length_nil, List.length_map, Option.map_some, Option.map_none, reduceIte, Bool.false_eq_true, Bool.not_true, Bool.not_false, decide_true, decide_false, Nat.reduceAdd, Nat.reduceLT, Nat.reduceEqDiff, Nat.zero_add, Nat.lt_add_left_iff_pos, Nat.succ_pos, Nat.zero_lt_succ, few0, few1, few2, few3, h1, h2]; rfl, rfl, rfl⟩
  simp only [e_ret, e_nop, e_bnd, e_ite, e_opM, e_out0, e_outd, e_outn, fz0, fzd, fzl, fzi, bd, bl_, bi, zd, zl, zi, o1, o2, e_var, e_atS, e_s1, e_s2, e_sl, e_toS, e_seq, e_next, e_no, e_drop, e_sret, e_if, e_asg, e_asgp, p_nm, p_tp, p_nil, p_cons, a_bl, a_int, e_noX, e_callM, e_bodyD, dn_next, dn_ret, rp0, rp1, rp2, rp3, rp4, rp5, rp6, rp7, rp8, rp9, rp10, rp11, eq_ii, ne_ii, len_t, len_l, ix_t, ix_l, add_ii, sub_ii, neg_i, lt_ii, le_ii, gt_ii, ge_ii, isN_i, isN_n, notN_i, notN_n, notN_t, e_bin, e_una, e_tst, e_cand, e_cor, e_cnot, e_and, e_or, e_not, e_eif, e_acons, e_tup, e_lst, e_c, e_osome, e_B, e_call0, e_prp, e_met, e_fld, e_mak, e_makM, mkR_ok, e_calO, List.map_cons, List.map_nil, List.cons_append, List.nil_append, List.append_nil, List.getElem?_cons_zero, List.getElem?_cons_succ, List.set_cons_zero, List.set_cons_succ, List.length_cons, List.length_nil, List.length_map, Option.map_some, Option.map_none, reduceIte, Bool.false_eq_true, Bool.not_true, Bool.not_false, decide_true, decide_false, Nat.reduceAdd, Nat.reduceLT, Nat.reduceEqDiff, Nat.zero_add, Nat.lt_add_left_iff_pos, Nat.succ_pos, Nat.zero_lt_succ, few0, few1, few2, few3, hc, all_map]
  rfl
theorem lk_t (l : List Int) : Lk l (ti l) := .t
def vat (h l : List Int) (r p : Int) : Option Int := if p = 0 then some 0 else if p ≤ h.length then some (h.getD (p - 1).toNat 0) else if (l.length : Int) = 0 then none else some (l.getD ((p - h.length - 1) % l.length).toNat 0 + r * ((p - h.length - 1) / l.length))
theorem value_at_ok {h l : List Int} {r p : Int} (hp : 0 ≤ p) (hr : sml r) (hl : l.length ≤ 100000) : f_value_at [raw h l r, .int p] = some (.ok (.dat (oD (vat h l r p)))) := by
  unfold f_value_at b_value_at vat
  by_cases h1 : p = 0
  · rw [if_pos h1]
    simp only [e_ret, e_nop, e_bnd, e_ite, e_opM, e_out0, e_outd, e_outn, fz0, fzd, fzl, fzi, bd, bl_, bi, zd, zl, zi, o1, o2, e_var, e_atS, e_s1, e_s2, e_sl, e_toS, e_seq, e_next, e_no, e_drop, e_sret, e_if, e_asg, e_asgp, p_nm, p_tp, p_nil, p_cons, a_bl, a_int, e_noX, e_callM, e_bodyD, dn_next, dn_ret, rp0, rp1, rp2, rp3, rp4, rp5, rp6, rp7, rp8, rp9, rp10, rp11, eq_ii, ne_ii, len_t, len_l, ix_t, ix_l, add_ii, sub_ii, neg_i, lt_ii, le_ii, gt_ii, ge_ii, isN_i, isN_n, notN_i, notN_n, notN_t, e_bin, e_una, e_tst, e_cand, e_cor, e_cnot, e_and, e_or, e_not, e_eif, e_acons, e_tup, e_lst, e_c, e_osome, e_B, e_call0, e_prp, e_met, e_fld, e_mak, e_makM, mkR_ok, e_calO, List.map_cons, List.map_nil, List.cons_append, List.nil_append, List.append_nil, List.getElem?_cons_zero, List.getElem?_cons_succ, List.set_cons_zero, List.set_cons_succ, List.length_cons, List.length_nil, List.length_map, Option.map_some, Option.map_none, reduceIte, Bool.false_eq_true, Bool.not_true, Bool.not_false, decide_true, decide_false, Nat.reduceAdd, Nat.reduceLT, Nat.reduceEqDiff, Nat.zero_add, Nat.lt_add_left_iff_pos, Nat.succ_pos, Nat.zero_lt_succ, few0, few1, few2, few3, h1]
    rfl
  · rw [if_neg h1]
    by_cases h2 : p ≤ h.length
    · rw [if_pos h2]
      simp only [e_ret, e_nop, e_bnd, e_ite, e_opM, e_out0, e_outd, e_outn, fz0, fzd, fzl, fzi, bd, bl_, bi, zd, zl, zi, o1, o2, e_var, e_atS, e_s1, e_s2, e_sl, e_toS, e_seq, e_next, e_no, e_drop, e_sret, e_if, e_asg, e_asgp, p_nm, p_tp, p_nil, p_cons, a_bl, a_int, e_noX, e_callM, e_bodyD, dn_next, dn_ret, rp0, rp1, rp2, rp3, rp4, rp5, rp6, rp7, rp8, rp9, rp10, rp11, eq_ii, ne_ii, len_t, len_l, ix_t, ix_l, add_ii, sub_ii, neg_i, lt_ii, le_ii, gt_ii, ge_ii, isN_i, isN_n, notN_i, notN_n, notN_t, e_bin, e_una, e_tst, e_cand, e_cor, e_cnot, e_and, e_or, e_not, e_eif, e_acons, e_tup, e_lst, e_c, e_osome, e_B, e_call0, e_prp, e_met, e_fld, e_mak, e_makM, mkR_ok, e_calO, List.map_cons, List.map_nil, List.cons_append, List.nil_append, List.append_nil, List.getElem?_cons_zero, List.getElem?_cons_succ, List.set_cons_zero, List.set_cons_succ, List.length_cons, List.length_nil, List.length_map, Option.map_some, Option.map_none, reduceIte, Bool.false_eq_true, Bool.not_true, Bool.not_false, decide_true, decide_false, Nat.reduceAdd, Nat.reduceLT, Nat.reduceEqDiff, Nat.zero_add, Nat.lt_add_left_iff_pos, Nat.succ_pos, Nat.zero_lt_succ, few0, few1, few2, few3, h1, h2, at_i (l := h) (i := p - 1) (by omega) (by omega)]
      rfl
    · rw [if_neg h2]
      by_cases h3 : (l.length : Int) = 0
      · rw [if_pos h3]
        simp only [e_ret, e_nop, e_bnd, e_ite, e_opM, e_out0, e_outd, e_outn, fz0, fzd, fzl, fzi, bd, bl_, bi, zd, zl, zi, o1, o2, e_var, e_atS, e_s1, e_s2, e_sl, e_toS, e_seq, e_next, e_no, e_drop, e_sret, e_if, e_asg, e_asgp, p_nm, p_tp, p_nil, p_cons, a_bl, a_int, e_noX, e_callM, e_bodyD, dn_next, dn_ret, rp0, rp1, rp2, rp3, rp4, rp5, rp6, rp7, rp8, rp9, rp10, rp11, eq_ii, ne_ii, len_t, len_l, ix_t, ix_l, add_ii, sub_ii, neg_i, lt_ii, le_ii, gt_ii, ge_ii, isN_i, isN_n, notN_i, notN_n, notN_t, e_bin, e_una, e_tst, e_cand, e_cor, e_cnot, e_and, e_or, e_not, e_eif, e_acons, e_tup, e_lst, e_c, e_osome, e_B, e_call0, e_prp, e_met, e_fld, e_mak, e_makM, mkR_ok, e_calO, List.map_cons, List.map_nil, List.cons_append, List.nil_append, List.append_nil, List.getElem?_cons_zero, List.getElem?_cons_succ, List.set_cons_zero, List.set_cons_succ, List.length_cons, List.length_nil, List.length_map, Option.map_some, Option.map_none, reduceIte, Bool.false_eq_true, Bool.not_true, Bool.not_false, decide_true, decide_false, Nat.reduceAdd, Nat.reduceLT, Nat.reduceEqDiff, Nat.zero_add, Nat.lt_add_left_iff_pos, Nat.succ_pos, Nat.zero_lt_succ, few0, few1, few2, few3, h1, h2, h3]
        rfl
      · rw [if_neg h3]
        have hlt : 0 < (l.length : Int) := by omega
        simp only [e_ret, e_nop, e_bnd, e_ite, e_opM, e_out0, e_outd, e_outn, fz0, fzd, fzl, fzi, bd, bl_, bi, zd, zl, zi, o1, o2, e_var, e_atS, e_s1, e_s2, e_sl, e_toS, e_seq, e_next, e_no, e_drop, e_sret, e_if, e_asg, e_asgp, p_nm, p_tp, p_nil, p_cons, a_bl, a_int, e_noX, e_callM, e_bodyD, dn_next, dn_ret, rp0, rp1, rp2, rp3, rp4, rp5, rp6, rp7, rp8, rp9, rp10, rp11, eq_ii, ne_ii, len_t, len_l, ix_t, ix_l, add_ii, sub_ii, neg_i, lt_ii, le_ii, gt_ii, ge_ii, isN_i, isN_n, notN_i, notN_n, notN_t, e_bin, e_una, e_tst, e_cand, e_cor, e_cnot, e_and, e_or, e_not, e_eif, e_acons, e_tup, e_lst, e_c, e_osome, e_B, e_call0, e_prp, e_met, e_fld, e_mak, e_makM, mkR_ok, e_calO, List.map_cons, List.map_nil, List.cons_append, List.nil_append, List.append_nil, List.getElem?_cons_zero, List.getElem?_cons_succ, List.set_cons_zero, List.set_cons_succ, List.length_cons, List.length_nil, List.length_map, Option.map_some, Option.map_none, reduceIte, Bool.false_eq_true, Bool.not_true, Bool.not_false, decide_true, decide_false, Nat.reduceAdd, Nat.reduceLT, Nat.reduceEqDiff, Nat.zero_add, Nat.lt_add_left_iff_pos, Nat.succ_pos, Nat.zero_lt_succ, few0, few1, few2, few3, h1, h2, h3, mod_ii hlt, div_ii (i := p - h.length - 1) (j := l.length) ⟨hlt, by omega⟩, mul_ii (i := r) (j := (p - h.length - 1) / l.length) (.inl hr),
          at_i (l := l) (i := (p - h.length - 1) % l.length) (Int.emod_nonneg _ (by omega)) (Int.emod_lt_of_pos _ hlt)]
        rfl
end NF

set_option Elab.async false
set_option linter.all false
set_option maxRecDepth 100000
set_option maxHeartbeats 1000000
namespace NF
open SL PM
variable {h l : List Int} {r : Int} {m : Nat}
def allQ (l : List Int) (m : Nat) (st : Int) : Bool := (List.range (l.length - m)).all fun k => decide (l.getD (k + m) 0 = l.getD k 0 + st)
theorem allQ_iff {st : Int} : allQ l m st = true ↔ ∀ k, k < l.length - m → l.getD (k + m) 0 = l.getD k 0 + st := by
  unfold allQ
  simp [List.all_eq_true]
theorem cond_iff (h0 : 0 < m) : Cond l r m ↔ (l.length : Int) % (m : Int) = 0 ∧ r % ((l.length : Int) / (m : Int)) = 0 ∧ allQ l m (r / ((l.length : Int) / (m : Int))) = true := by
  rw [allQ_iff]
  constructor
  · rintro ⟨_, h1, h2, h3⟩
    refine ⟨by rw [← Int.natCast_emod, h1]; rfl, by rw [← Int.natCast_ediv]; exact h2, by rw [← Int.natCast_ediv]; exact h3⟩
  · rintro ⟨h1, h2, h3⟩
    refine ⟨h0, by rw [← Int.natCast_emod] at h1; omega, by rw [Int.natCast_ediv]; exact h2, by rw [Int.natCast_ediv]; exact h3⟩
theorem least_cond (hL : 0 < l.length) (r : Int) : ∃ m, Cond l r m ∧ (∀ m', Cond l r m' → m ≤ m') ∧ 0 < m ∧ m ≤ l.length := by
  obtain ⟨m, h1, h2⟩ := exists_least (Cond l r) l.length (Cond.self hL)
  exact ⟨m, h1, h2, h1.pos, h1.le hL⟩
abbrev lcS : Mo T := eLc (iOf rng1 (aCons (SL.bin subF (s1M lenF 0) (eVar 2)) (ret []))) (.nm 4) (ret true) (SL.bin eqF (s2M ixF 0 (SL.bin addF (eVar 4) (eVar 2))) (SL.bin addF (s2M ixF 0 (eVar 4)) (eVar 3)))
theorem lc_short (hm : m ≤ l.length) (hl : l.length ≤ 100000) (a : Option T) (st r' : Int) : lcS [some (.dat (ti l)), some (.dat (.int r')), some (.dat (.int (m : Int))), some (.dat (.int st)), a] =
    some (.ok (.lst false ((List.range (l.length - m)).map fun k => .bl (decide (l.getD (k + m) 0 = l.getD k 0 + st)))), [some (.dat (ti l)), some (.dat (.int r')), some (.dat (.int (m : Int))), some (.dat (.int st)), none]) := by
  have e : ((l.length : Int) - (m : Int)).toNat = l.length - m := by omega
  unfold lcS
  rw [e_lc (xs := rngD 0 (l.length - m)) (ρ1 := [some (.dat (ti l)), some (.dat (.int r')), some (.dat (.int (m : Int))), some (.dat (.int st)), a]) (fun d => match d with | .int i => .bl (decide (l.getD (i + m).toNat 0 = l.getD i.toNat 0 + st)) | _ => .non) ?_ (by simp) (by simp [rngD]; omega) (fun x hx => ?_)]
  · simp [rngD, List.map_map, Function.comp_def]
    intro k _
    have : ((k : Int) + m).toNat = k + m := by omega
    rw [this]
  · simp only [e_ret, e_nop, e_bnd, e_ite, e_opM, e_out0, e_outd, e_outn, fz0, fzd, fzl, fzi, bd, bl_, bi, zd, zl, zi, o1, o2, e_var, e_atS, e_s1, e_s2, e_sl, e_toS, e_seq, e_next, e_no, e_drop, e_sret, e_if, e_asg, e_asgp, p_nm, p_tp, p_nil, p_cons, a_bl, a_int, e_noX, e_callM, e_bodyD, dn_next, dn_ret, rp0, rp1, rp2, rp3, rp4, rp5, rp6, rp7, rp8, rp9, rp10, rp11, eq_ii, ne_ii, len_t, len_l, ix_t, ix_l, add_ii, sub_ii, neg_i, lt_ii, le_ii, gt_ii, ge_ii, isN_i, isN_n, notN_i, notN_n, notN_t, e_bin, e_una, e_tst, e_cand, e_cor, e_cnot, e_and, e_or, e_not, e_eif, e_acons, e_tup, e_lst, e_c, e_osome, e_B, e_call0, e_prp, e_met, e_fld, e_mak, e_makM, mkR_ok, e_calO, List.map_cons, List.map_nil, List.cons_append, List.nil_append, List.append_nil, List.getElem?_cons_zero, List.getElem?_cons_succ, List.set_cons_zero, List.set_cons_succ, List.length_cons, List.length_nil, List.length_map, Option.map_some, Option.map_none, reduceIte, Bool.false_eq_true, Bool.not_true, Bool.not_false, decide_true, decide_false, Nat.reduceAdd, Nat.reduceLT, Nat.reduceEqDiff, Nat.zero_add, Nat.lt_add_left_iff_pos, Nat.succ_pos, Nat.zero_lt_succ, few0, few1, few2, few3, e_rng, rng1_i (j := (l.length : Int) - m) ⟨by omega, by omega⟩, e]
  · simp only [rngD, List.mem_map, List.mem_range] at hx
    obtain ⟨k, hk, rfl⟩ := hx
    exact ⟨_, by simp only [e_ret, e_nop, e_bnd, e_ite, e_opM, e_out0, e_outd, e_outn, fz0, fzd, fzl, fzi, bd, bl_, bi, zd, zl, zi, o1, o2, e_var, e_atS, e_s1, e_s2, e_sl, e_toS, e_seq, e_next, e_no, e_drop, e_sret, e_if, e_asg, e_asgp, p_nm, p_tp, p_nil, p_cons, a_bl, a_int, e_noX, e_callM, e_bodyD, dn_next, dn_ret, rp0, rp1, rp2, rp3, rp4, rp5, rp6, rp7, rp8, rp9, rp10, rp11, eq_ii, ne_ii, len_t, len_l, ix_t, ix_l, add_ii, sub_ii, neg_i, lt_ii, le_ii, gt_ii, ge_ii, isN_i, isN_n, notN_i, notN_n, notN_t, e_bin, e_una, e_tst, e_cand, e_cor, e_cnot, e_and, e_or, e_not, e_eif, e_acons, e_tup, e_lst, e_c, e_osome, e_B, e_call0, e_prp, e_met, e_fld, e_mak, e_makM, mkR_ok, e_calO, List.map_cons, List.map_nil, List.cons_append, List.nil_append, List.append_nil, List.getElem?_cons_zero, List.getElem?_cons_succ, List.set_cons_zero, List.set_cons_succ, List.length_cons, List.length_nil, List.length_map, Option.map_some, Option.map_none, reduceIte, Bool.false_eq_true, Bool.not_true, Bool.not_false, decide_true, decide_false, Nat.reduceAdd, Nat.reduceLT, Nat.reduceEqDiff, Nat.zero_add, Nat.lt_add_left_iff_pos, Nat.succ_pos, Nat.zero_lt_succ, few0, few1, few2, few3, at_i (l := l) (i := 0 + (k : Int) + m) (by omega) (by omega), at_i (l := l) (i := 0 + (k : Int)) (by omega) (by omega)]; rfl, rfl, rfl⟩
abbrev bS : So := sIf (cAnd (tst (SL.bin eqF (SL.bin modF (s1M lenF 0) (eVar 2)) (eC (.int 0)))) (tst (SL.bin eqF (SL.bin modF (eVar 1) (SL.bin divF (s1M lenF 0) (eVar 2))) (eC (.int 0))))) (sSeq (sAsg 3 (SL.bin divF (eVar 1) (SL.bin divF (s1M lenF 0) (eVar 2))))
  (sIf (tst (eB allF (aCons lcS (ret [])))) (sRet (eTup (aCons (sSlM slF 0 (ret none) (oSome (eVar 2))) (aCons (eVar 3) (ret []))))) (sNext))) (sNext)
theorem bS_eq : b_short_loop = sSeq (sFor (iOf rng2 (aCons (eC (.int 1)) (aCons (s1M lenF 0) (ret [])))) (.nm 2) bS) (sRet (eTup (aCons (eVar 0) (aCons (eVar 1) (ret []))))) := rfl
theorem turn_short (h0 : 0 < m) (hm : m ≤ l.length) (hl : l.length ≤ 100000) (a b : Option T) :
    (Cond l r m → ∃ ρ, bS [some (.dat (ti l)), some (.dat (.int r)), some (.dat (.int (m : Int))), a, b] = some (.ret (.dat (.tup [ti (l.take m), .int (r / ((l.length / m : Nat) : Int))])), ρ)) ∧
    (¬ Cond l r m → ∃ a' b', bS [some (.dat (ti l)), some (.dat (.int r)), some (.dat (.int (m : Int))), a, b] = some (.next, [some (.dat (ti l)), some (.dat (.int r)), some (.dat (.int (m : Int))), a', b'])) := by
  rw [cond_iff h0, Int.natCast_ediv]
  have p0 : 0 < (m : Int) := by omega
  have q0 : 0 < (l.length : Int) / (m : Int) := by
    rw [← Int.natCast_ediv]
    have := Nat.div_pos hm h0
    omega
  have q1 : (l.length : Int) / (m : Int) < 4611686018427387904 := by
    have := Int.ediv_le_self (b := (m : Int)) (a := (l.length : Int)) (by omega)
    omega
  unfold bS
  by_cases c1 : (l.length : Int) % (m : Int) = 0
  · by_cases c2 : r % ((l.length : Int) / (m : Int)) = 0
    · by_cases c3 : allQ l m (r / ((l.length : Int) / (m : Int))) = true
      · refine ⟨fun _ => ?_, fun h => absurd ⟨c1, c2, c3⟩ h⟩
        have c3' := c3
        unfold allQ at c3'
        simp only [e_ret, e_nop, e_bnd, e_ite, e_opM, e_out0, e_outd, e_outn, fz0, fzd, fzl, fzi, bd, bl_, bi, zd, zl, zi, o1, o2, e_var, e_atS, e_s1, e_s2, e_sl, e_toS, e_seq, e_next, e_no, e_drop, e_sret, e_if, e_asg, e_asgp, p_nm, p_tp, p_nil, p_cons, a_bl, a_int, e_noX, e_callM, e_bodyD, dn_next, dn_ret, rp0, rp1, rp2, rp3, rp4, rp5, rp6, rp7, rp8, rp9, rp10, rp11, eq_ii, ne_ii, len_t, len_l, ix_t, ix_l, add_ii, sub_ii, neg_i, lt_ii, le_ii, gt_ii, ge_ii, isN_i, isN_n, notN_i, notN_n, notN_t, e_bin, e_una, e_tst, e_cand, e_cor, e_cnot, e_and, e_or, e_not, e_eif, e_acons, e_tup, e_lst, e_c, e_osome, e_B, e_call0, e_prp, e_met, e_fld, e_mak, e_makM, mkR_ok, e_calO, List.map_cons, List.map_nil, List.cons_append, List.nil_append, List.append_nil, List.getElem?_cons_zero, List.getElem?_cons_succ, List.set_cons_zero, List.set_cons_succ, List.length_cons, List.length_nil, List.length_map, Option.map_some, Option.map_none, reduceIte, Bool.false_eq_true, Bool.not_true, Bool.not_false, decide_true, decide_false, Nat.reduceAdd, Nat.reduceLT, Nat.reduceEqDiff, Nat.zero_add, Nat.lt_add_left_iff_pos, Nat.succ_pos, Nat.zero_lt_succ, few0, few1, few2, few3, mod_ii p0, div_ii (i := (l.length : Int)) (j := m) ⟨p0, by omega⟩, mod_ii q0, div_ii (i := r) ⟨q0, q1⟩, c1, c2, lc_short hm hl, all_map, c3', sl_t, cut_to]
        exact ⟨_, by rw [← List.map_take]⟩
      · refine ⟨fun h => absurd h.2.2 c3, fun _ => ?_⟩
        have c3' := Bool.eq_false_iff.mpr c3
        unfold allQ at c3'
        simp only [e_ret, e_nop, e_bnd, e_ite, e_opM, e_out0, e_outd, e_outn, fz0, fzd, fzl, fzi, bd, bl_, bi, zd, zl, zi, o1, o2, e_var, e_atS, e_s1, e_s2, e_sl, e_toS, e_seq, e_next, e_no, e_drop, e_sret, e_if, e_asg, e_asgp, p_nm, p_tp, p_nil, p_cons, a_bl, a_int, e_noX, e_callM, e_bodyD, dn_next, dn_ret, rp0, rp1, rp2, rp3, rp4, rp5, rp6, rp7, rp8, rp9, rp10, rp11, eq_ii, ne_ii, len_t, len_l, ix_t, ix_l, add_ii, sub_ii, neg_i, lt_ii, le_ii, gt_ii, ge_ii, isN_i, isN_n, notN_i, notN_n, notN_t, e_bin, e_una, e_tst, e_cand, e_cor, e_cnot, e_and, e_or, e_not, e_eif, e_acons, e_tup, e_lst, e_c, e_osome, e_B, e_call0, e_prp, e_met, e_fld, e_mak, e_makM, mkR_ok, e_calO, List.map_cons, List.map_nil, List.cons_append, List.nil_append, List.append_nil, List.getElem?_cons_zero, List.getElem?_cons_succ, List.set_cons_zero, List.set_cons_succ, List.length_cons, List.length_nil, List.length_map, Option.map_some, Option.map_none, reduceIte, Bool.false_eq_true, Bool.not_true, Bool.not_false, decide_true, decide_false, Nat.reduceAdd, Nat.reduceLT, Nat.reduceEqDiff, Nat.zero_add, Nat.lt_add_left_iff_pos, Nat.succ_pos, Nat.zero_lt_succ, few0, few1, few2, few3, mod_ii p0, div_ii (i := (l.length : Int)) (j := m) ⟨p0, by omega⟩, mod_ii q0, div_ii (i := r) ⟨q0, q1⟩, c1, c2, lc_short hm hl, all_map, c3']
        exact ⟨_, _, rfl⟩
    · refine ⟨fun h => absurd h.2.1 c2, fun _ => ?_⟩
      simp only [e_ret, e_nop, e_bnd, e_ite, e_opM, e_out0, e_outd, e_outn, fz0, fzd, fzl, fzi, bd, bl_, bi, zd, zl, zi, o1, o2, e_var, e_atS, e_s1, e_s2, e_sl, e_toS, e_seq, e_next, e_no, e_drop, e_sret, e_if, e_asg, e_asgp, p_nm, p_tp, p_nil, p_cons, a_bl, a_int, e_noX, e_callM, e_bodyD, dn_next, dn_ret, rp0, rp1, rp2, rp3, rp4, rp5, rp6, rp7, rp8, rp9, rp10, rp11, eq_ii, ne_ii, len_t, len_l, ix_t, ix_l, add_ii, sub_ii, neg_i, lt_ii, le_ii, gt_ii, ge_ii, isN_i, isN_n, notN_i, notN_n, notN_t, e_bin, e_una, e_tst, e_cand, e_cor, e_cnot, e_and, e_or, e_not, e_eif, e_acons, e_tup, e_lst, e_c, e_osome, e_B, e_call0, e_prp, e_met, e_fld, e_mak, e_makM, mkR_ok, e_calO, List.map_cons, List.map_nil, List.cons_append, List.nil_append, List.append_nil, List.getElem?_cons_zero, List.getElem?_cons_succ, List.set_cons_zero, List.set_cons_succ, List.length_cons, List.length_nil, List.length_map, Option.map_some, Option.map_none, reduceIte, Bool.false_eq_true, Bool.not_true, Bool.not_false, decide_true, decide_false, Nat.reduceAdd, Nat.reduceLT, Nat.reduceEqDiff, Nat.zero_add, Nat.lt_add_left_iff_pos, Nat.succ_pos, Nat.zero_lt_succ, few0, few1, few2, few3, mod_ii p0, div_ii (i := (l.length : Int)) (j := m) ⟨p0, by omega⟩, mod_ii q0, c1, c2]
      exact ⟨_, _, rfl⟩
  · refine ⟨fun h => absurd h.1 c1, fun _ => ?_⟩
    simp only [e_ret, e_nop, e_bnd, e_ite, e_opM, e_out0, e_outd, e_outn, fz0, fzd, fzl, fzi, bd, bl_, bi, zd, zl, zi, o1, o2, e_var, e_atS, e_s1, e_s2, e_sl, e_toS, e_seq, e_next, e_no, e_drop, e_sret, e_if, e_asg, e_asgp, p_nm, p_tp, p_nil, p_cons, a_bl, a_int, e_noX, e_callM, e_bodyD, dn_next, dn_ret, rp0, rp1, rp2, rp3, rp4, rp5, rp6, rp7, rp8, rp9, rp10, rp11, eq_ii, ne_ii, len_t, len_l, ix_t, ix_l, add_ii, sub_ii, neg_i, lt_ii, le_ii, gt_ii, ge_ii, isN_i, isN_n, notN_i, notN_n, notN_t, e_bin, e_una, e_tst, e_cand, e_cor, e_cnot, e_and, e_or, e_not, e_eif, e_acons, e_tup, e_lst, e_c, e_osome, e_B, e_call0, e_prp, e_met, e_fld, e_mak, e_makM, mkR_ok, e_calO, List.map_cons, List.map_nil, List.cons_append, List.nil_append, List.append_nil, List.getElem?_cons_zero, List.getElem?_cons_succ, List.set_cons_zero, List.set_cons_succ, List.length_cons, List.length_nil, List.length_map, Option.map_some, Option.map_none, reduceIte, Bool.false_eq_true, Bool.not_true, Bool.not_false, decide_true, decide_false, Nat.reduceAdd, Nat.reduceLT, Nat.reduceEqDiff, Nat.zero_add, Nat.lt_add_left_iff_pos, Nat.succ_pos, Nat.zero_lt_succ, few0, few1, few2, few3, mod_ii p0, c1]
    exact ⟨_, _, rfl⟩
theorem short_loop_ok (hL : 0 < l.length) (hl : l.length ≤ 100000) (c : Cond l r m) (least : ∀ m', Cond l r m' → m ≤ m') : f_short_loop [ti l, .int r] = some (.ok (.dat (.tup [ti (l.take m), .int (r / ((l.length / m : Nat) : Int))]))) := by
  have hm := c.le hL
  have h0 := c.pos
  show bodyD 3 b_short_loop _ = _
  rw [bS_eq]
  let P : Nat → Sl → Prop := fun i ρ => ∃ x a b, ρ = [some (.dat (ti l)), some (.dat (.int r)), x, a, b]
  have step : ∀ i d ρ, i + 1 < m → (rngD 1 (l.length - 1))[i]? = some d → P i ρ → ∃ ρ1 ρ2, asgP (.nm 2) d ρ = some ρ1 ∧ (bS ρ1 = some (.next, ρ2) ∨ bS ρ1 = some (.cont, ρ2)) ∧ P (i + 1) ρ2 := by
    rintro i d ρ hi hd ⟨x, a, b, rfl⟩
    obtain ⟨hk, rfl⟩ := rngD_get hd
    have e : (1 : Int) + (i : Nat) = ((i + 1 : Nat) : Int) := by omega
    rw [e]
    obtain ⟨a', b', h2⟩ := (turn_short (r := r) (l := l) (m := i + 1) (by omega) (by omega) hl a b).2 fun h => by have := least _ h; omega
    exact ⟨_, _, by simp only [e_ret, e_nop, e_bnd, e_ite, e_opM, e_out0, e_outd, e_outn, fz0, fzd, fzl, fzi, bd, bl_, bi, zd, zl, zi, o1, o2, e_var, e_atS, e_s1, e_s2, e_sl, e_toS, e_seq, e_next, e_no, e_drop, e_sret, e_if, e_asg, e_asgp, p_nm, p_tp, p_nil, p_cons, a_bl, a_int, e_noX, e_callM, e_bodyD, dn_next, dn_ret, rp0, rp1, rp2, rp3, rp4, rp5, rp6, rp7, rp8, rp9, rp10, rp11, eq_ii, ne_ii, len_t, len_l, ix_t, ix_l, add_ii, sub_ii, neg_i, lt_ii, le_ii, gt_ii, ge_ii, isN_i, isN_n, notN_i, notN_n, notN_t, e_bin, e_una, e_tst, e_cand, e_cor, e_cnot, e_and, e_or, e_not, e_eif, e_acons, e_tup, e_lst, e_c, e_osome, e_B, e_call0, e_prp, e_met, e_fld, e_mak, e_makM, mkR_ok, e_calO, List.map_cons, List.map_nil, List.cons_append, List.nil_append, List.append_nil, List.getElem?_cons_zero, List.getElem?_cons_succ, List.set_cons_zero, List.set_cons_succ, List.length_cons, List.length_nil, List.length_map, Option.map_some, Option.map_none, reduceIte, Bool.false_eq_true, Bool.not_true, Bool.not_false, decide_true, decide_false, Nat.reduceAdd, Nat.reduceLT, Nat.reduceEqDiff, Nat.zero_add, Nat.lt_add_left_iff_pos, Nat.succ_pos, Nat.zero_lt_succ, few0, few1, few2, few3], .inl h2, _, a', b', rfl⟩
  have hr : iOf rng2 (aCons (eC (.int 1)) (aCons (s1M lenF 0) (ret []))) [some (.dat (ti l)), some (.dat (.int r)), none, none, none] = some (.ok (rngD 1 (l.length - 1)), [some (.dat (ti l)), some (.dat (.int r)), none, none, none]) := by
    have := rng2_n (i := 1) (n := l.length) (by omega) hl
    simp only [e_ret, e_nop, e_bnd, e_ite, e_opM, e_out0, e_outd, e_outn, fz0, fzd, fzl, fzi, bd, bl_, bi, zd, zl, zi, o1, o2, e_var, e_atS, e_s1, e_s2, e_sl, e_toS, e_seq, e_next, e_no, e_drop, e_sret, e_if, e_asg, e_asgp, p_nm, p_tp, p_nil, p_cons, a_bl, a_int, e_noX, e_callM, e_bodyD, dn_next, dn_ret, rp0, rp1, rp2, rp3, rp4, rp5, rp6, rp7, rp8, rp9, rp10, rp11, eq_ii, ne_ii, len_t, len_l, ix_t, ix_l, add_ii, sub_ii, neg_i, lt_ii, le_ii, gt_ii, ge_ii, isN_i, isN_n, notN_i, notN_n, notN_t, e_bin, e_una, e_tst, e_cand, e_cor, e_cnot, e_and, e_or, e_not, e_eif, e_acons, e_tup, e_lst, e_c, e_osome, e_B, e_call0, e_prp, e_met, e_fld, e_mak, e_makM, mkR_ok, e_calO, List.map_cons, List.map_nil, List.cons_append, List.nil_append, List.append_nil, List.getElem?_cons_zero, List.getElem?_cons_succ, List.set_cons_zero, List.set_cons_succ, List.length_cons, List.length_nil, List.length_map, Option.map_some, Option.map_none, reduceIte, Bool.false_eq_true, Bool.not_true, Bool.not_false, decide_true, decide_false, Nat.reduceAdd, Nat.reduceLT, Nat.reduceEqDiff, Nat.zero_add, Nat.lt_add_left_iff_pos, Nat.succ_pos, Nat.zero_lt_succ, few0, few1, few2, few3, e_rng]
    rw [show rng2 [.int 1, .int (l.length : Int)] = _ from this]
    rfl
  rcases Nat.lt_or_ge m l.length with hlt | hge
  · obtain ⟨ρ', e1⟩ := for_inv_ret (b := bS) (p := .nm 2) (t := .dat (.tup [ti (l.take m), .int (r / ((l.length / m : Nat) : Int))])) (rngD 1 (l.length - 1)) P [some (.dat (ti l)), some (.dat (.int r)), none, none, none] (m - 1) (.int (1 + ((m - 1 : Nat) : Int)))
      (by unfold rngD; rw [List.getElem?_map, List.getElem?_range (by omega)]; rfl) (fun i d ρ hi hd hp => step i d ρ (by omega) hd hp) ⟨_, _, _, rfl⟩ (by
        rintro ρ ⟨x, a, b, rfl⟩
        have e : (1 : Int) + ((m - 1 : Nat) : Int) = (m : Int) := by omega
        rw [e]
        obtain ⟨ρ, h2⟩ := (turn_short (r := r) (l := l) (m := m) (by omega) (by omega) hl a b).1 c
        exact ⟨_, _, by simp only [e_ret, e_nop, e_bnd, e_ite, e_opM, e_out0, e_outd, e_outn, fz0, fzd, fzl, fzi, bd, bl_, bi, zd, zl, zi, o1, o2, e_var, e_atS, e_s1, e_s2, e_sl, e_toS, e_seq, e_next, e_no, e_drop, e_sret, e_if, e_asg, e_asgp, p_nm, p_tp, p_nil, p_cons, a_bl, a_int, e_noX, e_callM, e_bodyD, dn_next, dn_ret, rp0, rp1, rp2, rp3, rp4, rp5, rp6, rp7, rp8, rp9, rp10, rp11, eq_ii, ne_ii, len_t, len_l, ix_t, ix_l, add_ii, sub_ii, neg_i, lt_ii, le_ii, gt_ii, ge_ii, isN_i, isN_n, notN_i, notN_n, notN_t, e_bin, e_una, e_tst, e_cand, e_cor, e_cnot, e_and, e_or, e_not, e_eif, e_acons, e_tup, e_lst, e_c, e_osome, e_B, e_call0, e_prp, e_met, e_fld, e_mak, e_makM, mkR_ok, e_calO, List.map_cons, List.map_nil, List.cons_append, List.nil_append, List.append_nil, List.getElem?_cons_zero, List.getElem?_cons_succ, List.set_cons_zero, List.set_cons_succ, List.length_cons, List.length_nil, List.length_map, Option.map_some, Option.map_none, reduceIte, Bool.false_eq_true, Bool.not_true, Bool.not_false, decide_true, decide_false, Nat.reduceAdd, Nat.reduceLT, Nat.reduceEqDiff, Nat.zero_add, Nat.lt_add_left_iff_pos, Nat.succ_pos, Nat.zero_lt_succ, few0, few1, few2, few3], h2⟩)
    simp only [e_ret, e_nop, e_bnd, e_ite, e_opM, e_out0, e_outd, e_outn, fz0, fzd, fzl, fzi, bd, bl_, bi, zd, zl, zi, o1, o2, e_var, e_atS, e_s1, e_s2, e_sl, e_toS, e_seq, e_next, e_no, e_drop, e_sret, e_if, e_asg, e_asgp, p_nm, p_tp, p_nil, p_cons, a_bl, a_int, e_noX, e_callM, e_bodyD, dn_next, dn_ret, rp0, rp1, rp2, rp3, rp4, rp5, rp6, rp7, rp8, rp9, rp10, rp11, eq_ii, ne_ii, len_t, len_l, ix_t, ix_l, add_ii, sub_ii, neg_i, lt_ii, le_ii, gt_ii, ge_ii, isN_i, isN_n, notN_i, notN_n, notN_t, e_bin, e_una, e_tst, e_cand, e_cor, e_cnot, e_and, e_or, e_not, e_eif, e_acons, e_tup, e_lst, e_c, e_osome, e_B, e_call0, e_prp, e_met, e_fld, e_mak, e_makM, mkR_ok, e_calO, List.map_cons, List.map_nil, List.cons_append, List.nil_append, List.append_nil, List.getElem?_cons_zero, List.getElem?_cons_succ, List.set_cons_zero, List.set_cons_succ, List.length_cons, List.length_nil, List.length_map, Option.map_some, Option.map_none, reduceIte, Bool.false_eq_true, Bool.not_true, Bool.not_false, decide_true, decide_false, Nat.reduceAdd, Nat.reduceLT, Nat.reduceEqDiff, Nat.zero_add, Nat.lt_add_left_iff_pos, Nat.succ_pos, Nat.zero_lt_succ, few0, few1, few2, few3, e_for, hr, e1]
  · have em : m = l.length := by omega
    obtain ⟨ρ', e1, x, a, b, rfl⟩ := for_inv (b := bS) (p := .nm 2) (rngD 1 (l.length - 1)) P [some (.dat (ti l)), some (.dat (.int r)), none, none, none] (fun i d ρ hd hp => step i d ρ (by have := (rngD_get hd).1; omega) hd hp) ⟨_, _, _, rfl⟩
    simp only [e_ret, e_nop, e_bnd, e_ite, e_opM, e_out0, e_outd, e_outn, fz0, fzd, fzl, fzi, bd, bl_, bi, zd, zl, zi, o1, o2, e_var, e_atS, e_s1, e_s2, e_sl, e_toS, e_seq, e_next, e_no, e_drop, e_sret, e_if, e_asg, e_asgp, p_nm, p_tp, p_nil, p_cons, a_bl, a_int, e_noX, e_callM, e_bodyD, dn_next, dn_ret, rp0, rp1, rp2, rp3, rp4, rp5, rp6, rp7, rp8, rp9, rp10, rp11, eq_ii, ne_ii, len_t, len_l, ix_t, ix_l, add_ii, sub_ii, neg_i, lt_ii, le_ii, gt_ii, ge_ii, isN_i, isN_n, notN_i, notN_n, notN_t, e_bin, e_una, e_tst, e_cand, e_cor, e_cnot, e_and, e_or, e_not, e_eif, e_acons, e_tup, e_lst, e_c, e_osome, e_B, e_call0, e_prp, e_met, e_fld, e_mak, e_makM, mkR_ok, e_calO, List.map_cons, List.map_nil, List.cons_append, List.nil_append, List.append_nil, List.getElem?_cons_zero, List.getElem?_cons_succ, List.set_cons_zero, List.set_cons_succ, List.length_cons, List.length_nil, List.length_map, Option.map_some, Option.map_none, reduceIte, Bool.false_eq_true, Bool.not_true, Bool.not_false, decide_true, decide_false, Nat.reduceAdd, Nat.reduceLT, Nat.reduceEqDiff, Nat.zero_add, Nat.lt_add_left_iff_pos, Nat.succ_pos, Nat.zero_lt_succ, few0, few1, few2, few3, e_for, hr, e1]
    rw [em, List.take_length, Nat.div_self hL]
    simp
end NF

set_option Elab.async false
set_option linter.all false
set_option maxRecDepth 100000
set_option maxHeartbeats 1000000
namespace NF
open SL PM
variable {h l : List Int} {r : Int} {m : Nat}
theorem at_neg {b : Int} (h0 : 0 ≤ b) (hb : b < l.length) : L2.atI (l.map D.int) (-1 - b) = some (.int (l.getD (l.length - 1 - b.toNat) 0)) := by
  rw [atI_ints]
  unfold L2.atI L2.ixN
  rw [if_neg (by omega), if_pos (by omega)]
  obtain ⟨k, rfl⟩ : ∃ k : Nat, b = k := ⟨b.toNat, by omega⟩
  have e : ((-1 : Int) - k + l.length).toNat = l.length - 1 - k := by omega
  have hk : l.length - 1 - k < l.length := by omega
  show (l[((-1 : Int) - k + l.length).toNat]?).map D.int = _
  rw [e]
  simp [hk]
theorem vat_sq (hl : 0 < l.length) (n : Nat) : vat h l r ((n : Int) + 1) = some (sq h l r n) := by
  unfold vat sq
  rw [if_neg (by omega)]
  by_cases c : n < h.length
  · rw [if_pos (by omega), if_pos c]
    have : ((n : Int) + 1 - 1).toNat = n := by omega
    rw [this]
  · rw [if_neg (by omega), if_neg c, if_neg (by omega)]
    have e : ((n : Int) + 1 - h.length - 1) = ((n - h.length : Nat) : Int) := by omega
    rw [e, ← Int.natCast_emod, ← Int.natCast_ediv, Int.toNat_natCast]
theorem row_take (hm : m ≤ l.length) : row (sq h l r) h.length m = l.take m := by
  apply List.ext_getElem
  · simp [row, hm]
  · intro i h1 h2
    have h3 : i < l.length := by simp at h2; omega
    have := sq_loop (h := h) (r := r) h3
    simp [row, this, h3]
theorem row_headN {N : Nat} (hN : N ≤ h.length) : row (sq h l r) 0 N = h.take N := by
  apply List.ext_getElem
  · simp [row, hN]
  · intro i h1 h2
    have h3 : i < h.length := by simp at h2; omega
    simp [row, sq, h3]
theorem sq_short (hm : m ≤ l.length) (h0 : 0 < m) {st : Int} (per : IsPer (sq h l r) m st h.length) : sq h (l.take m) st = sq h l r := by
  have := sq_row h0 per
  rwa [row_take hm, row_head] at this
abbrev wC : Mo Bool := tst (SL.bin gtF (eVar 3) (eC (.int 0)))
abbrev wB : So := sSeq (sAsg 4 (SL.bin subF (s1M lenF 0) (eVar 3)))
  (sSeq (sIf (tst (SL.bin neF (s2M ixF 0 (SL.bin subF (eVar 3) (eC (.int 1)))) (SL.bin subF (s2M ixF 1 (SL.bin subF (una negF (eC (.int 1))) (SL.bin modF (eVar 4) (s1M lenF 1)))) (SL.bin mulF (eVar 2) (SL.bin addF (SL.bin divF (eVar 4) (s1M lenF 1)) (eC (.int 1))))))) (fun ρ => some (.brk, ρ)) (sNext))
  (sAsg 3 (SL.bin subF (eVar 3) (eC (.int 1)))))
theorem plain_eq : b_plain_form = sSeq (sIf (tst (SL.bin eqF (s1M lenF 1) (eC (.int 0)))) (sRet (eTup (aCons (eVar 0) (aCons (eTup (ret [])) (aCons (eC (.int 0)) (ret [])))))) (sNext))
  (sSeq (sAsgP (.tp [.nm 1, .nm 2]) (eCall0 2 f_short_loop [] (aCons (eVar 1) (aCons (eVar 2) (ret [])))))
  (sSeq (sAsg 3 (s1M lenF 0))
  (sSeq (whileF wC wB)
  (sSeq (sAsg 5 (eTup (aCons (eVar 0) (aCons (eVar 1) (aCons (eVar 2) (ret []))))))
  (sRet (eTup (aCons (sSlM slF 0 (ret none) (oSome (eVar 3))) (aCons (eB (one tupF) (aCons (eLc (iOf rng1 (aCons (s1M lenF 1) (ret []))) (.nm 6) (ret true) (eCall0 2 f_value_at [] (aCons (eVar 5) (aCons (SL.bin addF (SL.bin addF (eVar 3) (eC (.int 1))) (eVar 6)) (ret []))))) (ret []))) (aCons (eVar 2) (ret [])))))))))) := rfl
theorem keep_ok {l2 : List Int} {st : Int} {f : Nat → Int} (hl2 : 0 < l2.length) (b2 : l2.length ≤ 100000) (bh : h.length ≤ 100000) (hh : ∀ n, n < h.length → f n = h.getD n 0) (hl : ∀ n, n < l2.length → f (h.length + n) = l2.getD n 0) :
    ∀ (k : Nat) (b : Option T), k ≤ h.length → IsPer f l2.length st k → ∃ (N : Nat) (b' : Option T), whileF wC wB [some (.dat (ti h)), some (.dat (ti l2)), some (.dat (.int st)), some (.dat (.int (k : Int))), b, none, none] =
      some (.next, [some (.dat (ti h)), some (.dat (ti l2)), some (.dat (.int st)), some (.dat (.int (N : Int))), b', none, none]) ∧ N ≤ h.length ∧ IsPer f l2.length st N ∧ (N = 0 ∨ f (N - 1 + l2.length) ≠ f (N - 1) + st)
  | 0, b, _, per => ⟨0, b, by rw [e_while]; simp only [e_ret, e_nop, e_bnd, e_ite, e_opM, e_out0, e_outd, e_outn, fz0, fzd, fzl, fzi, bd, bl_, bi, zd, zl, zi, o1, o2, e_var, e_atS, e_s1, e_s2, e_sl, e_toS, e_seq, e_next, e_no, e_drop, e_sret, e_if, e_asg, e_asgp, p_nm, p_tp, p_nil, p_cons, a_bl, a_int, e_noX, e_callM, e_bodyD, dn_next, dn_ret, rp0, rp1, rp2, rp3, rp4, rp5, rp6, rp7, rp8, rp9, rp10, rp11, eq_ii, ne_ii, len_t, len_l, ix_t, ix_l, add_ii, sub_ii, neg_i, lt_ii, le_ii, gt_ii, ge_ii, isN_i, isN_n, notN_i, notN_n, notN_t, e_bin, e_una, e_tst, e_cand, e_cor, e_cnot, e_and, e_or, e_not, e_eif, e_acons, e_tup, e_lst, e_c, e_osome, e_B, e_call0, e_prp, e_met, e_fld, e_mak, e_makM, mkR_ok, e_calO, List.map_cons, List.map_nil, List.cons_append, List.nil_append, List.append_nil, List.getElem?_cons_zero, List.getElem?_cons_succ, List.set_cons_zero, List.set_cons_succ, List.length_cons, List.length_nil, List.length_map, Option.map_some, Option.map_none, reduceIte, Bool.false_eq_true, Bool.not_true, Bool.not_false, decide_true, decide_false, Nat.reduceAdd, Nat.reduceLT, Nat.reduceEqDiff, Nat.zero_add, Nat.lt_add_left_iff_pos, Nat.succ_pos, Nat.zero_lt_succ, few0, few1, few2, few3]; simp, by omega, per, .inl rfl⟩
  | k + 1, b, hk, per => by
    have p0 : 0 < (l2.length : Int) := by omega
    -- how far back
    obtain ⟨a, c, hc, hb⟩ : ∃ a c, c < l2.length ∧ h.length - (k + 1) = l2.length * a + c := ⟨(h.length - (k + 1)) / l2.length, _, Nat.mod_lt _ hl2, (Nat.div_add_mod _ _).symm⟩
    have ha : a ≤ 100000 := by
      have : a ≤ l2.length * a := Nat.le_mul_of_pos_left _ hl2
      omega
    have e1 : (h.length : Int) - ((k + 1 : Nat) : Int) = ((l2.length * a + c : Nat) : Int) := by omega
    have e2 : ((l2.length * a + c : Nat) : Int) % (l2.length : Int) = (c : Int) := by
      rw [← Int.natCast_emod, Nat.mul_add_mod, Nat.mod_eq_of_lt hc]
    have e3 : ((l2.length * a + c : Nat) : Int) / (l2.length : Int) = (a : Int) := by
      rw [← Int.natCast_ediv, Nat.mul_add_div hl2, Nat.div_eq_of_lt hc, Nat.add_zero]
    have gv : l2.getD (l2.length - 1 - c) 0 - st * ((a : Int) + 1) = f (k + l2.length) - st := by
      have h1 := per.mul a (k + l2.length) (by omega)
      have h2 : k + l2.length + l2.length * a = h.length + (l2.length - 1 - c) := by omega
      rw [h2, hl _ (by omega)] at h1
      rw [Int.mul_add]
      omega
    have t1 : L2.atI (h.map D.int) (((k + 1 : Nat) : Int) - 1) = some (.int (h.getD k 0)) := by
      rw [at_i (by omega) (by omega)]
      congr 3
      omega
    have t2 : L2.atI (l2.map D.int) (-1 - (c : Int)) = some (.int (l2.getD (l2.length - 1 - c) 0)) := by
      rw [at_neg (by omega) (by omega)]
      rfl
    have g0 : decide (((k + 1 : Nat) : Int) > 0) = true := by simp
    have sm : sml ((a : Int) + 1) := by unfold sml; omega
    have fk := hh k (by omega)
    by_cases eq : h.getD k 0 = f (k + l2.length) - st
    · obtain ⟨N, b', w, hN⟩ := keep_ok (st := st) (f := f) hl2 b2 bh hh hl k (some (.dat (.int ((l2.length * a + c : Nat) : Int)))) (by omega) (fun n hn => by
        rcases Nat.eq_or_lt_of_le hn with z | z
        · subst z; rw [fk]; omega
        · exact per n z)
      refine ⟨N, b', ?_, hN⟩
      have e4 : ((k + 1 : Nat) : Int) - 1 = (k : Int) := by omega
      rw [e_while]
      have q : (0 : Int) < ((k + 1 : Nat) : Int) := by omega
      simp only [e_ret, e_nop, e_bnd, e_ite, e_opM, e_out0, e_outd, e_outn, fz0, fzd, fzl, fzi, bd, bl_, bi, zd, zl, zi, o1, o2, e_var, e_atS, e_s1, e_s2, e_sl, e_toS, e_seq, e_next, e_no, e_drop, e_sret, e_if, e_asg, e_asgp, p_nm, p_tp, p_nil, p_cons, a_bl, a_int, e_noX, e_callM, e_bodyD, dn_next, dn_ret, rp0, rp1, rp2, rp3, rp4, rp5, rp6, rp7, rp8, rp9, rp10, rp11, eq_ii, ne_ii, len_t, len_l, ix_t, ix_l, add_ii, sub_ii, neg_i, lt_ii, le_ii, gt_ii, ge_ii, isN_i, isN_n, notN_i, notN_n, notN_t, e_bin, e_una, e_tst, e_cand, e_cor, e_cnot, e_and, e_or, e_not, e_eif, e_acons, e_tup, e_lst, e_c, e_osome, e_B, e_call0, e_prp, e_met, e_fld, e_mak, e_makM, mkR_ok, e_calO, List.map_cons, List.map_nil, List.cons_append, List.nil_append, List.append_nil, List.getElem?_cons_zero, List.getElem?_cons_succ, List.set_cons_zero, List.set_cons_succ, List.length_cons, List.length_nil, List.length_map, Option.map_some, Option.map_none, reduceIte, Bool.false_eq_true, Bool.not_true, Bool.not_false, decide_true, decide_false, Nat.reduceAdd, Nat.reduceLT, Nat.reduceEqDiff, Nat.zero_add, Nat.lt_add_left_iff_pos, Nat.succ_pos, Nat.zero_lt_succ, few0, few1, few2, few3, q, e1, mod_ii p0, e2, div_ii (i := ((l2.length * a + c : Nat) : Int)) ⟨p0, by omega⟩, e3, mul_ii (i := st) (.inr sm), t1, t2, gv, eq, decide_true]
      rw [e4]
      exact w
    · refine ⟨k + 1, some (.dat (.int ((l2.length * a + c : Nat) : Int))), ?_, hk, per, .inr ?_⟩
      · rw [e_while]
        have q : (0 : Int) < ((k + 1 : Nat) : Int) := by omega
        simp only [e_ret, e_nop, e_bnd, e_ite, e_opM, e_out0, e_outd, e_outn, fz0, fzd, fzl, fzi, bd, bl_, bi, zd, zl, zi, o1, o2, e_var, e_atS, e_s1, e_s2, e_sl, e_toS, e_seq, e_next, e_no, e_drop, e_sret, e_if, e_asg, e_asgp, p_nm, p_tp, p_nil, p_cons, a_bl, a_int, e_noX, e_callM, e_bodyD, dn_next, dn_ret, rp0, rp1, rp2, rp3, rp4, rp5, rp6, rp7, rp8, rp9, rp10, rp11, eq_ii, ne_ii, len_t, len_l, ix_t, ix_l, add_ii, sub_ii, neg_i, lt_ii, le_ii, gt_ii, ge_ii, isN_i, isN_n, notN_i, notN_n, notN_t, e_bin, e_una, e_tst, e_cand, e_cor, e_cnot, e_and, e_or, e_not, e_eif, e_acons, e_tup, e_lst, e_c, e_osome, e_B, e_call0, e_prp, e_met, e_fld, e_mak, e_makM, mkR_ok, e_calO, List.map_cons, List.map_nil, List.cons_append, List.nil_append, List.append_nil, List.getElem?_cons_zero, List.getElem?_cons_succ, List.set_cons_zero, List.set_cons_succ, List.length_cons, List.length_nil, List.length_map, Option.map_some, Option.map_none, reduceIte, Bool.false_eq_true, Bool.not_true, Bool.not_false, decide_true, decide_false, Nat.reduceAdd, Nat.reduceLT, Nat.reduceEqDiff, Nat.zero_add, Nat.lt_add_left_iff_pos, Nat.succ_pos, Nat.zero_lt_succ, few0, few1, few2, few3, q, e1, mod_ii p0, e2, div_ii (i := ((l2.length * a + c : Nat) : Int)) ⟨p0, by omega⟩, e3, mul_ii (i := st) (.inr sm), t1, t2, gv, eq]
      · show f (k + l2.length) ≠ f k + st
        rw [fk]; omega
theorem plain_form_nil (h : List Int) (r : Int) : f_plain_form [ti h, ti [], .int r] = some (.ok (.dat (raw h [] 0))) := by
  show bodyD 4 b_plain_form _ = _
  rw [plain_eq]
  simp only [e_ret, e_nop, e_bnd, e_ite, e_opM, e_out0, e_outd, e_outn, fz0, fzd, fzl, fzi, bd, bl_, bi, zd, zl, zi, o1, o2, e_var, e_atS, e_s1, e_s2, e_sl, e_toS, e_seq, e_next, e_no, e_drop, e_sret, e_if, e_asg, e_asgp, p_nm, p_tp, p_nil, p_cons, a_bl, a_int, e_noX, e_callM, e_bodyD, dn_next, dn_ret, rp0, rp1, rp2, rp3, rp4, rp5, rp6, rp7, rp8, rp9, rp10, rp11, eq_ii, ne_ii, len_t, len_l, ix_t, ix_l, add_ii, sub_ii, neg_i, lt_ii, le_ii, gt_ii, ge_ii, isN_i, isN_n, notN_i, notN_n, notN_t, e_bin, e_una, e_tst, e_cand, e_cor, e_cnot, e_and, e_or, e_not, e_eif, e_acons, e_tup, e_lst, e_c, e_osome, e_B, e_call0, e_prp, e_met, e_fld, e_mak, e_makM, mkR_ok, e_calO, List.map_cons, List.map_nil, List.cons_append, List.nil_append, List.append_nil, List.getElem?_cons_zero, List.getElem?_cons_succ, List.set_cons_zero, List.set_cons_succ, List.length_cons, List.length_nil, List.length_map, Option.map_some, Option.map_none, reduceIte, Bool.false_eq_true, Bool.not_true, Bool.not_false, decide_true, decide_false, Nat.reduceAdd, Nat.reduceLT, Nat.reduceEqDiff, Nat.zero_add, Nat.lt_add_left_iff_pos, Nat.succ_pos, Nat.zero_lt_succ, few0, few1, few2, few3]
  rfl
theorem plain_form_ok (hL : 0 < l.length) (bl : l.length ≤ 100000) (bh : h.length ≤ 100000) (r0 : 0 ≤ r) (rs : sml r) : ∃ h2 l2 r2, Plain (sq h l r) h2 l2 r2 ∧ f_plain_form [ti h, ti l, .int r] = some (.ok (.dat (raw h2 l2 r2))) ∧ h2.length ≤ h.length ∧ l2.length ≤ l.length ∧ 0 ≤ r2 ∧ sml r2 ∧ r2 ≤ r := by
  obtain ⟨m, c, least, m0, mL⟩ := least_cond hL r
  have per := (c.ok (h := h) hL).2.2
  have st0 : 0 ≤ r / ((l.length / m : Nat) : Int) := Int.ediv_nonneg r0 (Int.natCast_nonneg _)
  have sts : sml (r / ((l.length / m : Nat) : Int)) := by
    have := Int.ediv_le_self ((l.length / m : Nat) : Int) r0
    unfold sml at rs ⊢
    omega
  have stl : r / ((l.length / m : Nat) : Int) ≤ r := Int.ediv_le_self _ r0
  have sl := short_loop_ok hL bl c least
  have ln : (l.take m).length = m := by rw [List.length_take]; omega
  generalize r / ((l.length / m : Nat) : Int) = st at *
  obtain ⟨N, b', w, hN, perN, tight⟩ := keep_ok (h := h) (l2 := l.take m) (st := st) (f := sq h l r) (by omega) (by omega) bh (fun n hn => sq_head hn) (fun n hn => by
    rw [sq_loop (by omega)]
    rw [ln] at hn
    simp [List.getD, hn]) h.length none (Nat.le_refl _) (by rw [ln]; exact per)
  rw [ln] at perN tight
  have sqe := sq_short mL m0 per
  refine ⟨row (sq h l r) 0 N, row (sq h l r) N m, st, ?_, ?_, by rw [row_length]; exact hN, by rw [row_length]; exact mL, st0, sts, stl⟩
  · have cst : st = r / ((l.length / m : Nat) : Int) := (Cond.of_ok (h := h) ⟨m0, by
      obtain ⟨_, h2, _⟩ := c.ok (h := h) hL
      obtain ⟨k, e1, e2⟩ := h2
      exact ⟨k, e1, by rw [e2]; congr 1; exact (IsPer.rise (c.ok (h := h) hL).2.2 per)⟩, per⟩ hL).2
    rw [cst] at perN tight ⊢
    exact plain_of hL c least perN tight
  · show bodyD 4 b_plain_form _ = _
    rw [plain_eq]
    have nz : ¬ (l.length : Int) = 0 := by omega
    have hc : eLc (iOf rng1 (aCons (s1M lenF 1) (ret []))) (.nm 6) (ret true) (eCall0 2 f_value_at [] (aCons (eVar 5) (aCons (SL.bin addF (SL.bin addF (eVar 3) (eC (.int 1))) (eVar 6)) (ret [])))) [some (.dat (ti h)), some (.dat (ti (l.take m))), some (.dat (.int st)), some (.dat (.int (N : Int))), b', some (.dat (raw h (l.take m) st)), none] =
        some (.ok (.lst false ((row (sq h l r) N m).map .int)), [some (.dat (ti h)), some (.dat (ti (l.take m))), some (.dat (.int st)), some (.dat (.int (N : Int))), b', some (.dat (raw h (l.take m) st)), none]) := by
      rw [e_lc (xs := rngD 0 m) (ρ1 := [some (.dat (ti h)), some (.dat (ti (l.take m))), some (.dat (.int st)), some (.dat (.int (N : Int))), b', some (.dat (raw h (l.take m) st)), none]) (fun d => match d with | .int i => .int (sq h l r (N + i.toNat)) | _ => .non) ?_ (by simp) (by simp [rngD]; omega) (fun x hx => ?_)]
      · simp [rngD, row, List.map_map, Function.comp_def]
      · simp only [e_ret, e_nop, e_bnd, e_ite, e_opM, e_out0, e_outd, e_outn, fz0, fzd, fzl, fzi, bd, bl_, bi, zd, zl, zi, o1, o2, e_var, e_atS, e_s1, e_s2, e_sl, e_toS, e_seq, e_next, e_no, e_drop, e_sret, e_if, e_asg, e_asgp, p_nm, p_tp, p_nil, p_cons, a_bl, a_int, e_noX, e_callM, e_bodyD, dn_next, dn_ret, rp0, rp1, rp2, rp3, rp4, rp5, rp6, rp7, rp8, rp9, rp10, rp11, eq_ii, ne_ii, len_t, len_l, ix_t, ix_l, add_ii, sub_ii, neg_i, lt_ii, le_ii, gt_ii, ge_ii, isN_i, isN_n, notN_i, notN_n, notN_t, e_bin, e_una, e_tst, e_cand, e_cor, e_cnot, e_and, e_or, e_not, e_eif, e_acons, e_tup, e_lst, e_c, e_osome, e_B, e_call0, e_prp, e_met, e_fld, e_mak, e_makM, mkR_ok, e_calO, List.map_cons, List.map_nil, List.cons_append, List.nil_append, List.append_nil, List.getElem?_cons_zero, List.getElem?_cons_succ, List.set_cons_zero, List.set_cons_succ, List.length_cons, List.length_nil, List.length_map, Option.map_some, Option.map_none, reduceIte, Bool.false_eq_true, Bool.not_true, Bool.not_false, decide_true, decide_false, Nat.reduceAdd, Nat.reduceLT, Nat.reduceEqDiff, Nat.zero_add, Nat.lt_add_left_iff_pos, Nat.succ_pos, Nat.zero_lt_succ, few0, few1, few2, few3, e_rng, ln, rng1_n (n := m) (by omega)]
      · simp only [rngD, List.mem_map, List.mem_range] at hx
        obtain ⟨k, hk, rfl⟩ := hx
        have e : (N : Int) + 1 + (0 + (k : Int)) = ((N + k : Nat) : Int) + 1 := by omega
        refine ⟨.dat (.int (sq h l r (N + k))), ?_, rfl, ?_⟩
        · simp only [e_ret, e_nop, e_bnd, e_ite, e_opM, e_out0, e_outd, e_outn, fz0, fzd, fzl, fzi, bd, bl_, bi, zd, zl, zi, o1, o2, e_var, e_atS, e_s1, e_s2, e_sl, e_toS, e_seq, e_next, e_no, e_drop, e_sret, e_if, e_asg, e_asgp, p_nm, p_tp, p_nil, p_cons, a_bl, a_int, e_noX, e_callM, e_bodyD, dn_next, dn_ret, rp0, rp1, rp2, rp3, rp4, rp5, rp6, rp7, rp8, rp9, rp10, rp11, eq_ii, ne_ii, len_t, len_l, ix_t, ix_l, add_ii, sub_ii, neg_i, lt_ii, le_ii, gt_ii, ge_ii, isN_i, isN_n, notN_i, notN_n, notN_t, e_bin, e_una, e_tst, e_cand, e_cor, e_cnot, e_and, e_or, e_not, e_eif, e_acons, e_tup, e_lst, e_c, e_osome, e_B, e_call0, e_prp, e_met, e_fld, e_mak, e_makM, mkR_ok, e_calO, List.map_cons, List.map_nil, List.cons_append, List.nil_append, List.append_nil, List.getElem?_cons_zero, List.getElem?_cons_succ, List.set_cons_zero, List.set_cons_succ, List.length_cons, List.length_nil, List.length_map, Option.map_some, Option.map_none, reduceIte, Bool.false_eq_true, Bool.not_true, Bool.not_false, decide_true, decide_false, Nat.reduceAdd, Nat.reduceLT, Nat.reduceEqDiff, Nat.zero_add, Nat.lt_add_left_iff_pos, Nat.succ_pos, Nat.zero_lt_succ, few0, few1, few2, few3]
          rw [e]
          simp only [e_ret, e_nop, e_bnd, e_ite, e_opM, e_out0, e_outd, e_outn, fz0, fzd, fzl, fzi, bd, bl_, bi, zd, zl, zi, o1, o2, e_var, e_atS, e_s1, e_s2, e_sl, e_toS, e_seq, e_next, e_no, e_drop, e_sret, e_if, e_asg, e_asgp, p_nm, p_tp, p_nil, p_cons, a_bl, a_int, e_noX, e_callM, e_bodyD, dn_next, dn_ret, rp0, rp1, rp2, rp3, rp4, rp5, rp6, rp7, rp8, rp9, rp10, rp11, eq_ii, ne_ii, len_t, len_l, ix_t, ix_l, add_ii, sub_ii, neg_i, lt_ii, le_ii, gt_ii, ge_ii, isN_i, isN_n, notN_i, notN_n, notN_t, e_bin, e_una, e_tst, e_cand, e_cor, e_cnot, e_and, e_or, e_not, e_eif, e_acons, e_tup, e_lst, e_c, e_osome, e_B, e_call0, e_prp, e_met, e_fld, e_mak, e_makM, mkR_ok, e_calO, List.map_cons, List.map_nil, List.cons_append, List.nil_append, List.append_nil, List.getElem?_cons_zero, List.getElem?_cons_succ, List.set_cons_zero, List.set_cons_succ, List.length_cons, List.length_nil, List.length_map, Option.map_some, Option.map_none, reduceIte, Bool.false_eq_true, Bool.not_true, Bool.not_false, decide_true, decide_false, Nat.reduceAdd, Nat.reduceLT, Nat.reduceEqDiff, Nat.zero_add, Nat.lt_add_left_iff_pos, Nat.succ_pos, Nat.zero_lt_succ, few0, few1, few2, few3, value_at_ok (h := h) (l := l.take m) (r := st) (p := ((N + k : Nat) : Int) + 1) (by omega) sts (by omega), vat_sq (h := h) (r := st) (l := l.take m) (by omega) (N + k), sqe, oD]
        · simp [T.fz]
    simp only [e_ret, e_nop, e_bnd, e_ite, e_opM, e_out0, e_outd, e_outn, fz0, fzd, fzl, fzi, bd, bl_, bi, zd, zl, zi, o1, o2, e_var, e_atS, e_s1, e_s2, e_sl, e_toS, e_seq, e_next, e_no, e_drop, e_sret, e_if, e_asg, e_asgp, p_nm, p_tp, p_nil, p_cons, a_bl, a_int, e_noX, e_callM, e_bodyD, dn_next, dn_ret, rp0, rp1, rp2, rp3, rp4, rp5, rp6, rp7, rp8, rp9, rp10, rp11, eq_ii, ne_ii, len_t, len_l, ix_t, ix_l, add_ii, sub_ii, neg_i, lt_ii, le_ii, gt_ii, ge_ii, isN_i, isN_n, notN_i, notN_n, notN_t, e_bin, e_una, e_tst, e_cand, e_cor, e_cnot, e_and, e_or, e_not, e_eif, e_acons, e_tup, e_lst, e_c, e_osome, e_B, e_call0, e_prp, e_met, e_fld, e_mak, e_makM, mkR_ok, e_calO, List.map_cons, List.map_nil, List.cons_append, List.nil_append, List.append_nil, List.getElem?_cons_zero, List.getElem?_cons_succ, List.set_cons_zero, List.set_cons_succ, List.length_cons, List.length_nil, List.length_map, Option.map_some, Option.map_none, reduceIte, Bool.false_eq_true, Bool.not_true, Bool.not_false, decide_true, decide_false, Nat.reduceAdd, Nat.reduceLT, Nat.reduceEqDiff, Nat.zero_add, Nat.lt_add_left_iff_pos, Nat.succ_pos, Nat.zero_lt_succ, few0, few1, few2, few3, nz, sl, w, hc, sl_t, cut_to, tupF]
    rw [row_headN hN, ← List.map_take]
end NF

set_option Elab.async false
set_option linter.all false
set_option maxRecDepth 100000
set_option maxHeartbeats 1000000
namespace NF
open SL PM
variable {h l : List Int} {r : Int} {m : Nat} {dh dl : D}
theorem Lk.tupF (hh : Lk h dh) : tupF dh = some (.dt (ti h)) := by cases hh <;> rfl
theorem Lk.lstF (hh : Lk h dh) : lstF dh = some (.nl (h.map .int)) := by cases hh <;> rfl
theorem int_i (i : Int) : intF [.int i] = some (.dt (.int i)) := rfl
abbrev tC : Mo Bool := cOr (tst (SL.bin neF (SL.bin mulF (eVar 5) (eVar 4)) (s1M lenF 1))) (tst (SL.bin neF (SL.bin modF (eB intF (aCons (eVar 2) (ret []))) (eVar 5)) (eC (.int 0))))
end NF

set_option Elab.async false
set_option linter.all false
set_option maxRecDepth 100000
set_option maxHeartbeats 1000000
namespace NF
open SL PM
variable {h l : List Int} {r : Int} {m : Nat} {dh dl : D}
end NF

set_option Elab.async false
set_option linter.all false
set_option maxRecDepth 100000
set_option maxHeartbeats 1000000
namespace NF
open SL PM
variable {h l : List Int} {r : Int} {m : Nat} {dh dl : D}
end NF

section
open SL PM
local macro_rules | `(tactic| and_intros) => `(tactic| repeat (first
  | (with_reducible first
    | refine ws_seq ?_ | refine ws_asg ?_ | refine ws_if ?_ | refine ws_ret ?_ | refine ws_next ?_ | refine ws_asgp ?_ | refine ws_par ?_ | refine ws_par3 ?_ | refine ws_drop ?_ | refine ws_for ?_ | refine ws_setI ?_ | refine ws_fset ?_
    | refine we_c ?_ | refine we_bin ?_ | refine we_tst ?_ | refine wa_nil ?_ | refine wa_cons ?_ | refine we_call0 ?_ | refine fd_d ?_ | refine bl_i ?_
    | refine we_una ?_ | refine we_cand ?_ | refine we_cor ?_ | refine we_cnot ?_ | refine we_and ?_ | refine we_or ?_ | refine we_not ?_ | refine we_if ?_ | refine we_tup0 ?_ | refine we_lst0 ?_ | refine we_tup ?_ | refine we_lst ?_ | refine we_B ?_
    | refine we_eSl ?_ | refine wo_none ?_ | refine wo_some ?_ | refine we_callT ?_ | refine we_mak ?_ | refine we_met ?_ | refine we_prp ?_ | refine we_fld ?_ | refine we_cal ?_ | refine we_metX ?_ | refine we_callX ?_ | refine we_makX ?_ | refine we_xf ?_ | refine we_calX ?_ | refine we_dic0 ?_ | refine op_isX ?_ | refine wi_seq ?_ | refine wi_of ?_ | refine wt_nil ?_ | refine wt_cons ?_
    | refine fd_l ?_ | refine fd_i ?_
    | refine sq_next ?_ | refine sq_ret ?_ | refine sq_brk ?_ | refine sq_cont ?_ | refine lq_next ?_ | refine lq_ret ?_ | refine lq_brk ?_ | refine lq_cont ?_ | refine rq_d ?_ | refine rq_l ?_ | refine rq_i ?_ | refine rq_n ?_
    | refine br_true ?_ | refine br_false ?_ | refine br_not ?_ | refine br_or_t ?_ | refine br_or_f ?_ | refine br_and_t ?_ | refine br_and_f ?_
    | refine op_all2 ?_ | refine op_any2 ?_ | refine op_len1 ?_ | refine op_len2 ?_ | refine op_len3 ?_ | refine op_len4 ?_ | refine op_eqb ?_ | refine op_add ?_ | refine op_sub' ?_ | refine op_eqi ?_ | refine op_lt' ?_ | refine op_le' ?_ | refine op_gt' ?_ | refine op_ge' ?_ | refine op_nei ?_ | refine op_isi ?_ | refine op_isn ?_ | refine op_noi ?_ | refine op_non ?_ | refine op_neg ?_
    | refine ap_nm ?_ | refine ap_tp ?_ | refine aps_nil ?_ | refine aps_cons ?_ | refine ws_brk ?_ | refine ws_cont ?_ | refine ws_retN ?_)
  | ((with_reducible apply we_var); exact rfl) | ((with_reducible apply we_s2d); exact rfl) | ((with_reducible apply we_s1d); exact rfl) | ((with_reducible apply we_s2l); exact rfl) | ((with_reducible apply we_s1l); exact rfl)
  | ((with_reducible apply we_sSld); exact rfl) | ((with_reducible apply we_sSll); exact rfl) | ((with_reducible apply we_callBl); exact rfl) | ((with_reducible apply ws_appl); exact rfl) | ((with_reducible apply ws_aug); exact rfl)
  | ((with_reducible apply st_i); (simp only [List.set_cons_succ, List.set_cons_zero]; exact rfl); (simp only [List.length_cons, List.length_nil]; decide))
  | ((with_reducible apply rl_d); exact rfl) | ((with_reducible apply rl_l); exact rfl)
  | ((with_reducible refine br_dt ?_ ?_); with_reducible assumption) | ((with_reducible refine br_df ?_ ?_); with_reducible assumption)
  | ((with_reducible refine op_mul' ?_ ?_); first | (with_reducible assumption) | (left; with_reducible assumption) | (right; with_reducible assumption) | skip) | ((with_reducible refine op_div' ?_ ?_); first | (with_reducible assumption) | omega | skip) | ((with_reducible refine op_mod' ?_ ?_); first | (with_reducible assumption) | omega | skip)
  | ((with_reducible refine op_lrgz ?_ ?_); first | decide | omega | skip) | ((with_reducible refine op_addl ?_ ?_); first | (simp only [rngD_length, List.length_map, List.length_cons, List.length_nil]; first | done | decide | omega) | skip) | ((with_reducible refine op_addt ?_ ?_); first | (simp only [rngD_length, List.length_map, List.length_cons, List.length_nil]; first | done | decide | omega) | skip)
  | ((with_reducible apply op_dt); exact rfl) | ((with_reducible apply op_nl); exact rfl)
  | ((with_reducible apply we_varl); exact rfl; (simp only [List.set_cons_succ, List.set_cons_zero]; exact rfl)) | ((with_reducible apply we_s1i); exact rfl) | ((with_reducible apply we_idxd); exact rfl) | ((with_reducible apply we_idxl); exact rfl) | ((with_reducible apply we_vari); exact rfl; (simp only [List.set_cons_succ, List.set_cons_zero]; exact rfl))
  | ((with_reducible refine ob_i ?_ ?_); decide)
  | ((with_reducible refine And.intro ?_ ?_); exact rfl) | ((with_reducible refine And.intro ?_ ?_); (simp only [List.length_cons, List.length_nil]; decide))
  | (with_reducible first | refine ex_it_t ?_ | refine ex_it_l ?_ | refine ex_it_s ?_ | refine ex_int ?_ | refine ex_tint ?_ | refine ex_lst ?_ | refine ex_obj ?_ | refine ex_three ?_ | rfl)))
local macro_rules | `(tactic| infer_instance) => `(tactic| repeat (first
  | (with_reducible first
    | refine ws_asg ?_ | refine ws_if ?_ | refine ws_ret ?_ | refine ws_next ?_ | refine ws_asgp ?_ | refine ws_par ?_ | refine ws_par3 ?_ | refine ws_drop ?_ | refine ws_for ?_ | refine ws_setI ?_ | refine ws_fset ?_
    | refine we_c ?_ | refine we_bin ?_ | refine we_tst ?_ | refine wa_nil ?_ | refine wa_cons ?_ | refine we_call0 ?_ | refine fd_d ?_ | refine bl_i ?_
    | refine we_una ?_ | refine we_cand ?_ | refine we_cor ?_ | refine we_cnot ?_ | refine we_and ?_ | refine we_or ?_ | refine we_not ?_ | refine we_if ?_ | refine we_tup0 ?_ | refine we_lst0 ?_ | refine we_tup ?_ | refine we_lst ?_ | refine we_B ?_
    | refine we_eSl ?_ | refine wo_none ?_ | refine wo_some ?_ | refine we_callT ?_ | refine we_mak ?_ | refine we_met ?_ | refine we_prp ?_ | refine we_fld ?_ | refine we_cal ?_ | refine we_metX ?_ | refine we_callX ?_ | refine we_makX ?_ | refine we_xf ?_ | refine we_calX ?_ | refine we_dic0 ?_ | refine op_isX ?_ | refine wi_seq ?_ | refine wi_of ?_ | refine wt_nil ?_ | refine wt_cons ?_
    | refine fd_l ?_ | refine fd_i ?_
    | refine sq_next ?_ | refine sq_ret ?_ | refine sq_brk ?_ | refine sq_cont ?_ | refine lq_next ?_ | refine lq_ret ?_ | refine lq_brk ?_ | refine lq_cont ?_ | refine rq_d ?_ | refine rq_l ?_ | refine rq_i ?_ | refine rq_n ?_
    | refine br_true ?_ | refine br_false ?_ | refine br_not ?_ | refine br_or_t ?_ | refine br_or_f ?_ | refine br_and_t ?_ | refine br_and_f ?_
    | refine op_all2 ?_ | refine op_any2 ?_ | refine op_len1 ?_ | refine op_len2 ?_ | refine op_len3 ?_ | refine op_len4 ?_ | refine op_eqb ?_ | refine op_add ?_ | refine op_sub' ?_ | refine op_eqi ?_ | refine op_lt' ?_ | refine op_le' ?_ | refine op_gt' ?_ | refine op_ge' ?_ | refine op_nei ?_ | refine op_isi ?_ | refine op_isn ?_ | refine op_noi ?_ | refine op_non ?_ | refine op_neg ?_
    | refine ap_nm ?_ | refine ap_tp ?_ | refine aps_nil ?_ | refine aps_cons ?_ | refine ws_brk ?_ | refine ws_cont ?_ | refine ws_retN ?_)
  | ((with_reducible apply we_var); exact rfl) | ((with_reducible apply we_s2d); exact rfl) | ((with_reducible apply we_s1d); exact rfl) | ((with_reducible apply we_s2l); exact rfl) | ((with_reducible apply we_s1l); exact rfl)
  | ((with_reducible apply we_sSld); exact rfl) | ((with_reducible apply we_sSll); exact rfl) | ((with_reducible apply we_callBl); exact rfl) | ((with_reducible apply ws_appl); exact rfl) | ((with_reducible apply ws_aug); exact rfl)
  | ((with_reducible apply st_i); (simp only [List.set_cons_succ, List.set_cons_zero]; exact rfl); (simp only [List.length_cons, List.length_nil]; decide))
  | ((with_reducible apply rl_d); exact rfl) | ((with_reducible apply rl_l); exact rfl)
  | ((with_reducible refine br_dt ?_ ?_); with_reducible assumption) | ((with_reducible refine br_df ?_ ?_); with_reducible assumption)
  | ((with_reducible refine op_mul' ?_ ?_); first | (with_reducible assumption) | (left; with_reducible assumption) | (right; with_reducible assumption) | skip) | ((with_reducible refine op_div' ?_ ?_); first | (with_reducible assumption) | omega | skip) | ((with_reducible refine op_mod' ?_ ?_); first | (with_reducible assumption) | omega | skip)
  | ((with_reducible refine op_lrgz ?_ ?_); first | decide | omega | skip) | ((with_reducible refine op_addl ?_ ?_); first | (simp only [rngD_length, List.length_map, List.length_cons, List.length_nil]; first | done | decide | omega) | skip) | ((with_reducible refine op_addt ?_ ?_); first | (simp only [rngD_length, List.length_map, List.length_cons, List.length_nil]; first | done | decide | omega) | skip)
  | ((with_reducible apply op_dt); exact rfl) | ((with_reducible apply op_nl); exact rfl)
  | ((with_reducible apply we_varl); exact rfl; (simp only [List.set_cons_succ, List.set_cons_zero]; exact rfl)) | ((with_reducible apply we_s1i); exact rfl) | ((with_reducible apply we_idxd); exact rfl) | ((with_reducible apply we_idxl); exact rfl) | ((with_reducible apply we_vari); exact rfl; (simp only [List.set_cons_succ, List.set_cons_zero]; exact rfl))
  | ((with_reducible refine ob_i ?_ ?_); decide)
  | ((with_reducible refine And.intro ?_ ?_); exact rfl) | ((with_reducible refine And.intro ?_ ?_); (simp only [List.length_cons, List.length_nil]; decide))
  | (with_reducible first | refine ex_it_t ?_ | refine ex_it_l ?_ | refine ex_it_s ?_ | refine ex_int ?_ | refine ex_tint ?_ | refine ex_lst ?_ | refine ex_obj ?_ | refine ex_three ?_ | rfl)))

set_option Elab.async false
set_option linter.all false
set_option maxRecDepth 100000
set_option maxHeartbeats 1000000
namespace NF
open SL PM

variable {h l : List Int} {r : Int} {m : Nat} {dh dl : D}
structure Val (h l : List Int) (r : Int) : Prop where
  bh : h.length ≤ 50000
  bl : l.length ≤ 50000
  nh : (h.all fun i => decide (0 ≤ i)) = true
  nl : (l.all fun i => decide (0 ≤ i)) = true
  rh : ris h = true
  rl : ris l = true
  hl : 0 < h.length → 0 < l.length → h.getD (h.length - 1) 0 ≤ l.getD 0 0
  r0 : 0 ≤ r
  rs : sml r
  rn : l.length = 0 → r = 0
  lr : 0 < l.length → l.getD (l.length - 1) 0 ≤ l.getD 0 0 + r
/-- what a plain form is -/
def PR (h l : List Int) (r : Int) (h2 l2 : List Int) (r2 : Int) : Prop := (l = [] ∧ h2 = h ∧ l2 = [] ∧ r2 = 0) ∨ (0 < l.length ∧ Plain (sq h l r) h2 l2 r2)
theorem PR.uniq {h2 l2 h3 l3 : List Int} {r2 r3 : Int} (a : PR h l r h2 l2 r2) (b : PR h l r h3 l3 r3) : h2 = h3 ∧ l2 = l3 ∧ r2 = r3 := by
  rcases a with ⟨rfl, rfl, rfl, rfl⟩ | ⟨a0, a⟩
  · rcases b with ⟨_, rfl, rfl, rfl⟩ | ⟨b0, _⟩
    · exact ⟨rfl, rfl, rfl⟩
    · exact absurd b0 (by simp)
  · rcases b with ⟨rfl, rfl, rfl, rfl⟩ | ⟨b0, b⟩
    · exact absurd a0 (by simp)
    · exact a.uniq b
theorem plain_allP (v : Val h l r) : ∃ h2 l2 r2, PR h l r h2 l2 r2 ∧ f_plain_form [ti h, ti l, .int r] = some (.ok (.dat (raw h2 l2 r2))) ∧ h2.length ≤ h.length ∧ l2.length ≤ l.length ∧ 0 ≤ r2 ∧ sml r2 ∧ r2 ≤ r := by
  rcases Nat.eq_zero_or_pos l.length with z | z
  · have : l = [] := List.eq_nil_of_length_eq_zero z
    subst this
    exact ⟨h, [], 0, .inl ⟨rfl, rfl, rfl, rfl⟩, plain_form_nil h r, Nat.le_refl _, Nat.le_refl _, by omega, by unfold sml; omega, v.r0⟩
  · obtain ⟨h2, l2, r2, p, e, b1, b2, b3, b4, b5⟩ := plain_form_ok (h := h) z (Nat.le_trans v.bl (by decide)) (Nat.le_trans v.bh (by decide)) v.r0 v.rs
    exact ⟨h2, l2, r2, .inr ⟨z, p⟩, e, b1, b2, b3, b4, b5⟩
theorem checked_ok (v : Val h l r) (hh : Lk h dh) (hl : Lk l dl) {d : D} (hp : f_plain_form [ti h, ti l, .int r] = some (.ok (.dat d))) : f_checked_table [dh, dl, .int r] = some (.ok (.dat d)) := by
  have bh := Nat.le_trans v.bh (show 50000 ≤ 100000 by decide)
  have bl := Nat.le_trans v.bl (show 50000 ≤ 100000 by decide)
  unfold f_checked_table b_checked_table
  refine cl_eq (cl_body (by simp only [List.map_cons, List.map_nil, List.cons_append, List.nil_append, List.append_nil, rp0, rp1, rp2, rp3, rp4, rp5, rp6, rp7, rp8, rp9, rp10, rp11, rp12, rp13, rp14, rp15, rp16, rp17, rp18, rp19]; exact rfl) ?_)
  and_intros
  refine cl_d (is_counts_ok hh bh) ?_
  rw [v.nh]
  and_intros
  refine cl_d (is_rising_ok hh bh) ?_
  rw [v.rh]
  and_intros
  refine cl_d (is_counts_ok hl bl) ?_
  rw [v.nl]
  and_intros
  refine cl_d (is_rising_ok hl bl) ?_
  rw [v.rl]
  infer_instance
  refine ws_seq (Ws.mono (P := fun fl ρ => fl = .next ∧ ρ = [some (.dat dh), some (.dat dl), some (.dat (.int r))]) ?_ ?_)
  · and_intros
    refine op_dt hh.len ?_
    and_intros
    refine br_ds (fun a => ?_) (fun a => ?_)
    · and_intros
      refine op_dt hl.len ?_
      and_intros
      refine br_ds (fun b => ?_) (fun b => ?_)
      · and_intros
        refine op_dt (hl.ix (i := 0) (by omega) (by omega)) ?_
        and_intros
        refine op_dt (hh.ixm (by omega)) ?_
        and_intros
        have q : ¬ l.getD (0 : Int).toNat 0 < h.getD (h.length - 1) 0 := by
          have := v.hl (by omega) (by omega)
          show ¬ l.getD 0 0 < _
          omega
        refine br_df q ?_
        and_intros
      · and_intros
    · and_intros
  rintro _ _ ⟨rfl, rfl⟩
  refine sq_next ?_
  refine ws_seq (Ws.mono (P := fun fl ρ => fl = .next ∧ ρ = [some (.dat dh), some (.dat dl), some (.dat (.int r))]) ?_ ?_)
  · have r0 := v.r0
    and_intros
    refine cl_d (is_count_ok r) ?_
    and_intros
    refine op_dt hl.len ?_
    and_intros
    refine br_ds (fun a => ?_) (fun a => ?_)
    · have q : ¬ 0 < r := by have := v.rn (by omega); omega
      and_intros
    · and_intros
  rintro _ _ ⟨rfl, rfl⟩
  refine sq_next ?_
  refine ws_seq (Ws.mono (P := fun fl ρ => fl = .next ∧ ρ = [some (.dat dh), some (.dat dl), some (.dat (.int r))]) ?_ ?_)
  · and_intros
    refine op_dt hl.len ?_
    and_intros
    refine br_ds (fun b => ?_) (fun b => ?_)
    · and_intros
      refine op_dt (hl.ixm (by omega)) ?_
      and_intros
      refine op_dt (hl.ix (i := 0) (by omega) (by omega)) ?_
      and_intros
      have q : ¬ l.getD (0 : Int).toNat 0 + r < l.getD (l.length - 1) 0 := by
        have := v.lr (by omega)
        show ¬ l.getD 0 0 + r < _
        omega
      refine br_df q ?_
      and_intros
    · and_intros
  rintro _ _ ⟨rfl, rfl⟩
  refine sq_next ?_
  and_intros
  refine cl_d (show f_deep [dh] = _ from deep_ok hh bh 2) ?_
  and_intros
  refine cl_d (show f_deep [dl] = _ from deep_ok hl bl 2) ?_
  and_intros
  refine cl_d hp ?_
  and_intros
abbrev tab (h l : List Int) (r : Int) : D := .obj "Table" ["head", "loop", "rise"] [ti h, ti l, .int r]
theorem pu_0 (a : D) (f : PySem.Str) : putO f a [] [] = ([f], [a]) := rfl
theorem pu_1 (a b : D) : putO "loop" b ["head"] [a] = ((["head", "loop"] : List PySem.Str), [a, b]) := rfl
theorem pu_2 (a b c : D) : putO "rise" c ["head", "loop"] [a, b] = ((["head", "loop", "rise"] : List PySem.Str), [a, b, c]) := rfl
theorem init_okD {dr : D} {h2 l2 : List Int} {r2 : Int} (hc : f_checked_table [dh, dl, dr] = some (.ok (.dat (raw h2 l2 r2)))) : f_Table___init__ (.ins true "Table" [] []) [dh, dl, dr] = some (.ok .non, .ins true "Table" ["head", "loop", "rise"] [ti h2, ti l2, .int r2]) := by
  have : ClB (f_Table___init__ (.ins true "Table" [] []) [dh, dl, dr]) (fun d C ns fs => d = D.non ∧ C = "Table" ∧ ns = (["head", "loop", "rise"] : List PySem.Str) ∧ fs = [ti h2, ti l2, .int r2]) := by
    unfold f_Table___init__ b_Table___init__
    refine clB_body (by simp only [List.map_cons, List.map_nil, List.cons_append, List.nil_append, List.append_nil, rp0, rp1, rp2, rp3, rp4, rp5, rp6, rp7, rp8, rp9, rp10, rp11, rp12, rp13, rp14, rp15, rp16, rp17, rp18, rp19]; exact rfl) ?_
    and_intros
    refine cl_d hc ?_
    and_intros
    refine ⟨_, _, _, _, rfl, rfl, by decide, ?_⟩
    rw [pu_0]
    dsimp only
    and_intros
    refine ⟨_, _, _, _, rfl, rfl, by decide, ?_⟩
    rw [pu_1]
    dsimp only
    and_intros
    refine ⟨_, _, _, _, rfl, rfl, by decide, ?_⟩
    rw [pu_2]
    dsimp only
    and_intros
    exact ⟨_, _, _, rfl, rfl, rfl, rfl, rfl⟩
  obtain ⟨d, C, ns, fs, e, rfl, rfl, rfl, rfl⟩ := this
  exact e
theorem init_ok {h2 l2 : List Int} {r2 : Int} (hc : f_checked_table [dh, dl, .int r] = some (.ok (.dat (raw h2 l2 r2)))) : f_Table___init__ (.ins true "Table" [] []) [dh, dl, .int r] = some (.ok .non, .ins true "Table" ["head", "loop", "rise"] [ti h2, ti l2, .int r2]) := init_okD hc
end NF

set_option Elab.async false
set_option linter.all false
set_option maxRecDepth 100000
set_option maxHeartbeats 1000000
namespace SL
def dnB (r : Option (Fl × Sl)) : Option (Rs D × T) := match r with
  | some (.next, ρ) => finB (.ok .non) ρ
  | some (.ret u, ρ) => if u.brw = true then none else finB (.ok u.fz) ρ
  | some (.exc x, ρ) => finB (.exc x) ρ
  | _ => none
theorem e_bodyB (m : Nat) (s : So) (t : T) (ds : List D) : bodyB m s t ds = dnB (s (some t :: (ds.map (fun d => some (T.dat d)) ++ List.replicate m none))) := rfl
theorem setI_run {i : Nat} {mv mi : Mo T} {ρ ρ1 ρ2 : Sl} {u t0 : T} {b : Bool} {xs : List D} {q : Int} {jj : Nat} (h1 : mv ρ = some (.ok u, ρ1)) (hu : u.brw = false) (h0 : atS i ρ1 = some t0) (h2 : mi ρ1 = some (.ok (.dat (.int q)), ρ2)) (h3 : atS i ρ2 = some (.lst b xs)) (h4 : L2.ixN xs.length q = some jj) :
    sSetI i mv mi ρ = some (.next, ρ2.set i (some (.lst b (xs.set jj u.fz)))) := by
  unfold sSetI toS
  rw [h1]
  dsimp only
  rw [hu, if_neg (by decide), h0]
  dsimp only
  rw [h2]
  dsimp only
  rw [h3]
  dsimp only
  rw [h4]
theorem callB_run {k i : Nat} {f : FnB} {n : Mo (List T)} {ρ ρ1 : Sl} {ts : List T} {ds : List D} {t0 : T} {b : Bool} {xs xs' : List D} {d : D} (h0 : atS i ρ = some t0) (hn : n ρ = some (.ok ts, ρ1)) (hf : frzs ts = some ds) (h1 : atS i ρ1 = some (.lst b xs)) (hk : ds.length = k) (hr : f (.lst true xs) ds = some (.ok d, .lst true xs')) :
    eCallB k f i n ρ = some (.ok (.dat d), ρ1.set i (some (.lst b xs'))) := by
  unfold eCallB
  rw [h0]
  dsimp only
  unfold bnd
  rw [hn]
  dsimp only
  rw [hf, h1]
  dsimp only
  rw [if_pos ⟨rfl, hk⟩]
  show (match f (.lst true xs) ds with
    | some (.ok d, t') => if t'.own = true then some (Rs.ok (T.dat d), ρ1.set i (some (t'.setB b))) else none
    | _ => none) = _
  rw [hr]
  rfl
theorem app_run {i : Nat} {m : Mo T} {ρ ρ1 : Sl} {u : T} {b b0 : Bool} {xs xs0 : List D} (h0 : atS i ρ = some (.lst b0 xs0)) (hm : m ρ = some (.ok u, ρ1)) (hu : u.brw = false) (h1 : atS i ρ1 = some (.lst b xs)) (hl : xs.length < 100000) : sApp i m ρ = some (.next, ρ1.set i (some (.lst b (xs ++ [u.fz])))) := by
  unfold sApp
  rw [h0]
  dsimp only
  unfold toS
  rw [hm]
  dsimp only
  rw [hu, if_neg (by decide), h1]
  dsimp only
  rw [if_pos hl]
theorem ix30 (a b c : D) : L2.atI [a, b, c] 0 = some a := rfl
theorem ix31 (a b c : D) : L2.atI [a, b, c] 1 = some b := rfl
theorem ix32 (a b c : D) : L2.atI [a, b, c] 2 = some c := rfl
end SL
namespace NF
open SL PM
variable {h l : List Int} {r : Int} {m : Nat} {dh dl : D}
structure Sr where
  a : Int
  b : Int
  c : Int
abbrev sD (s : Sr) : List D := [.int s.a, .int s.b, .int s.c]
theorem pick_ok (s : Sr) {m : Int} (hm : 0 < m) (hm2 : m < 4611686018427387904) : ∃ (d : Int) (s' : Sr), f__law_pick (.lst true (sD s)) [.int m] = some (.ok (.int d), .lst true (sD s')) ∧ 0 ≤ d ∧ d < m := by
  obtain ⟨a, b, c⟩ := s
  show ∃ (d : Int) (s' : Sr), bodyB 2 b__law_pick _ _ = _ ∧ _
  simp only [e_bodyB, List.map_cons, List.map_nil, rp2, List.cons_append, List.nil_append]
  unfold b__law_pick
  by_cases ha : 0 < a
  · refine ⟨a % m, ⟨a / m, b, c⟩, ?_, Int.emod_nonneg _ (by omega), Int.emod_lt_of_pos _ hm⟩
    have c0 : tst (SL.bin gtF (s2M ixF 0 (eC (.int 0))) (eC (.int 0))) [some (.lst true [.int a, .int b, .int c]), some (.dat (.int m)), none, none] = some (.ok true, [some (.lst true [.int a, .int b, .int c]), some (.dat (.int m)), none, none]) := by
      simp only [e_ret, e_nop, e_bnd, e_ite, e_opM, e_out0, e_outd, e_outn, fz0, fzd, fzl, fzi, bd, bl_, bi, zd, zl, zi, o1, o2, e_var, e_atS, e_s1, e_s2, e_sl, e_toS, e_seq, e_next, e_no, e_drop, e_sret, e_if, e_asg, e_asgp, p_nm, p_tp, p_nil, p_cons, a_bl, a_int, e_noX, e_callM, e_bodyD, dn_next, dn_ret, rp0, rp1, rp2, rp3, rp4, rp5, rp6, rp7, rp8, rp9, rp10, rp11, eq_ii, ne_ii, len_t, len_l, ix_t, ix_l, add_ii, sub_ii, neg_i, lt_ii, le_ii, gt_ii, ge_ii, isN_i, isN_n, notN_i, notN_n, notN_t, e_bin, e_una, e_tst, e_cand, e_cor, e_cnot, e_and, e_or, e_not, e_eif, e_acons, e_tup, e_lst, e_c, e_osome, e_B, e_call0, e_prp, e_met, e_fld, e_mak, e_makM, mkR_ok, e_calO, List.map_cons, List.map_nil, List.cons_append, List.nil_append, List.append_nil, List.getElem?_cons_zero, List.getElem?_cons_succ, List.set_cons_zero, List.set_cons_succ, List.length_cons, List.length_nil, List.length_map, Option.map_some, Option.map_none, reduceIte, Bool.false_eq_true, Bool.not_true, Bool.not_false, decide_true, decide_false, Nat.reduceAdd, Nat.reduceLT, Nat.reduceEqDiff, Nat.zero_add, Nat.lt_add_left_iff_pos, Nat.succ_pos, Nat.zero_lt_succ, few0, few1, few2, few3, ix30, ha]
    have c1 : sAsg 2 (SL.bin modF (eB intF (aCons (s2M ixF 0 (eC (.int 0))) (ret []))) (eVar 1)) [some (.lst true [.int a, .int b, .int c]), some (.dat (.int m)), none, none] = some (.next, [some (.lst true [.int a, .int b, .int c]), some (.dat (.int m)), some (.dat (.int (a % m))), none]) := by
      simp only [e_ret, e_nop, e_bnd, e_ite, e_opM, e_out0, e_outd, e_outn, fz0, fzd, fzl, fzi, bd, bl_, bi, zd, zl, zi, o1, o2, e_var, e_atS, e_s1, e_s2, e_sl, e_toS, e_seq, e_next, e_no, e_drop, e_sret, e_if, e_asg, e_asgp, p_nm, p_tp, p_nil, p_cons, a_bl, a_int, e_noX, e_callM, e_bodyD, dn_next, dn_ret, rp0, rp1, rp2, rp3, rp4, rp5, rp6, rp7, rp8, rp9, rp10, rp11, eq_ii, ne_ii, len_t, len_l, ix_t, ix_l, add_ii, sub_ii, neg_i, lt_ii, le_ii, gt_ii, ge_ii, isN_i, isN_n, notN_i, notN_n, notN_t, e_bin, e_una, e_tst, e_cand, e_cor, e_cnot, e_and, e_or, e_not, e_eif, e_acons, e_tup, e_lst, e_c, e_osome, e_B, e_call0, e_prp, e_met, e_fld, e_mak, e_makM, mkR_ok, e_calO, List.map_cons, List.map_nil, List.cons_append, List.nil_append, List.append_nil, List.getElem?_cons_zero, List.getElem?_cons_succ, List.set_cons_zero, List.set_cons_succ, List.length_cons, List.length_nil, List.length_map, Option.map_some, Option.map_none, reduceIte, Bool.false_eq_true, Bool.not_true, Bool.not_false, decide_true, decide_false, Nat.reduceAdd, Nat.reduceLT, Nat.reduceEqDiff, Nat.zero_add, Nat.lt_add_left_iff_pos, Nat.succ_pos, Nat.zero_lt_succ, few0, few1, few2, few3, ix30, int_i, mod_ii hm]
    have c2 : sSetI 0 (SL.bin divF (s2M ixF 0 (eC (.int 0))) (eVar 1)) (eC (.int 0)) [some (.lst true [.int a, .int b, .int c]), some (.dat (.int m)), some (.dat (.int (a % m))), none] = some (.next, [some (.lst true [.int (a / m), .int b, .int c]), some (.dat (.int m)), some (.dat (.int (a % m))), none]) :=
      setI_run (mv := SL.bin divF (s2M ixF 0 (eC (.int 0))) (eVar 1)) (mi := eC (.int 0)) (i := 0) (ρ := [some (.lst true [.int a, .int b, .int c]), some (.dat (.int m)), some (.dat (.int (a % m))), none]) (u := .dat (.int (a / m))) (ρ1 := [some (.lst true [.int a, .int b, .int c]), some (.dat (.int m)), some (.dat (.int (a % m))), none]) (jj := 0) (b := true) (xs := [.int a, .int b, .int c]) (q := 0) (by simp only [e_ret, e_nop, e_bnd, e_ite, e_opM, e_out0, e_outd, e_outn, fz0, fzd, fzl, fzi, bd, bl_, bi, zd, zl, zi, o1, o2, e_var, e_atS, e_s1, e_s2, e_sl, e_toS, e_seq, e_next, e_no, e_drop, e_sret, e_if, e_asg, e_asgp, p_nm, p_tp, p_nil, p_cons, a_bl, a_int, e_noX, e_callM, e_bodyD, dn_next, dn_ret, rp0, rp1, rp2, rp3, rp4, rp5, rp6, rp7, rp8, rp9, rp10, rp11, eq_ii, ne_ii, len_t, len_l, ix_t, ix_l, add_ii, sub_ii, neg_i, lt_ii, le_ii, gt_ii, ge_ii, isN_i, isN_n, notN_i, notN_n, notN_t, e_bin, e_una, e_tst, e_cand, e_cor, e_cnot, e_and, e_or, e_not, e_eif, e_acons, e_tup, e_lst, e_c, e_osome, e_B, e_call0, e_prp, e_met, e_fld, e_mak, e_makM, mkR_ok, e_calO, List.map_cons, List.map_nil, List.cons_append, List.nil_append, List.append_nil, List.getElem?_cons_zero, List.getElem?_cons_succ, List.set_cons_zero, List.set_cons_succ, List.length_cons, List.length_nil, List.length_map, Option.map_some, Option.map_none, reduceIte, Bool.false_eq_true, Bool.not_true, Bool.not_false, decide_true, decide_false, Nat.reduceAdd, Nat.reduceLT, Nat.reduceEqDiff, Nat.zero_add, Nat.lt_add_left_iff_pos, Nat.succ_pos, Nat.zero_lt_succ, few0, few1, few2, few3, ix30, div_ii ⟨hm, hm2⟩]) rfl rfl rfl rfl rfl
    have c3 : sRet (eVar 2) [some (.lst true [.int (a / m), .int b, .int c]), some (.dat (.int m)), some (.dat (.int (a % m))), none] = some (.ret (.dat (.int (a % m))), [some (.lst true [.int (a / m), .int b, .int c]), some (.dat (.int m)), some (.dat (.int (a % m))), none]) := by
      simp only [e_ret, e_nop, e_bnd, e_ite, e_opM, e_out0, e_outd, e_outn, fz0, fzd, fzl, fzi, bd, bl_, bi, zd, zl, zi, o1, o2, e_var, e_atS, e_s1, e_s2, e_sl, e_toS, e_seq, e_next, e_no, e_drop, e_sret, e_if, e_asg, e_asgp, p_nm, p_tp, p_nil, p_cons, a_bl, a_int, e_noX, e_callM, e_bodyD, dn_next, dn_ret, rp0, rp1, rp2, rp3, rp4, rp5, rp6, rp7, rp8, rp9, rp10, rp11, eq_ii, ne_ii, len_t, len_l, ix_t, ix_l, add_ii, sub_ii, neg_i, lt_ii, le_ii, gt_ii, ge_ii, isN_i, isN_n, notN_i, notN_n, notN_t, e_bin, e_una, e_tst, e_cand, e_cor, e_cnot, e_and, e_or, e_not, e_eif, e_acons, e_tup, e_lst, e_c, e_osome, e_B, e_call0, e_prp, e_met, e_fld, e_mak, e_makM, mkR_ok, e_calO, List.map_cons, List.map_nil, List.cons_append, List.nil_append, List.append_nil, List.getElem?_cons_zero, List.getElem?_cons_succ, List.set_cons_zero, List.set_cons_succ, List.length_cons, List.length_nil, List.length_map, Option.map_some, Option.map_none, reduceIte, Bool.false_eq_true, Bool.not_true, Bool.not_false, decide_true, decide_false, Nat.reduceAdd, Nat.reduceLT, Nat.reduceEqDiff, Nat.zero_add, Nat.lt_add_left_iff_pos, Nat.succ_pos, Nat.zero_lt_succ, few0, few1, few2, few3]
    rw [seq_ret ((if_t c0).trans ((seq_next c1).trans ((seq_next c2).trans c3)))]
    rfl
  · have c0 : tst (SL.bin gtF (s2M ixF 0 (eC (.int 0))) (eC (.int 0))) [some (.lst true [.int a, .int b, .int c]), some (.dat (.int m)), none, none] = some (.ok false, [some (.lst true [.int a, .int b, .int c]), some (.dat (.int m)), none, none]) := by
      simp only [e_ret, e_nop, e_bnd, e_ite, e_opM, e_out0, e_outd, e_outn, fz0, fzd, fzl, fzi, bd, bl_, bi, zd, zl, zi, o1, o2, e_var, e_atS, e_s1, e_s2, e_sl, e_toS, e_seq, e_next, e_no, e_drop, e_sret, e_if, e_asg, e_asgp, p_nm, p_tp, p_nil, p_cons, a_bl, a_int, e_noX, e_callM, e_bodyD, dn_next, dn_ret, rp0, rp1, rp2, rp3, rp4, rp5, rp6, rp7, rp8, rp9, rp10, rp11, eq_ii, ne_ii, len_t, len_l, ix_t, ix_l, add_ii, sub_ii, neg_i, lt_ii, le_ii, gt_ii, ge_ii, isN_i, isN_n, notN_i, notN_n, notN_t, e_bin, e_una, e_tst, e_cand, e_cor, e_cnot, e_and, e_or, e_not, e_eif, e_acons, e_tup, e_lst, e_c, e_osome, e_B, e_call0, e_prp, e_met, e_fld, e_mak, e_makM, mkR_ok, e_calO, List.map_cons, List.map_nil, List.cons_append, List.nil_append, List.append_nil, List.getElem?_cons_zero, List.getElem?_cons_succ, List.set_cons_zero, List.set_cons_succ, List.length_cons, List.length_nil, List.length_map, Option.map_some, Option.map_none, reduceIte, Bool.false_eq_true, Bool.not_true, Bool.not_false, decide_true, decide_false, Nat.reduceAdd, Nat.reduceLT, Nat.reduceEqDiff, Nat.zero_add, Nat.lt_add_left_iff_pos, Nat.succ_pos, Nat.zero_lt_succ, few0, few1, few2, few3, ix30, ha]
    have c1 : sSetI 0 (SL.bin addF (s2M ixF 0 (eC (.int 2))) (eC (.int 1))) (eC (.int 2)) [some (.lst true [.int a, .int b, .int c]), some (.dat (.int m)), none, none] = some (.next, [some (.lst true [.int a, .int b, .int (c + 1)]), some (.dat (.int m)), none, none]) :=
      setI_run (mv := SL.bin addF (s2M ixF 0 (eC (.int 2))) (eC (.int 1))) (mi := eC (.int 2)) (i := 0) (ρ := [some (.lst true [.int a, .int b, .int c]), some (.dat (.int m)), none, none]) (u := .dat (.int (c + 1))) (ρ1 := [some (.lst true [.int a, .int b, .int c]), some (.dat (.int m)), none, none]) (jj := 2) (b := true) (xs := [.int a, .int b, .int c]) (q := 2) (by simp only [e_ret, e_nop, e_bnd, e_ite, e_opM, e_out0, e_outd, e_outn, fz0, fzd, fzl, fzi, bd, bl_, bi, zd, zl, zi, o1, o2, e_var, e_atS, e_s1, e_s2, e_sl, e_toS, e_seq, e_next, e_no, e_drop, e_sret, e_if, e_asg, e_asgp, p_nm, p_tp, p_nil, p_cons, a_bl, a_int, e_noX, e_callM, e_bodyD, dn_next, dn_ret, rp0, rp1, rp2, rp3, rp4, rp5, rp6, rp7, rp8, rp9, rp10, rp11, eq_ii, ne_ii, len_t, len_l, ix_t, ix_l, add_ii, sub_ii, neg_i, lt_ii, le_ii, gt_ii, ge_ii, isN_i, isN_n, notN_i, notN_n, notN_t, e_bin, e_una, e_tst, e_cand, e_cor, e_cnot, e_and, e_or, e_not, e_eif, e_acons, e_tup, e_lst, e_c, e_osome, e_B, e_call0, e_prp, e_met, e_fld, e_mak, e_makM, mkR_ok, e_calO, List.map_cons, List.map_nil, List.cons_append, List.nil_append, List.append_nil, List.getElem?_cons_zero, List.getElem?_cons_succ, List.set_cons_zero, List.set_cons_succ, List.length_cons, List.length_nil, List.length_map, Option.map_some, Option.map_none, reduceIte, Bool.false_eq_true, Bool.not_true, Bool.not_false, decide_true, decide_false, Nat.reduceAdd, Nat.reduceLT, Nat.reduceEqDiff, Nat.zero_add, Nat.lt_add_left_iff_pos, Nat.succ_pos, Nat.zero_lt_succ, few0, few1, few2, few3, ix32]) rfl rfl rfl rfl rfl
    have st (v w : Int) (e : Mo T) (x : Option T) (he : e [some (.lst true [.int a, .int b, .int (c + 1)]), some (.dat (.int m)), none, x] = some (.ok (.dat (.int v)), [some (.lst true [.int a, .int b, .int (c + 1)]), some (.dat (.int m)), none, x])) (w0 : 0 < w) (ew : Mo T) (hw : ∀ ρ, ew ρ = some (.ok (.dat (.int w)), ρ)) :
        sAsg 3 (SL.bin modF (eB intF (aCons e (ret []))) ew) [some (.lst true [.int a, .int b, .int (c + 1)]), some (.dat (.int m)), none, x] = some (.next, [some (.lst true [.int a, .int b, .int (c + 1)]), some (.dat (.int m)), none, some (.dat (.int (v % w)))]) := by
      simp only [e_ret, e_nop, e_bnd, e_ite, e_opM, e_out0, e_outd, e_outn, fz0, fzd, fzl, fzi, bd, bl_, bi, zd, zl, zi, o1, o2, e_var, e_atS, e_s1, e_s2, e_sl, e_toS, e_seq, e_next, e_no, e_drop, e_sret, e_if, e_asg, e_asgp, p_nm, p_tp, p_nil, p_cons, a_bl, a_int, e_noX, e_callM, e_bodyD, dn_next, dn_ret, rp0, rp1, rp2, rp3, rp4, rp5, rp6, rp7, rp8, rp9, rp10, rp11, eq_ii, ne_ii, len_t, len_l, ix_t, ix_l, add_ii, sub_ii, neg_i, lt_ii, le_ii, gt_ii, ge_ii, isN_i, isN_n, notN_i, notN_n, notN_t, e_bin, e_una, e_tst, e_cand, e_cor, e_cnot, e_and, e_or, e_not, e_eif, e_acons, e_tup, e_lst, e_c, e_osome, e_B, e_call0, e_prp, e_met, e_fld, e_mak, e_makM, mkR_ok, e_calO, List.map_cons, List.map_nil, List.cons_append, List.nil_append, List.append_nil, List.getElem?_cons_zero, List.getElem?_cons_succ, List.set_cons_zero, List.set_cons_succ, List.length_cons, List.length_nil, List.length_map, Option.map_some, Option.map_none, reduceIte, Bool.false_eq_true, Bool.not_true, Bool.not_false, decide_true, decide_false, Nat.reduceAdd, Nat.reduceLT, Nat.reduceEqDiff, Nat.zero_add, Nat.lt_add_left_iff_pos, Nat.succ_pos, Nat.zero_lt_succ, few0, few1, few2, few3, he, hw, int_i, mod_ii w0]
    have sq1 (v : Int) : sml (v % 2147483647) := by
      have := Int.emod_nonneg v (show (2147483647 : Int) ≠ 0 by decide)
      have := Int.emod_lt_of_pos v (show (0 : Int) < 2147483647 by decide)
      unfold sml; omega
    have k1 : sml (48271 : Int) := by unfold sml; omega
    have k2 : sml (104729 : Int) := by unfold sml; omega
    have k3 : sml (7 : Int) := by unfold sml; omega
    have k4 : sml (69621 : Int) := by unfold sml; omega
    have c2 := st ((b + 104729 * (c + 1)) * 48271) 2147483647 (SL.bin mulF (SL.bin addF (s2M ixF 0 (eC (.int 1))) (SL.bin mulF (eC (.int 104729)) (s2M ixF 0 (eC (.int 2))))) (eC (.int 48271))) none
      (by simp only [e_ret, e_nop, e_bnd, e_ite, e_opM, e_out0, e_outd, e_outn, fz0, fzd, fzl, fzi, bd, bl_, bi, zd, zl, zi, o1, o2, e_var, e_atS, e_s1, e_s2, e_sl, e_toS, e_seq, e_next, e_no, e_drop, e_sret, e_if, e_asg, e_asgp, p_nm, p_tp, p_nil, p_cons, a_bl, a_int, e_noX, e_callM, e_bodyD, dn_next, dn_ret, rp0, rp1, rp2, rp3, rp4, rp5, rp6, rp7, rp8, rp9, rp10, rp11, eq_ii, ne_ii, len_t, len_l, ix_t, ix_l, add_ii, sub_ii, neg_i, lt_ii, le_ii, gt_ii, ge_ii, isN_i, isN_n, notN_i, notN_n, notN_t, e_bin, e_una, e_tst, e_cand, e_cor, e_cnot, e_and, e_or, e_not, e_eif, e_acons, e_tup, e_lst, e_c, e_osome, e_B, e_call0, e_prp, e_met, e_fld, e_mak, e_makM, mkR_ok, e_calO, List.map_cons, List.map_nil, List.cons_append, List.nil_append, List.append_nil, List.getElem?_cons_zero, List.getElem?_cons_succ, List.set_cons_zero, List.set_cons_succ, List.length_cons, List.length_nil, List.length_map, Option.map_some, Option.map_none, reduceIte, Bool.false_eq_true, Bool.not_true, Bool.not_false, decide_true, decide_false, Nat.reduceAdd, Nat.reduceLT, Nat.reduceEqDiff, Nat.zero_add, Nat.lt_add_left_iff_pos, Nat.succ_pos, Nat.zero_lt_succ, few0, few1, few2, few3, ix31, ix32, mul_ii (i := 104729) (.inl k2), mul_ii (j := 48271) (.inr k1)]) (by decide) (eC (.int 2147483647)) (fun _ => rfl)
    generalize hv1 : (b + 104729 * (c + 1)) * 48271 % 2147483647 = v1 at c2
    have s1 : sml v1 := hv1 ▸ sq1 _
    have c3 := st (v1 * v1 + 7 * (c + 1) + b) 2147483629 (SL.bin addF (SL.bin addF (SL.bin mulF (eVar 3) (eVar 3)) (SL.bin mulF (eC (.int 7)) (s2M ixF 0 (eC (.int 2))))) (s2M ixF 0 (eC (.int 1)))) (some (.dat (.int v1)))
      (by simp only [e_ret, e_nop, e_bnd, e_ite, e_opM, e_out0, e_outd, e_outn, fz0, fzd, fzl, fzi, bd, bl_, bi, zd, zl, zi, o1, o2, e_var, e_atS, e_s1, e_s2, e_sl, e_toS, e_seq, e_next, e_no, e_drop, e_sret, e_if, e_asg, e_asgp, p_nm, p_tp, p_nil, p_cons, a_bl, a_int, e_noX, e_callM, e_bodyD, dn_next, dn_ret, rp0, rp1, rp2, rp3, rp4, rp5, rp6, rp7, rp8, rp9, rp10, rp11, eq_ii, ne_ii, len_t, len_l, ix_t, ix_l, add_ii, sub_ii, neg_i, lt_ii, le_ii, gt_ii, ge_ii, isN_i, isN_n, notN_i, notN_n, notN_t, e_bin, e_una, e_tst, e_cand, e_cor, e_cnot, e_and, e_or, e_not, e_eif, e_acons, e_tup, e_lst, e_c, e_osome, e_B, e_call0, e_prp, e_met, e_fld, e_mak, e_makM, mkR_ok, e_calO, List.map_cons, List.map_nil, List.cons_append, List.nil_append, List.append_nil, List.getElem?_cons_zero, List.getElem?_cons_succ, List.set_cons_zero, List.set_cons_succ, List.length_cons, List.length_nil, List.length_map, Option.map_some, Option.map_none, reduceIte, Bool.false_eq_true, Bool.not_true, Bool.not_false, decide_true, decide_false, Nat.reduceAdd, Nat.reduceLT, Nat.reduceEqDiff, Nat.zero_add, Nat.lt_add_left_iff_pos, Nat.succ_pos, Nat.zero_lt_succ, few0, few1, few2, few3, ix31, ix32, mul_ii (i := v1) (.inl s1), mul_ii (i := 7) (.inl k3)]) (by decide) (eC (.int 2147483629)) (fun _ => rfl)
    generalize (v1 * v1 + 7 * (c + 1) + b) % 2147483629 = v2 at c3
    have c4 := st (v2 * 69621 + 5) 2147483647 (SL.bin addF (SL.bin mulF (eVar 3) (eC (.int 69621))) (eC (.int 5))) (some (.dat (.int v2)))
      (by simp only [e_ret, e_nop, e_bnd, e_ite, e_opM, e_out0, e_outd, e_outn, fz0, fzd, fzl, fzi, bd, bl_, bi, zd, zl, zi, o1, o2, e_var, e_atS, e_s1, e_s2, e_sl, e_toS, e_seq, e_next, e_no, e_drop, e_sret, e_if, e_asg, e_asgp, p_nm, p_tp, p_nil, p_cons, a_bl, a_int, e_noX, e_callM, e_bodyD, dn_next, dn_ret, rp0, rp1, rp2, rp3, rp4, rp5, rp6, rp7, rp8, rp9, rp10, rp11, eq_ii, ne_ii, len_t, len_l, ix_t, ix_l, add_ii, sub_ii, neg_i, lt_ii, le_ii, gt_ii, ge_ii, isN_i, isN_n, notN_i, notN_n, notN_t, e_bin, e_una, e_tst, e_cand, e_cor, e_cnot, e_and, e_or, e_not, e_eif, e_acons, e_tup, e_lst, e_c, e_osome, e_B, e_call0, e_prp, e_met, e_fld, e_mak, e_makM, mkR_ok, e_calO, List.map_cons, List.map_nil, List.cons_append, List.nil_append, List.append_nil, List.getElem?_cons_zero, List.getElem?_cons_succ, List.set_cons_zero, List.set_cons_succ, List.length_cons, List.length_nil, List.length_map, Option.map_some, Option.map_none, reduceIte, Bool.false_eq_true, Bool.not_true, Bool.not_false, decide_true, decide_false, Nat.reduceAdd, Nat.reduceLT, Nat.reduceEqDiff, Nat.zero_add, Nat.lt_add_left_iff_pos, Nat.succ_pos, Nat.zero_lt_succ, few0, few1, few2, few3, mul_ii (j := 69621) (.inr k4)]) (by decide) (eC (.int 2147483647)) (fun _ => rfl)
    generalize hv3 : (v2 * 69621 + 5) % 2147483647 = v3 at c4
    have s3 : sml v3 := hv3 ▸ sq1 _
    have c5 := st (v3 * v3 + v3) 2147483587 (SL.bin addF (SL.bin mulF (eVar 3) (eVar 3)) (eVar 3)) (some (.dat (.int v3)))
      (by simp only [e_ret, e_nop, e_bnd, e_ite, e_opM, e_out0, e_outd, e_outn, fz0, fzd, fzl, fzi, bd, bl_, bi, zd, zl, zi, o1, o2, e_var, e_atS, e_s1, e_s2, e_sl, e_toS, e_seq, e_next, e_no, e_drop, e_sret, e_if, e_asg, e_asgp, p_nm, p_tp, p_nil, p_cons, a_bl, a_int, e_noX, e_callM, e_bodyD, dn_next, dn_ret, rp0, rp1, rp2, rp3, rp4, rp5, rp6, rp7, rp8, rp9, rp10, rp11, eq_ii, ne_ii, len_t, len_l, ix_t, ix_l, add_ii, sub_ii, neg_i, lt_ii, le_ii, gt_ii, ge_ii, isN_i, isN_n, notN_i, notN_n, notN_t, e_bin, e_una, e_tst, e_cand, e_cor, e_cnot, e_and, e_or, e_not, e_eif, e_acons, e_tup, e_lst, e_c, e_osome, e_B, e_call0, e_prp, e_met, e_fld, e_mak, e_makM, mkR_ok, e_calO, List.map_cons, List.map_nil, List.cons_append, List.nil_append, List.append_nil, List.getElem?_cons_zero, List.getElem?_cons_succ, List.set_cons_zero, List.set_cons_succ, List.length_cons, List.length_nil, List.length_map, Option.map_some, Option.map_none, reduceIte, Bool.false_eq_true, Bool.not_true, Bool.not_false, decide_true, decide_false, Nat.reduceAdd, Nat.reduceLT, Nat.reduceEqDiff, Nat.zero_add, Nat.lt_add_left_iff_pos, Nat.succ_pos, Nat.zero_lt_succ, few0, few1, few2, few3, mul_ii (i := v3) (.inl s3)]) (by decide) (eC (.int 2147483587)) (fun _ => rfl)
    generalize (v3 * v3 + v3) % 2147483587 = v4 at c5
    refine ⟨v4 / 5 % m, ⟨a, b, c + 1⟩, ?_, Int.emod_nonneg _ (by omega), Int.emod_lt_of_pos _ hm⟩
    have c6 : sRet (SL.bin modF (eB intF (aCons (SL.bin divF (eVar 3) (eC (.int 5))) (ret []))) (eVar 1)) [some (.lst true [.int a, .int b, .int (c + 1)]), some (.dat (.int m)), none, some (.dat (.int v4))] = some (.ret (.dat (.int (v4 / 5 % m))), [some (.lst true [.int a, .int b, .int (c + 1)]), some (.dat (.int m)), none, some (.dat (.int v4))]) := by
      simp only [e_ret, e_nop, e_bnd, e_ite, e_opM, e_out0, e_outd, e_outn, fz0, fzd, fzl, fzi, bd, bl_, bi, zd, zl, zi, o1, o2, e_var, e_atS, e_s1, e_s2, e_sl, e_toS, e_seq, e_next, e_no, e_drop, e_sret, e_if, e_asg, e_asgp, p_nm, p_tp, p_nil, p_cons, a_bl, a_int, e_noX, e_callM, e_bodyD, dn_next, dn_ret, rp0, rp1, rp2, rp3, rp4, rp5, rp6, rp7, rp8, rp9, rp10, rp11, eq_ii, ne_ii, len_t, len_l, ix_t, ix_l, add_ii, sub_ii, neg_i, lt_ii, le_ii, gt_ii, ge_ii, isN_i, isN_n, notN_i, notN_n, notN_t, e_bin, e_una, e_tst, e_cand, e_cor, e_cnot, e_and, e_or, e_not, e_eif, e_acons, e_tup, e_lst, e_c, e_osome, e_B, e_call0, e_prp, e_met, e_fld, e_mak, e_makM, mkR_ok, e_calO, List.map_cons, List.map_nil, List.cons_append, List.nil_append, List.append_nil, List.getElem?_cons_zero, List.getElem?_cons_succ, List.set_cons_zero, List.set_cons_succ, List.length_cons, List.length_nil, List.length_map, Option.map_some, Option.map_none, reduceIte, Bool.false_eq_true, Bool.not_true, Bool.not_false, decide_true, decide_false, Nat.reduceAdd, Nat.reduceLT, Nat.reduceEqDiff, Nat.zero_add, Nat.lt_add_left_iff_pos, Nat.succ_pos, Nat.zero_lt_succ, few0, few1, few2, few3, int_i, div_ii (j := 5) ⟨by decide, by decide⟩, mod_ii hm]
    have c7 := (seq_next c1).trans ((seq_next c2).trans ((seq_next c3).trans ((seq_next c4).trans ((seq_next c5).trans c6))))
    have c8 : sIf (tst (SL.bin gtF (s2M ixF 0 (eC (.int 0))) (eC (.int 0)))) (sSeq (sAsg 2 (SL.bin modF (eB intF (aCons (s2M ixF 0 (eC (.int 0))) (ret []))) (eVar 1)))
  (sSeq (sSetI 0 (SL.bin divF (s2M ixF 0 (eC (.int 0))) (eVar 1)) (eC (.int 0)))
  (sRet (eVar 2)))) (sNext) [some (.lst true [.int a, .int b, .int c]), some (.dat (.int m)), none, none] = some (.next, [some (.lst true [.int a, .int b, .int c]), some (.dat (.int m)), none, none]) := (if_f c0).trans rfl
    rw [(seq_next c8).trans c7]
    rfl
end NF

set_option Elab.async false
set_option linter.all false
set_option maxRecDepth 100000
set_option maxHeartbeats 1000000
namespace NF
open SL PM
variable {h l : List Int} {r : Int} {m : Nat} {dh dl : D}
/-- what a row of rising counts is -/
structure Ri (l : List Int) (lo hi : Int) : Prop where
  pw : l.Pairwise (· ≤ ·)
  rg : ∀ x ∈ l, lo ≤ x ∧ x ≤ hi
theorem Ri.ris {lo hi : Int} (a : Ri l lo hi) : ris l = true := by
  unfold NF.ris
  simp only [List.all_eq_true, List.mem_range, decide_eq_true_eq]
  intro k hk
  have h1 : k + 1 < l.length := by omega
  have := List.pairwise_iff_getElem.mp a.pw k (k + 1) (by omega) h1 (by omega)
  simpa [List.getD, h1, show k < l.length by omega] using this
theorem Ri.nn {lo hi : Int} (a : Ri l lo hi) (h0 : 0 ≤ lo) : (l.all fun i => decide (0 ≤ i)) = true := by
  simp only [List.all_eq_true, decide_eq_true_eq]
  intro x hx
  have := a.rg x hx
  omega
theorem Ri.at_ {lo hi : Int} (a : Ri l lo hi) {k : Nat} (hk : k < l.length) : lo ≤ l.getD k 0 ∧ l.getD k 0 ≤ hi := by
  have := a.rg l[k] (List.getElem_mem hk)
  simpa [List.getD, hk] using this
abbrev rB : So := sSeq (sAsg 5 (SL.bin addF (eVar 5) (eCallB 1 f__law_pick 0 (aCons (eVar 3) (ret []))))) (sApp 4 (eVar 5))
theorem rising_ok (s : Sr) (n : Nat) (low : Int) (hn : n ≤ 1000) : ∃ (l : List Int) (s' : Sr), f__law_rising (.lst true (sD s)) [.int (n : Nat), .int low, .int 3] = some (.ok (.lst (l.map .int)), .lst true (sD s')) ∧ l.length = n ∧ Ri l low (low + 2 * n) := by
  obtain ⟨ρ', e, acc, s', v, x, rfl, hl, hv1, hv2, hr⟩ := for_inv (b := rB) (p := .nm 6) (rngD 0 n)
    (fun i ρ => ∃ (acc : List Int) (s : Sr) (v : Int) (x : Option T), ρ = [some (.lst true (sD s)), some (.dat (.int (n : Nat))), some (.dat (.int low)), some (.dat (.int 3)), some (.lst false (acc.map .int)), some (.dat (.int v)), x] ∧ acc.length = i ∧ low ≤ v ∧ v ≤ low + 2 * i ∧ Ri acc low v)
    [some (.lst true (sD s)), some (.dat (.int (n : Nat))), some (.dat (.int low)), some (.dat (.int 3)), some (.lst false []), some (.dat (.int low)), none]
    (by
      rintro i d ρ hd ⟨acc, s, v, x, rfl, hl, hv1, hv2, hr⟩
      have hi := (rngD_get hd).1
      obtain ⟨dg, s2, hp, d0, d1⟩ := pick_ok s (m := 3) (by decide) (by decide)
      have c1 : eCallB 1 f__law_pick 0 (aCons (eVar 3) (ret [])) [some (.lst true (sD s)), some (.dat (.int (n : Nat))), some (.dat (.int low)), some (.dat (.int 3)), some (.lst false (acc.map .int)), some (.dat (.int v)), some (.dat d)] =
          some (.ok (.dat (.int dg)), [some (.lst true (sD s2)), some (.dat (.int (n : Nat))), some (.dat (.int low)), some (.dat (.int 3)), some (.lst false (acc.map .int)), some (.dat (.int v)), some (.dat d)]) :=
        callB_run (ρ1 := [some (.lst true (sD s)), some (.dat (.int (n : Nat))), some (.dat (.int low)), some (.dat (.int 3)), some (.lst false (acc.map .int)), some (.dat (.int v)), some (.dat d)]) (ts := [.dat (.int 3)]) (ds := [.int 3]) (b := true) (xs := sD s) (t0 := .lst true (sD s)) rfl (by simp only [e_ret, e_nop, e_bnd, e_ite, e_opM, e_out0, e_outd, e_outn, fz0, fzd, fzl, fzi, bd, bl_, bi, zd, zl, zi, o1, o2, e_var, e_atS, e_s1, e_s2, e_sl, e_toS, e_seq, e_next, e_no, e_drop, e_sret, e_if, e_asg, e_asgp, p_nm, p_tp, p_nil, p_cons, a_bl, a_int, e_noX, e_callM, e_bodyD, dn_next, dn_ret, rp0, rp1, rp2, rp3, rp4, rp5, rp6, rp7, rp8, rp9, rp10, rp11, eq_ii, ne_ii, len_t, len_l, ix_t, ix_l, add_ii, sub_ii, neg_i, lt_ii, le_ii, gt_ii, ge_ii, isN_i, isN_n, notN_i, notN_n, notN_t, e_bin, e_una, e_tst, e_cand, e_cor, e_cnot, e_and, e_or, e_not, e_eif, e_acons, e_tup, e_lst, e_c, e_osome, e_B, e_call0, e_prp, e_met, e_fld, e_mak, e_makM, mkR_ok, e_calO, List.map_cons, List.map_nil, List.cons_append, List.nil_append, List.append_nil, List.getElem?_cons_zero, List.getElem?_cons_succ, List.set_cons_zero, List.set_cons_succ, List.length_cons, List.length_nil, List.length_map, Option.map_some, Option.map_none, reduceIte, Bool.false_eq_true, Bool.not_true, Bool.not_false, decide_true, decide_false, Nat.reduceAdd, Nat.reduceLT, Nat.reduceEqDiff, Nat.zero_add, Nat.lt_add_left_iff_pos, Nat.succ_pos, Nat.zero_lt_succ, few0, few1, few2, few3]) rfl rfl rfl hp
      have c2 : sAsg 5 (SL.bin addF (eVar 5) (eCallB 1 f__law_pick 0 (aCons (eVar 3) (ret [])))) [some (.lst true (sD s)), some (.dat (.int (n : Nat))), some (.dat (.int low)), some (.dat (.int 3)), some (.lst false (acc.map .int)), some (.dat (.int v)), some (.dat d)] =
          some (.next, [some (.lst true (sD s2)), some (.dat (.int (n : Nat))), some (.dat (.int low)), some (.dat (.int 3)), some (.lst false (acc.map .int)), some (.dat (.int (v + dg))), some (.dat d)]) := by
        simp only [e_ret, e_nop, e_bnd, e_ite, e_opM, e_out0, e_outd, e_outn, fz0, fzd, fzl, fzi, bd, bl_, bi, zd, zl, zi, o1, o2, e_var, e_atS, e_s1, e_s2, e_sl, e_toS, e_seq, e_next, e_no, e_drop, e_sret, e_if, e_asg, e_asgp, p_nm, p_tp, p_nil, p_cons, a_bl, a_int, e_noX, e_callM, e_bodyD, dn_next, dn_ret, rp0, rp1, rp2, rp3, rp4, rp5, rp6, rp7, rp8, rp9, rp10, rp11, eq_ii, ne_ii, len_t, len_l, ix_t, ix_l, add_ii, sub_ii, neg_i, lt_ii, le_ii, gt_ii, ge_ii, isN_i, isN_n, notN_i, notN_n, notN_t, e_bin, e_una, e_tst, e_cand, e_cor, e_cnot, e_and, e_or, e_not, e_eif, e_acons, e_tup, e_lst, e_c, e_osome, e_B, e_call0, e_prp, e_met, e_fld, e_mak, e_makM, mkR_ok, e_calO, List.map_cons, List.map_nil, List.cons_append, List.nil_append, List.append_nil, List.getElem?_cons_zero, List.getElem?_cons_succ, List.set_cons_zero, List.set_cons_succ, List.length_cons, List.length_nil, List.length_map, Option.map_some, Option.map_none, reduceIte, Bool.false_eq_true, Bool.not_true, Bool.not_false, decide_true, decide_false, Nat.reduceAdd, Nat.reduceLT, Nat.reduceEqDiff, Nat.zero_add, Nat.lt_add_left_iff_pos, Nat.succ_pos, Nat.zero_lt_succ, few0, few1, few2, few3, c1]
      have c3 : sApp 4 (eVar 5) [some (.lst true (sD s2)), some (.dat (.int (n : Nat))), some (.dat (.int low)), some (.dat (.int 3)), some (.lst false (acc.map .int)), some (.dat (.int (v + dg))), some (.dat d)] =
          some (.next, [some (.lst true (sD s2)), some (.dat (.int (n : Nat))), some (.dat (.int low)), some (.dat (.int 3)), some (.lst false (acc.map D.int ++ [.int (v + dg)])), some (.dat (.int (v + dg))), some (.dat d)]) :=
        app_run (ρ1 := [some (.lst true (sD s2)), some (.dat (.int (n : Nat))), some (.dat (.int low)), some (.dat (.int 3)), some (.lst false (acc.map .int)), some (.dat (.int (v + dg))), some (.dat d)]) (u := .dat (.int (v + dg))) (xs0 := acc.map .int) (b0 := false) rfl (by simp only [e_ret, e_nop, e_bnd, e_ite, e_opM, e_out0, e_outd, e_outn, fz0, fzd, fzl, fzi, bd, bl_, bi, zd, zl, zi, o1, o2, e_var, e_atS, e_s1, e_s2, e_sl, e_toS, e_seq, e_next, e_no, e_drop, e_sret, e_if, e_asg, e_asgp, p_nm, p_tp, p_nil, p_cons, a_bl, a_int, e_noX, e_callM, e_bodyD, dn_next, dn_ret, rp0, rp1, rp2, rp3, rp4, rp5, rp6, rp7, rp8, rp9, rp10, rp11, eq_ii, ne_ii, len_t, len_l, ix_t, ix_l, add_ii, sub_ii, neg_i, lt_ii, le_ii, gt_ii, ge_ii, isN_i, isN_n, notN_i, notN_n, notN_t, e_bin, e_una, e_tst, e_cand, e_cor, e_cnot, e_and, e_or, e_not, e_eif, e_acons, e_tup, e_lst, e_c, e_osome, e_B, e_call0, e_prp, e_met, e_fld, e_mak, e_makM, mkR_ok, e_calO, List.map_cons, List.map_nil, List.cons_append, List.nil_append, List.append_nil, List.getElem?_cons_zero, List.getElem?_cons_succ, List.set_cons_zero, List.set_cons_succ, List.length_cons, List.length_nil, List.length_map, Option.map_some, Option.map_none, reduceIte, Bool.false_eq_true, Bool.not_true, Bool.not_false, decide_true, decide_false, Nat.reduceAdd, Nat.reduceLT, Nat.reduceEqDiff, Nat.zero_add, Nat.lt_add_left_iff_pos, Nat.succ_pos, Nat.zero_lt_succ, few0, few1, few2, few3]) rfl rfl (by rw [List.length_map]; omega)
      refine ⟨_, _, by simp only [e_ret, e_nop, e_bnd, e_ite, e_opM, e_out0, e_outd, e_outn, fz0, fzd, fzl, fzi, bd, bl_, bi, zd, zl, zi, o1, o2, e_var, e_atS, e_s1, e_s2, e_sl, e_toS, e_seq, e_next, e_no, e_drop, e_sret, e_if, e_asg, e_asgp, p_nm, p_tp, p_nil, p_cons, a_bl, a_int, e_noX, e_callM, e_bodyD, dn_next, dn_ret, rp0, rp1, rp2, rp3, rp4, rp5, rp6, rp7, rp8, rp9, rp10, rp11, eq_ii, ne_ii, len_t, len_l, ix_t, ix_l, add_ii, sub_ii, neg_i, lt_ii, le_ii, gt_ii, ge_ii, isN_i, isN_n, notN_i, notN_n, notN_t, e_bin, e_una, e_tst, e_cand, e_cor, e_cnot, e_and, e_or, e_not, e_eif, e_acons, e_tup, e_lst, e_c, e_osome, e_B, e_call0, e_prp, e_met, e_fld, e_mak, e_makM, mkR_ok, e_calO, List.map_cons, List.map_nil, List.cons_append, List.nil_append, List.append_nil, List.getElem?_cons_zero, List.getElem?_cons_succ, List.set_cons_zero, List.set_cons_succ, List.length_cons, List.length_nil, List.length_map, Option.map_some, Option.map_none, reduceIte, Bool.false_eq_true, Bool.not_true, Bool.not_false, decide_true, decide_false, Nat.reduceAdd, Nat.reduceLT, Nat.reduceEqDiff, Nat.zero_add, Nat.lt_add_left_iff_pos, Nat.succ_pos, Nat.zero_lt_succ, few0, few1, few2, few3], .inl ((seq_next c2).trans c3), acc ++ [v + dg], s2, v + dg, some (.dat d), by simp, by simp [hl], by omega, by omega, ?_⟩
      refine ⟨List.pairwise_append.mpr ⟨hr.pw, List.pairwise_singleton _ _, fun a ha b hb => ?_⟩, fun x hx => ?_⟩
      · have := hr.rg a ha
        have : b = v + dg := by simpa using hb
        omega
      · rcases List.mem_append.mp hx with q | q
        · have := hr.rg x q; omega
        · have : x = v + dg := by simpa using q
          omega)
    ⟨[], s, low, none, rfl, rfl, by omega, by omega, List.Pairwise.nil, by simp⟩
  rw [rngD_length] at hl hv2
  refine ⟨acc, s', ?_, hl, hr.pw, fun x hx => ?_⟩
  · have c1 : sAsg 4 (eLst (ret [])) [some (.lst true (sD s)), some (.dat (.int (n : Nat))), some (.dat (.int low)), some (.dat (.int 3)), none, none, none] = some (.next, [some (.lst true (sD s)), some (.dat (.int (n : Nat))), some (.dat (.int low)), some (.dat (.int 3)), some (.lst false []), none, none]) := by
      simp only [e_ret, e_nop, e_bnd, e_ite, e_opM, e_out0, e_outd, e_outn, fz0, fzd, fzl, fzi, bd, bl_, bi, zd, zl, zi, o1, o2, e_var, e_atS, e_s1, e_s2, e_sl, e_toS, e_seq, e_next, e_no, e_drop, e_sret, e_if, e_asg, e_asgp, p_nm, p_tp, p_nil, p_cons, a_bl, a_int, e_noX, e_callM, e_bodyD, dn_next, dn_ret, rp0, rp1, rp2, rp3, rp4, rp5, rp6, rp7, rp8, rp9, rp10, rp11, eq_ii, ne_ii, len_t, len_l, ix_t, ix_l, add_ii, sub_ii, neg_i, lt_ii, le_ii, gt_ii, ge_ii, isN_i, isN_n, notN_i, notN_n, notN_t, e_bin, e_una, e_tst, e_cand, e_cor, e_cnot, e_and, e_or, e_not, e_eif, e_acons, e_tup, e_lst, e_c, e_osome, e_B, e_call0, e_prp, e_met, e_fld, e_mak, e_makM, mkR_ok, e_calO, List.map_cons, List.map_nil, List.cons_append, List.nil_append, List.append_nil, List.getElem?_cons_zero, List.getElem?_cons_succ, List.set_cons_zero, List.set_cons_succ, List.length_cons, List.length_nil, List.length_map, Option.map_some, Option.map_none, reduceIte, Bool.false_eq_true, Bool.not_true, Bool.not_false, decide_true, decide_false, Nat.reduceAdd, Nat.reduceLT, Nat.reduceEqDiff, Nat.zero_add, Nat.lt_add_left_iff_pos, Nat.succ_pos, Nat.zero_lt_succ, few0, few1, few2, few3]
    have c2 : sAsg 5 (eVar 2) [some (.lst true (sD s)), some (.dat (.int (n : Nat))), some (.dat (.int low)), some (.dat (.int 3)), some (.lst false []), none, none] = some (.next, [some (.lst true (sD s)), some (.dat (.int (n : Nat))), some (.dat (.int low)), some (.dat (.int 3)), some (.lst false []), some (.dat (.int low)), none]) := by
      simp only [e_ret, e_nop, e_bnd, e_ite, e_opM, e_out0, e_outd, e_outn, fz0, fzd, fzl, fzi, bd, bl_, bi, zd, zl, zi, o1, o2, e_var, e_atS, e_s1, e_s2, e_sl, e_toS, e_seq, e_next, e_no, e_drop, e_sret, e_if, e_asg, e_asgp, p_nm, p_tp, p_nil, p_cons, a_bl, a_int, e_noX, e_callM, e_bodyD, dn_next, dn_ret, rp0, rp1, rp2, rp3, rp4, rp5, rp6, rp7, rp8, rp9, rp10, rp11, eq_ii, ne_ii, len_t, len_l, ix_t, ix_l, add_ii, sub_ii, neg_i, lt_ii, le_ii, gt_ii, ge_ii, isN_i, isN_n, notN_i, notN_n, notN_t, e_bin, e_una, e_tst, e_cand, e_cor, e_cnot, e_and, e_or, e_not, e_eif, e_acons, e_tup, e_lst, e_c, e_osome, e_B, e_call0, e_prp, e_met, e_fld, e_mak, e_makM, mkR_ok, e_calO, List.map_cons, List.map_nil, List.cons_append, List.nil_append, List.append_nil, List.getElem?_cons_zero, List.getElem?_cons_succ, List.set_cons_zero, List.set_cons_succ, List.length_cons, List.length_nil, List.length_map, Option.map_some, Option.map_none, reduceIte, Bool.false_eq_true, Bool.not_true, Bool.not_false, decide_true, decide_false, Nat.reduceAdd, Nat.reduceLT, Nat.reduceEqDiff, Nat.zero_add, Nat.lt_add_left_iff_pos, Nat.succ_pos, Nat.zero_lt_succ, few0, few1, few2, few3]
    have c3 : sFor (iOf rng1 (aCons (eVar 1) (ret []))) (.nm 6) rB [some (.lst true (sD s)), some (.dat (.int (n : Nat))), some (.dat (.int low)), some (.dat (.int 3)), some (.lst false []), some (.dat (.int low)), none] =
        some (.next, [some (.lst true (sD s')), some (.dat (.int (n : Nat))), some (.dat (.int low)), some (.dat (.int 3)), some (.lst false (acc.map .int)), some (.dat (.int v)), x]) := by
      rw [e_for]
      have : iOf rng1 (aCons (eVar 1) (ret [])) [some (.lst true (sD s)), some (.dat (.int (n : Nat))), some (.dat (.int low)), some (.dat (.int 3)), some (.lst false []), some (.dat (.int low)), none] = some (.ok (rngD 0 n), [some (.lst true (sD s)), some (.dat (.int (n : Nat))), some (.dat (.int low)), some (.dat (.int 3)), some (.lst false []), some (.dat (.int low)), none]) := by
        simp only [e_ret, e_nop, e_bnd, e_ite, e_opM, e_out0, e_outd, e_outn, fz0, fzd, fzl, fzi, bd, bl_, bi, zd, zl, zi, o1, o2, e_var, e_atS, e_s1, e_s2, e_sl, e_toS, e_seq, e_next, e_no, e_drop, e_sret, e_if, e_asg, e_asgp, p_nm, p_tp, p_nil, p_cons, a_bl, a_int, e_noX, e_callM, e_bodyD, dn_next, dn_ret, rp0, rp1, rp2, rp3, rp4, rp5, rp6, rp7, rp8, rp9, rp10, rp11, eq_ii, ne_ii, len_t, len_l, ix_t, ix_l, add_ii, sub_ii, neg_i, lt_ii, le_ii, gt_ii, ge_ii, isN_i, isN_n, notN_i, notN_n, notN_t, e_bin, e_una, e_tst, e_cand, e_cor, e_cnot, e_and, e_or, e_not, e_eif, e_acons, e_tup, e_lst, e_c, e_osome, e_B, e_call0, e_prp, e_met, e_fld, e_mak, e_makM, mkR_ok, e_calO, List.map_cons, List.map_nil, List.cons_append, List.nil_append, List.append_nil, List.getElem?_cons_zero, List.getElem?_cons_succ, List.set_cons_zero, List.set_cons_succ, List.length_cons, List.length_nil, List.length_map, Option.map_some, Option.map_none, reduceIte, Bool.false_eq_true, Bool.not_true, Bool.not_false, decide_true, decide_false, Nat.reduceAdd, Nat.reduceLT, Nat.reduceEqDiff, Nat.zero_add, Nat.lt_add_left_iff_pos, Nat.succ_pos, Nat.zero_lt_succ, few0, few1, few2, few3, e_rng, rng1_n (n := n) (by omega)]
      rw [this]
      exact e
    have c4 : sRet (eVar 4) [some (.lst true (sD s')), some (.dat (.int (n : Nat))), some (.dat (.int low)), some (.dat (.int 3)), some (.lst false (acc.map .int)), some (.dat (.int v)), x] = some (.ret (.dat (.lst (acc.map .int))), [some (.lst true (sD s')), some (.dat (.int (n : Nat))), some (.dat (.int low)), some (.dat (.int 3)), some (.dat (.lst (acc.map .int))), some (.dat (.int v)), x]) := by
      simp only [e_ret, e_nop, e_bnd, e_ite, e_opM, e_out0, e_outd, e_outn, fz0, fzd, fzl, fzi, bd, bl_, bi, zd, zl, zi, o1, o2, e_var, e_atS, e_s1, e_s2, e_sl, e_toS, e_seq, e_next, e_no, e_drop, e_sret, e_if, e_asg, e_asgp, p_nm, p_tp, p_nil, p_cons, a_bl, a_int, e_noX, e_callM, e_bodyD, dn_next, dn_ret, rp0, rp1, rp2, rp3, rp4, rp5, rp6, rp7, rp8, rp9, rp10, rp11, eq_ii, ne_ii, len_t, len_l, ix_t, ix_l, add_ii, sub_ii, neg_i, lt_ii, le_ii, gt_ii, ge_ii, isN_i, isN_n, notN_i, notN_n, notN_t, e_bin, e_una, e_tst, e_cand, e_cor, e_cnot, e_and, e_or, e_not, e_eif, e_acons, e_tup, e_lst, e_c, e_osome, e_B, e_call0, e_prp, e_met, e_fld, e_mak, e_makM, mkR_ok, e_calO, List.map_cons, List.map_nil, List.cons_append, List.nil_append, List.append_nil, List.getElem?_cons_zero, List.getElem?_cons_succ, List.set_cons_zero, List.set_cons_succ, List.length_cons, List.length_nil, List.length_map, Option.map_some, Option.map_none, reduceIte, Bool.false_eq_true, Bool.not_true, Bool.not_false, decide_true, decide_false, Nat.reduceAdd, Nat.reduceLT, Nat.reduceEqDiff, Nat.zero_add, Nat.lt_add_left_iff_pos, Nat.succ_pos, Nat.zero_lt_succ, few0, few1, few2, few3]
    show bodyB 3 b__law_rising _ _ = _
    simp only [e_bodyB, List.map_cons, List.map_nil, rp3, List.cons_append, List.nil_append]
    unfold b__law_rising
    rw [(seq_next c1).trans ((seq_next c2).trans ((seq_next c3).trans c4))]
    rfl
  · have := hr.rg x hx
    omega
theorem tab8 {a0 a1 a2 a3 a4 a5 a6 a7 : Int} {d : Int} (h0 : 0 ≤ d) (h1 : d < 8) : ∃ n, L2.atI [D.int a0, .int a1, .int a2, .int a3, .int a4, .int a5, .int a6, .int a7] d = some (.int n) ∧ (n = a0 ∨ n = a1 ∨ n = a2 ∨ n = a3 ∨ n = a4 ∨ n = a5 ∨ n = a6 ∨ n = a7) := by
  have : d = 0 ∨ d = 1 ∨ d = 2 ∨ d = 3 ∨ d = 4 ∨ d = 5 ∨ d = 6 ∨ d = 7 := by omega
  rcases this with rfl | rfl | rfl | rfl | rfl | rfl | rfl | rfl
  · exact ⟨a0, rfl, by simp⟩
  · exact ⟨a1, rfl, by simp⟩
  · exact ⟨a2, rfl, by simp⟩
  · exact ⟨a3, rfl, by simp⟩
  · exact ⟨a4, rfl, by simp⟩
  · exact ⟨a5, rfl, by simp⟩
  · exact ⟨a6, rfl, by simp⟩
  · exact ⟨a7, rfl, by simp⟩
theorem few8 (f : List D → Out) (a b c d e g h i : D) : few f [a, b, c, d, e, g, h, i] = some (f [a, b, c, d, e, g, h, i]) := rfl
end NF

set_option Elab.async false
set_option linter.all false
set_option maxRecDepth 100000
set_option maxHeartbeats 1000000
namespace NF
open SL PM
variable {h l : List Int} {r : Int} {m : Nat} {dh dl : D}
structure Sm (h l : List Int) (r : Int) : Prop where
  lh : h.length ≤ 4
  ll : l.length ≤ 4
  vh : ∀ x ∈ h, x ≤ 100
  vl : ∀ x ∈ l, x ≤ 100
  vr : r ≤ 12
  vh8 : ∀ x ∈ h, x ≤ 8
  vl16 : ∀ x ∈ l, x ≤ 16
  vs : r ≤ 4 * l.length
abbrev rs (s : Sr) (x2 x3 x4 x5 x6 x7 : Option T) : Sl := [some (.lst true (sD s)), some (.dat (.bl false)), x2, x3, x4, x5, x6, x7]
theorem rawpick (s : Sr) {k : Int} (h0 : 0 < k) (h1 : k < 4611686018427387904) : ∃ (d : Int) (s' : Sr), 0 ≤ d ∧ d < k ∧ ∀ x2 x3 x4 x5 x6 x7, eCallB 1 f__law_pick 0 (aCons (eC (.int k)) (ret [])) (rs s x2 x3 x4 x5 x6 x7) = some (.ok (.dat (.int d)), rs s' x2 x3 x4 x5 x6 x7) := by
  obtain ⟨d, s', hp, d0, d1⟩ := pick_ok s h0 h1
  exact ⟨d, s', d0, d1, fun x2 x3 x4 x5 x6 x7 => callB_run (ρ1 := rs s x2 x3 x4 x5 x6 x7) (ts := [.dat (.int k)]) (ds := [.int k]) (b := true) (xs := sD s) (t0 := .lst true (sD s)) rfl (by simp only [e_ret, e_nop, e_bnd, e_ite, e_opM, e_out0, e_outd, e_outn, fz0, fzd, fzl, fzi, bd, bl_, bi, zd, zl, zi, o1, o2, e_var, e_atS, e_s1, e_s2, e_sl, e_toS, e_seq, e_next, e_no, e_drop, e_sret, e_if, e_asg, e_asgp, p_nm, p_tp, p_nil, p_cons, a_bl, a_int, e_noX, e_callM, e_bodyD, dn_next, dn_ret, rp0, rp1, rp2, rp3, rp4, rp5, rp6, rp7, rp8, rp9, rp10, rp11, eq_ii, ne_ii, len_t, len_l, ix_t, ix_l, add_ii, sub_ii, neg_i, lt_ii, le_ii, gt_ii, ge_ii, isN_i, isN_n, notN_i, notN_n, notN_t, e_bin, e_una, e_tst, e_cand, e_cor, e_cnot, e_and, e_or, e_not, e_eif, e_acons, e_tup, e_lst, e_c, e_osome, e_B, e_call0, e_prp, e_met, e_fld, e_mak, e_makM, mkR_ok, e_calO, List.map_cons, List.map_nil, List.cons_append, List.nil_append, List.append_nil, List.getElem?_cons_zero, List.getElem?_cons_succ, List.set_cons_zero, List.set_cons_succ, List.length_cons, List.length_nil, List.length_map, Option.map_some, Option.map_none, reduceIte, Bool.false_eq_true, Bool.not_true, Bool.not_false, decide_true, decide_false, Nat.reduceAdd, Nat.reduceLT, Nat.reduceEqDiff, Nat.zero_add, Nat.lt_add_left_iff_pos, Nat.succ_pos, Nat.zero_lt_succ, few0, few1, few2, few3]) rfl rfl rfl hp⟩
theorem Ri.last_le {lo hi : Int} (a : Ri l lo hi) (hl : 0 < l.length) : l.getD 0 0 ≤ l.getD (l.length - 1) 0 := by
  rcases Nat.eq_or_lt_of_le (show 1 ≤ l.length by omega) with q | q
  · rw [← q]; exact Int.le_refl _
  · have := List.pairwise_iff_getElem.mp a.pw 0 (l.length - 1) (by omega) (by omega) (by omega)
    simpa [List.getD, show 0 < l.length by omega, show l.length - 1 < l.length by omega] using this
theorem raw_ok (s : Sr) : ∃ (h l : List Int) (r : Int) (s' : Sr), f__law_raw (.lst true (sD s)) [.bl false] = some (.ok (raw h l r), .lst true (sD s')) ∧ Val h l r ∧ Sm h l r := by
  have fin : ∀ {d : D} {s' : Sr} {x2 x3 x4 x5 x6 x7 : Option T}, b__law_raw (rs s none none none none none none) = some (.ret (.dat d), rs s' x2 x3 x4 x5 x6 x7) → f__law_raw (.lst true (sD s)) [.bl false] = some (.ok d, .lst true (sD s')) := by
    intro d s' x2 x3 x4 x5 x6 x7 e
    show bodyB 6 b__law_raw _ _ = _
    simp only [e_bodyB, List.map_cons, List.map_nil, rp6, List.cons_append, List.nil_append]
    rw [e]
    rfl
  -- the head
  obtain ⟨d1, s1, a0, a1, p1⟩ := rawpick s (k := 8) (by decide) (by decide)
  obtain ⟨n1, t1, hn1⟩ := tab8 (a0 := 0) (a1 := 1) (a2 := 2) (a3 := 0) (a4 := 3) (a5 := 1) (a6 := 4) (a7 := 2) a0 a1
  obtain ⟨k1, rfl, hk1⟩ : ∃ k : Nat, n1 = k ∧ k ≤ 4 := ⟨n1.toNat, by omega, by omega⟩
  obtain ⟨h, s2, e2, lh, rh⟩ := rising_ok s1 k1 0 (by omega)
  have c1 : sAsg 2 (eCallB 3 f__law_rising 0 (aCons (SL.bin ixF (eLst (aCons (eC (.int 0)) (aCons (eC (.int 1)) (aCons (eC (.int 2)) (aCons (eC (.int 0)) (aCons (eC (.int 3)) (aCons (eC (.int 1)) (aCons (eC (.int 4)) (aCons (eC (.int 2)) (ret [])))))))))) (eCallB 1 f__law_pick 0 (aCons (eC (.int 8)) (ret [])))) (aCons (eC (.int 0)) (aCons (eC (.int 3)) (ret [])))))
      (rs s none none none none none none) = some (.next, rs s2 (some (.dat (.lst (h.map .int)))) none none none none none) := by
    have : eCallB 3 f__law_rising 0 (aCons (SL.bin ixF (eLst (aCons (eC (.int 0)) (aCons (eC (.int 1)) (aCons (eC (.int 2)) (aCons (eC (.int 0)) (aCons (eC (.int 3)) (aCons (eC (.int 1)) (aCons (eC (.int 4)) (aCons (eC (.int 2)) (ret [])))))))))) (eCallB 1 f__law_pick 0 (aCons (eC (.int 8)) (ret [])))) (aCons (eC (.int 0)) (aCons (eC (.int 3)) (ret []))))
      (rs s none none none none none none) = some (.ok (.dat (.lst (h.map .int))), rs s2 none none none none none none) :=
      callB_run (ρ1 := rs s1 none none none none none none) (ts := [.dat (.int k1), .dat (.int 0), .dat (.int 3)]) (ds := [.int k1, .int 0, .int 3]) (b := true) (xs := sD s1) (t0 := .lst true (sD s)) rfl (by simp only [e_ret, e_nop, e_bnd, e_ite, e_opM, e_out0, e_outd, e_outn, fz0, fzd, fzl, fzi, bd, bl_, bi, zd, zl, zi, o1, o2, e_var, e_atS, e_s1, e_s2, e_sl, e_toS, e_seq, e_next, e_no, e_drop, e_sret, e_if, e_asg, e_asgp, p_nm, p_tp, p_nil, p_cons, a_bl, a_int, e_noX, e_callM, e_bodyD, dn_next, dn_ret, rp0, rp1, rp2, rp3, rp4, rp5, rp6, rp7, rp8, rp9, rp10, rp11, eq_ii, ne_ii, len_t, len_l, ix_t, ix_l, add_ii, sub_ii, neg_i, lt_ii, le_ii, gt_ii, ge_ii, isN_i, isN_n, notN_i, notN_n, notN_t, e_bin, e_una, e_tst, e_cand, e_cor, e_cnot, e_and, e_or, e_not, e_eif, e_acons, e_tup, e_lst, e_c, e_osome, e_B, e_call0, e_prp, e_met, e_fld, e_mak, e_makM, mkR_ok, e_calO, List.map_cons, List.map_nil, List.cons_append, List.nil_append, List.append_nil, List.getElem?_cons_zero, List.getElem?_cons_succ, List.set_cons_zero, List.set_cons_succ, List.length_cons, List.length_nil, List.length_map, Option.map_some, Option.map_none, reduceIte, Bool.false_eq_true, Bool.not_true, Bool.not_false, decide_true, decide_false, Nat.reduceAdd, Nat.reduceLT, Nat.reduceEqDiff, Nat.zero_add, Nat.lt_add_left_iff_pos, Nat.succ_pos, Nat.zero_lt_succ, few0, few1, few2, few3, few8, p1, t1]) rfl rfl rfl e2
    rw [e_asg, this]
    rfl
  -- the least value of the loop
  obtain ⟨low, hlow, hl0, hlh⟩ : ∃ low : Int, sAsg 3 (eIf (tst (SL.bin gtF (s1M lenF 2) (eC (.int 0)))) (s2M ixF 2 (una negF (eC (.int 1)))) (eC (.int 0))) (rs s2 (some (.dat (.lst (h.map .int)))) none none none none none) = some (.next, rs s2 (some (.dat (.lst (h.map .int)))) (some (.dat (.int low))) none none none none) ∧ (0 ≤ low ∧ low ≤ 8) ∧ (0 < h.length → h.getD (h.length - 1) 0 = low) := by
    by_cases q : 0 < (h.length : Int)
    · have b := rh.at_ (k := h.length - 1) (by omega)
      refine ⟨h.getD (h.length - 1) 0, ?_, by omega, fun _ => rfl⟩
      simp only [e_ret, e_nop, e_bnd, e_ite, e_opM, e_out0, e_outd, e_outn, fz0, fzd, fzl, fzi, bd, bl_, bi, zd, zl, zi, o1, o2, e_var, e_atS, e_s1, e_s2, e_sl, e_toS, e_seq, e_next, e_no, e_drop, e_sret, e_if, e_asg, e_asgp, p_nm, p_tp, p_nil, p_cons, a_bl, a_int, e_noX, e_callM, e_bodyD, dn_next, dn_ret, rp0, rp1, rp2, rp3, rp4, rp5, rp6, rp7, rp8, rp9, rp10, rp11, eq_ii, ne_ii, len_t, len_l, ix_t, ix_l, add_ii, sub_ii, neg_i, lt_ii, le_ii, gt_ii, ge_ii, isN_i, isN_n, notN_i, notN_n, notN_t, e_bin, e_una, e_tst, e_cand, e_cor, e_cnot, e_and, e_or, e_not, e_eif, e_acons, e_tup, e_lst, e_c, e_osome, e_B, e_call0, e_prp, e_met, e_fld, e_mak, e_makM, mkR_ok, e_calO, List.map_cons, List.map_nil, List.cons_append, List.nil_append, List.append_nil, List.getElem?_cons_zero, List.getElem?_cons_succ, List.set_cons_zero, List.set_cons_succ, List.length_cons, List.length_nil, List.length_map, Option.map_some, Option.map_none, reduceIte, Bool.false_eq_true, Bool.not_true, Bool.not_false, decide_true, decide_false, Nat.reduceAdd, Nat.reduceLT, Nat.reduceEqDiff, Nat.zero_add, Nat.lt_add_left_iff_pos, Nat.succ_pos, Nat.zero_lt_succ, few0, few1, few2, few3, q, at_m (l := h) (by omega)]
    · refine ⟨0, ?_, by omega, fun z => by omega⟩
      simp only [e_ret, e_nop, e_bnd, e_ite, e_opM, e_out0, e_outd, e_outn, fz0, fzd, fzl, fzi, bd, bl_, bi, zd, zl, zi, o1, o2, e_var, e_atS, e_s1, e_s2, e_sl, e_toS, e_seq, e_next, e_no, e_drop, e_sret, e_if, e_asg, e_asgp, p_nm, p_tp, p_nil, p_cons, a_bl, a_int, e_noX, e_callM, e_bodyD, dn_next, dn_ret, rp0, rp1, rp2, rp3, rp4, rp5, rp6, rp7, rp8, rp9, rp10, rp11, eq_ii, ne_ii, len_t, len_l, ix_t, ix_l, add_ii, sub_ii, neg_i, lt_ii, le_ii, gt_ii, ge_ii, isN_i, isN_n, notN_i, notN_n, notN_t, e_bin, e_una, e_tst, e_cand, e_cor, e_cnot, e_and, e_or, e_not, e_eif, e_acons, e_tup, e_lst, e_c, e_osome, e_B, e_call0, e_prp, e_met, e_fld, e_mak, e_makM, mkR_ok, e_calO, List.map_cons, List.map_nil, List.cons_append, List.nil_append, List.append_nil, List.getElem?_cons_zero, List.getElem?_cons_succ, List.set_cons_zero, List.set_cons_succ, List.length_cons, List.length_nil, List.length_map, Option.map_some, Option.map_none, reduceIte, Bool.false_eq_true, Bool.not_true, Bool.not_false, decide_true, decide_false, Nat.reduceAdd, Nat.reduceLT, Nat.reduceEqDiff, Nat.zero_add, Nat.lt_add_left_iff_pos, Nat.succ_pos, Nat.zero_lt_succ, few0, few1, few2, few3, q]
  obtain ⟨d3, s3, b0, b1, p3⟩ := rawpick s2 (k := 7) (by decide) (by decide)
  have vh : Sm h [] 0 := ⟨by omega, by simp, fun x hx => by have := rh.rg x hx; omega, by simp, by omega, fun x hx => by have := rh.rg x hx; omega, by simp, by simp⟩
  have tl : SL.tupF (.lst (h.map .int)) = some (.dt (ti h)) := rfl
  by_cases q3 : d3 = 3
  · refine ⟨h, [], 0, s3, fin (x2 := some (.dat (.lst (h.map .int)))) (x3 := some (.dat (.int low))) (x4 := none) (x5 := none) (x6 := none) (x7 := none) ?_, ⟨by omega, by simp, rh.nn (by omega), by simp, rh.ris, by simp [NF.ris], by simp, by omega, by unfold sml; omega, by simp, by simp⟩, vh⟩
    have c3 : sIf (cAnd (cNot (tst (eVar 1))) (tst (SL.bin eqF (eCallB 1 f__law_pick 0 (aCons (eC (.int 7)) (ret []))) (eC (.int 3))))) (sRet (eTup (aCons (s1M SL.tupF 2) (aCons (eTup (ret [])) (aCons (eC (.int 0)) (ret [])))))) (sNext) (rs s2 (some (.dat (.lst (h.map .int)))) (some (.dat (.int low))) none none none none) =
        some (.ret (.dat (raw h [] 0)), rs s3 (some (.dat (.lst (h.map .int)))) (some (.dat (.int low))) none none none none) := by
      simp only [e_ret, e_nop, e_bnd, e_ite, e_opM, e_out0, e_outd, e_outn, fz0, fzd, fzl, fzi, bd, bl_, bi, zd, zl, zi, o1, o2, e_var, e_atS, e_s1, e_s2, e_sl, e_toS, e_seq, e_next, e_no, e_drop, e_sret, e_if, e_asg, e_asgp, p_nm, p_tp, p_nil, p_cons, a_bl, a_int, e_noX, e_callM, e_bodyD, dn_next, dn_ret, rp0, rp1, rp2, rp3, rp4, rp5, rp6, rp7, rp8, rp9, rp10, rp11, eq_ii, ne_ii, len_t, len_l, ix_t, ix_l, add_ii, sub_ii, neg_i, lt_ii, le_ii, gt_ii, ge_ii, isN_i, isN_n, notN_i, notN_n, notN_t, e_bin, e_una, e_tst, e_cand, e_cor, e_cnot, e_and, e_or, e_not, e_eif, e_acons, e_tup, e_lst, e_c, e_osome, e_B, e_call0, e_prp, e_met, e_fld, e_mak, e_makM, mkR_ok, e_calO, List.map_cons, List.map_nil, List.cons_append, List.nil_append, List.append_nil, List.getElem?_cons_zero, List.getElem?_cons_succ, List.set_cons_zero, List.set_cons_succ, List.length_cons, List.length_nil, List.length_map, Option.map_some, Option.map_none, reduceIte, Bool.false_eq_true, Bool.not_true, Bool.not_false, decide_true, decide_false, Nat.reduceAdd, Nat.reduceLT, Nat.reduceEqDiff, Nat.zero_add, Nat.lt_add_left_iff_pos, Nat.succ_pos, Nat.zero_lt_succ, few0, few1, few2, few3, p3, q3, tl]
      rfl
    unfold b__law_raw
    exact (seq_next c1).trans ((seq_next hlow).trans (seq_ret c3))
  · have c3 : sIf (cAnd (cNot (tst (eVar 1))) (tst (SL.bin eqF (eCallB 1 f__law_pick 0 (aCons (eC (.int 7)) (ret []))) (eC (.int 3))))) (sRet (eTup (aCons (s1M SL.tupF 2) (aCons (eTup (ret [])) (aCons (eC (.int 0)) (ret [])))))) (sNext) (rs s2 (some (.dat (.lst (h.map .int)))) (some (.dat (.int low))) none none none none) =
        some (.next, rs s3 (some (.dat (.lst (h.map .int)))) (some (.dat (.int low))) none none none none) := by
      simp only [e_ret, e_nop, e_bnd, e_ite, e_opM, e_out0, e_outd, e_outn, fz0, fzd, fzl, fzi, bd, bl_, bi, zd, zl, zi, o1, o2, e_var, e_atS, e_s1, e_s2, e_sl, e_toS, e_seq, e_next, e_no, e_drop, e_sret, e_if, e_asg, e_asgp, p_nm, p_tp, p_nil, p_cons, a_bl, a_int, e_noX, e_callM, e_bodyD, dn_next, dn_ret, rp0, rp1, rp2, rp3, rp4, rp5, rp6, rp7, rp8, rp9, rp10, rp11, eq_ii, ne_ii, len_t, len_l, ix_t, ix_l, add_ii, sub_ii, neg_i, lt_ii, le_ii, gt_ii, ge_ii, isN_i, isN_n, notN_i, notN_n, notN_t, e_bin, e_una, e_tst, e_cand, e_cor, e_cnot, e_and, e_or, e_not, e_eif, e_acons, e_tup, e_lst, e_c, e_osome, e_B, e_call0, e_prp, e_met, e_fld, e_mak, e_makM, mkR_ok, e_calO, List.map_cons, List.map_nil, List.cons_append, List.nil_append, List.append_nil, List.getElem?_cons_zero, List.getElem?_cons_succ, List.set_cons_zero, List.set_cons_succ, List.length_cons, List.length_nil, List.length_map, Option.map_some, Option.map_none, reduceIte, Bool.false_eq_true, Bool.not_true, Bool.not_false, decide_true, decide_false, Nat.reduceAdd, Nat.reduceLT, Nat.reduceEqDiff, Nat.zero_add, Nat.lt_add_left_iff_pos, Nat.succ_pos, Nat.zero_lt_succ, few0, few1, few2, few3, p3, q3]
    obtain ⟨d4, s4, a40, a41, p4⟩ := rawpick s3 (k := 8) (by decide) (by decide)
    obtain ⟨n4, t4, hn4⟩ := tab8 (a0 := 1) (a1 := 2) (a2 := 1) (a3 := 3) (a4 := 2) (a5 := 1) (a6 := 4) (a7 := 3) a40 a41
    obtain ⟨k4, rfl, hk4⟩ : ∃ k : Nat, n4 = k ∧ (1 ≤ k ∧ k ≤ 4) := ⟨n4.toNat, by omega, by omega⟩
    have c4 : sAsg 4 (SL.bin ixF (eLst (aCons (eC (.int 1)) (aCons (eC (.int 2)) (aCons (eC (.int 1)) (aCons (eC (.int 3)) (aCons (eC (.int 2)) (aCons (eC (.int 1)) (aCons (eC (.int 4)) (aCons (eC (.int 3)) (ret [])))))))))) (eCallB 1 f__law_pick 0 (aCons (eC (.int 8)) (ret [])))) (rs s3 (some (.dat (.lst (h.map .int)))) (some (.dat (.int low))) none none none none) =
        some (.next, rs s4 (some (.dat (.lst (h.map .int)))) (some (.dat (.int low))) (some (.dat (.int (k4 : Nat)))) none none none) := by
      simp only [e_ret, e_nop, e_bnd, e_ite, e_opM, e_out0, e_outd, e_outn, fz0, fzd, fzl, fzi, bd, bl_, bi, zd, zl, zi, o1, o2, e_var, e_atS, e_s1, e_s2, e_sl, e_toS, e_seq, e_next, e_no, e_drop, e_sret, e_if, e_asg, e_asgp, p_nm, p_tp, p_nil, p_cons, a_bl, a_int, e_noX, e_callM, e_bodyD, dn_next, dn_ret, rp0, rp1, rp2, rp3, rp4, rp5, rp6, rp7, rp8, rp9, rp10, rp11, eq_ii, ne_ii, len_t, len_l, ix_t, ix_l, add_ii, sub_ii, neg_i, lt_ii, le_ii, gt_ii, ge_ii, isN_i, isN_n, notN_i, notN_n, notN_t, e_bin, e_una, e_tst, e_cand, e_cor, e_cnot, e_and, e_or, e_not, e_eif, e_acons, e_tup, e_lst, e_c, e_osome, e_B, e_call0, e_prp, e_met, e_fld, e_mak, e_makM, mkR_ok, e_calO, List.map_cons, List.map_nil, List.cons_append, List.nil_append, List.append_nil, List.getElem?_cons_zero, List.getElem?_cons_succ, List.set_cons_zero, List.set_cons_succ, List.length_cons, List.length_nil, List.length_map, Option.map_some, Option.map_none, reduceIte, Bool.false_eq_true, Bool.not_true, Bool.not_false, decide_true, decide_false, Nat.reduceAdd, Nat.reduceLT, Nat.reduceEqDiff, Nat.zero_add, Nat.lt_add_left_iff_pos, Nat.succ_pos, Nat.zero_lt_succ, few0, few1, few2, few3, few8, p4, t4]
    obtain ⟨l, s5, e5, ll, rl⟩ := rising_ok s4 k4 low (by omega)
    have c5 : sAsg 5 (eCallB 3 f__law_rising 0 (aCons (eVar 4) (aCons (eVar 3) (aCons (eC (.int 3)) (ret []))))) (rs s4 (some (.dat (.lst (h.map .int)))) (some (.dat (.int low))) (some (.dat (.int (k4 : Nat)))) none none none) =
        some (.next, rs s5 (some (.dat (.lst (h.map .int)))) (some (.dat (.int low))) (some (.dat (.int (k4 : Nat)))) (some (.dat (.lst (l.map .int)))) none none) := by
      have : eCallB 3 f__law_rising 0 (aCons (eVar 4) (aCons (eVar 3) (aCons (eC (.int 3)) (ret [])))) (rs s4 (some (.dat (.lst (h.map .int)))) (some (.dat (.int low))) (some (.dat (.int (k4 : Nat)))) none none none) =
          some (.ok (.dat (.lst (l.map .int))), rs s5 (some (.dat (.lst (h.map .int)))) (some (.dat (.int low))) (some (.dat (.int (k4 : Nat)))) none none none) :=
        callB_run (ρ1 := rs s4 (some (.dat (.lst (h.map .int)))) (some (.dat (.int low))) (some (.dat (.int (k4 : Nat)))) none none none) (ts := [.dat (.int (k4 : Nat)), .dat (.int low), .dat (.int 3)]) (ds := [.int (k4 : Nat), .int low, .int 3]) (b := true) (xs := sD s4) (t0 := .lst true (sD s4)) rfl (by simp only [e_ret, e_nop, e_bnd, e_ite, e_opM, e_out0, e_outd, e_outn, fz0, fzd, fzl, fzi, bd, bl_, bi, zd, zl, zi, o1, o2, e_var, e_atS, e_s1, e_s2, e_sl, e_toS, e_seq, e_next, e_no, e_drop, e_sret, e_if, e_asg, e_asgp, p_nm, p_tp, p_nil, p_cons, a_bl, a_int, e_noX, e_callM, e_bodyD, dn_next, dn_ret, rp0, rp1, rp2, rp3, rp4, rp5, rp6, rp7, rp8, rp9, rp10, rp11, eq_ii, ne_ii, len_t, len_l, ix_t, ix_l, add_ii, sub_ii, neg_i, lt_ii, le_ii, gt_ii, ge_ii, isN_i, isN_n, notN_i, notN_n, notN_t, e_bin, e_una, e_tst, e_cand, e_cor, e_cnot, e_and, e_or, e_not, e_eif, e_acons, e_tup, e_lst, e_c, e_osome, e_B, e_call0, e_prp, e_met, e_fld, e_mak, e_makM, mkR_ok, e_calO, List.map_cons, List.map_nil, List.cons_append, List.nil_append, List.append_nil, List.getElem?_cons_zero, List.getElem?_cons_succ, List.set_cons_zero, List.set_cons_succ, List.length_cons, List.length_nil, List.length_map, Option.map_some, Option.map_none, reduceIte, Bool.false_eq_true, Bool.not_true, Bool.not_false, decide_true, decide_false, Nat.reduceAdd, Nat.reduceLT, Nat.reduceEqDiff, Nat.zero_add, Nat.lt_add_left_iff_pos, Nat.succ_pos, Nat.zero_lt_succ, few0, few1, few2, few3]) rfl rfl rfl e5
      rw [e_asg, this]
      rfl
    obtain ⟨d6, s6, a60, a61, p6⟩ := rawpick s5 (k := 8) (by decide) (by decide)
    obtain ⟨n6, t6, hn6⟩ := tab8 (a0 := 1) (a1 := 2) (a2 := 1) (a3 := 0) (a4 := 3) (a5 := (k4 : Int)) (a6 := 2) (a7 := 1) a60 a61
    have c6 : sAsg 6 (SL.bin ixF (eLst (aCons (eC (.int 1)) (aCons (eC (.int 2)) (aCons (eC (.int 1)) (aCons (eC (.int 0)) (aCons (eC (.int 3)) (aCons (eVar 4) (aCons (eC (.int 2)) (aCons (eC (.int 1)) (ret [])))))))))) (eCallB 1 f__law_pick 0 (aCons (eC (.int 8)) (ret [])))) (rs s5 (some (.dat (.lst (h.map .int)))) (some (.dat (.int low))) (some (.dat (.int (k4 : Nat)))) (some (.dat (.lst (l.map .int)))) none none) =
        some (.next, rs s6 (some (.dat (.lst (h.map .int)))) (some (.dat (.int low))) (some (.dat (.int (k4 : Nat)))) (some (.dat (.lst (l.map .int)))) (some (.dat (.int n6))) none) := by
      simp only [e_ret, e_nop, e_bnd, e_ite, e_opM, e_out0, e_outd, e_outn, fz0, fzd, fzl, fzi, bd, bl_, bi, zd, zl, zi, o1, o2, e_var, e_atS, e_s1, e_s2, e_sl, e_toS, e_seq, e_next, e_no, e_drop, e_sret, e_if, e_asg, e_asgp, p_nm, p_tp, p_nil, p_cons, a_bl, a_int, e_noX, e_callM, e_bodyD, dn_next, dn_ret, rp0, rp1, rp2, rp3, rp4, rp5, rp6, rp7, rp8, rp9, rp10, rp11, eq_ii, ne_ii, len_t, len_l, ix_t, ix_l, add_ii, sub_ii, neg_i, lt_ii, le_ii, gt_ii, ge_ii, isN_i, isN_n, notN_i, notN_n, notN_t, e_bin, e_una, e_tst, e_cand, e_cor, e_cnot, e_and, e_or, e_not, e_eif, e_acons, e_tup, e_lst, e_c, e_osome, e_B, e_call0, e_prp, e_met, e_fld, e_mak, e_makM, mkR_ok, e_calO, List.map_cons, List.map_nil, List.cons_append, List.nil_append, List.append_nil, List.getElem?_cons_zero, List.getElem?_cons_succ, List.set_cons_zero, List.set_cons_succ, List.length_cons, List.length_nil, List.length_map, Option.map_some, Option.map_none, reduceIte, Bool.false_eq_true, Bool.not_true, Bool.not_false, decide_true, decide_false, Nat.reduceAdd, Nat.reduceLT, Nat.reduceEqDiff, Nat.zero_add, Nat.lt_add_left_iff_pos, Nat.succ_pos, Nat.zero_lt_succ, few0, few1, few2, few3, few8, p6, t6]
    have z0 : 0 < (l.length : Int) := by omega
    have i0 : L2.atI (l.map D.int) 0 = some (.int (l.getD 0 0)) := at_i (by omega) z0
    have c7 : sAsg 7 (SL.bin addF (SL.bin subF (s2M ixF 5 (una negF (eC (.int 1)))) (s2M ixF 5 (eC (.int 0)))) (eVar 6)) (rs s6 (some (.dat (.lst (h.map .int)))) (some (.dat (.int low))) (some (.dat (.int (k4 : Nat)))) (some (.dat (.lst (l.map .int)))) (some (.dat (.int n6))) none) =
        some (.next, rs s6 (some (.dat (.lst (h.map .int)))) (some (.dat (.int low))) (some (.dat (.int (k4 : Nat)))) (some (.dat (.lst (l.map .int)))) (some (.dat (.int n6))) (some (.dat (.int (l.getD (l.length - 1) 0 - l.getD 0 0 + n6))))) := by
      simp only [e_ret, e_nop, e_bnd, e_ite, e_opM, e_out0, e_outd, e_outn, fz0, fzd, fzl, fzi, bd, bl_, bi, zd, zl, zi, o1, o2, e_var, e_atS, e_s1, e_s2, e_sl, e_toS, e_seq, e_next, e_no, e_drop, e_sret, e_if, e_asg, e_asgp, p_nm, p_tp, p_nil, p_cons, a_bl, a_int, e_noX, e_callM, e_bodyD, dn_next, dn_ret, rp0, rp1, rp2, rp3, rp4, rp5, rp6, rp7, rp8, rp9, rp10, rp11, eq_ii, ne_ii, len_t, len_l, ix_t, ix_l, add_ii, sub_ii, neg_i, lt_ii, le_ii, gt_ii, ge_ii, isN_i, isN_n, notN_i, notN_n, notN_t, e_bin, e_una, e_tst, e_cand, e_cor, e_cnot, e_and, e_or, e_not, e_eif, e_acons, e_tup, e_lst, e_c, e_osome, e_B, e_call0, e_prp, e_met, e_fld, e_mak, e_makM, mkR_ok, e_calO, List.map_cons, List.map_nil, List.cons_append, List.nil_append, List.append_nil, List.getElem?_cons_zero, List.getElem?_cons_succ, List.set_cons_zero, List.set_cons_succ, List.length_cons, List.length_nil, List.length_map, Option.map_some, Option.map_none, reduceIte, Bool.false_eq_true, Bool.not_true, Bool.not_false, decide_true, decide_false, Nat.reduceAdd, Nat.reduceLT, Nat.reduceEqDiff, Nat.zero_add, Nat.lt_add_left_iff_pos, Nat.succ_pos, Nat.zero_lt_succ, few0, few1, few2, few3, at_m (l := l) (by omega), i0]
    have c8 : sIf (cAnd (tst (eVar 1)) (tst (SL.bin eqF (eVar 7) (eC (.int 0))))) (sAsg 7 (eC (.int 1))) (sNext) (rs s6 (some (.dat (.lst (h.map .int)))) (some (.dat (.int low))) (some (.dat (.int (k4 : Nat)))) (some (.dat (.lst (l.map .int)))) (some (.dat (.int n6))) (some (.dat (.int (l.getD (l.length - 1) 0 - l.getD 0 0 + n6))))) =
        some (.next, rs s6 (some (.dat (.lst (h.map .int)))) (some (.dat (.int low))) (some (.dat (.int (k4 : Nat)))) (some (.dat (.lst (l.map .int)))) (some (.dat (.int n6))) (some (.dat (.int (l.getD (l.length - 1) 0 - l.getD 0 0 + n6))))) := by
      simp only [e_ret, e_nop, e_bnd, e_ite, e_opM, e_out0, e_outd, e_outn, fz0, fzd, fzl, fzi, bd, bl_, bi, zd, zl, zi, o1, o2, e_var, e_atS, e_s1, e_s2, e_sl, e_toS, e_seq, e_next, e_no, e_drop, e_sret, e_if, e_asg, e_asgp, p_nm, p_tp, p_nil, p_cons, a_bl, a_int, e_noX, e_callM, e_bodyD, dn_next, dn_ret, rp0, rp1, rp2, rp3, rp4, rp5, rp6, rp7, rp8, rp9, rp10, rp11, eq_ii, ne_ii, len_t, len_l, ix_t, ix_l, add_ii, sub_ii, neg_i, lt_ii, le_ii, gt_ii, ge_ii, isN_i, isN_n, notN_i, notN_n, notN_t, e_bin, e_una, e_tst, e_cand, e_cor, e_cnot, e_and, e_or, e_not, e_eif, e_acons, e_tup, e_lst, e_c, e_osome, e_B, e_call0, e_prp, e_met, e_fld, e_mak, e_makM, mkR_ok, e_calO, List.map_cons, List.map_nil, List.cons_append, List.nil_append, List.append_nil, List.getElem?_cons_zero, List.getElem?_cons_succ, List.set_cons_zero, List.set_cons_succ, List.length_cons, List.length_nil, List.length_map, Option.map_some, Option.map_none, reduceIte, Bool.false_eq_true, Bool.not_true, Bool.not_false, decide_true, decide_false, Nat.reduceAdd, Nat.reduceLT, Nat.reduceEqDiff, Nat.zero_add, Nat.lt_add_left_iff_pos, Nat.succ_pos, Nat.zero_lt_succ, few0, few1, few2, few3]
    have tl2 : SL.tupF (.lst (l.map .int)) = some (.dt (ti l)) := rfl
    have c9 : sRet (eTup (aCons (s1M SL.tupF 2) (aCons (s1M SL.tupF 5) (aCons (eVar 7) (ret []))))) (rs s6 (some (.dat (.lst (h.map .int)))) (some (.dat (.int low))) (some (.dat (.int (k4 : Nat)))) (some (.dat (.lst (l.map .int)))) (some (.dat (.int n6))) (some (.dat (.int (l.getD (l.length - 1) 0 - l.getD 0 0 + n6))))) =
        some (.ret (.dat (raw h l (l.getD (l.length - 1) 0 - l.getD 0 0 + n6))), rs s6 (some (.dat (.lst (h.map .int)))) (some (.dat (.int low))) (some (.dat (.int (k4 : Nat)))) (some (.dat (.lst (l.map .int)))) (some (.dat (.int n6))) (some (.dat (.int (l.getD (l.length - 1) 0 - l.getD 0 0 + n6))))) := by
      simp only [e_ret, e_nop, e_bnd, e_ite, e_opM, e_out0, e_outd, e_outn, fz0, fzd, fzl, fzi, bd, bl_, bi, zd, zl, zi, o1, o2, e_var, e_atS, e_s1, e_s2, e_sl, e_toS, e_seq, e_next, e_no, e_drop, e_sret, e_if, e_asg, e_asgp, p_nm, p_tp, p_nil, p_cons, a_bl, a_int, e_noX, e_callM, e_bodyD, dn_next, dn_ret, rp0, rp1, rp2, rp3, rp4, rp5, rp6, rp7, rp8, rp9, rp10, rp11, eq_ii, ne_ii, len_t, len_l, ix_t, ix_l, add_ii, sub_ii, neg_i, lt_ii, le_ii, gt_ii, ge_ii, isN_i, isN_n, notN_i, notN_n, notN_t, e_bin, e_una, e_tst, e_cand, e_cor, e_cnot, e_and, e_or, e_not, e_eif, e_acons, e_tup, e_lst, e_c, e_osome, e_B, e_call0, e_prp, e_met, e_fld, e_mak, e_makM, mkR_ok, e_calO, List.map_cons, List.map_nil, List.cons_append, List.nil_append, List.append_nil, List.getElem?_cons_zero, List.getElem?_cons_succ, List.set_cons_zero, List.set_cons_succ, List.length_cons, List.length_nil, List.length_map, Option.map_some, Option.map_none, reduceIte, Bool.false_eq_true, Bool.not_true, Bool.not_false, decide_true, decide_false, Nat.reduceAdd, Nat.reduceLT, Nat.reduceEqDiff, Nat.zero_add, Nat.lt_add_left_iff_pos, Nat.succ_pos, Nat.zero_lt_succ, few0, few1, few2, few3, tl, tl2]
    have f0 := rl.at_ (k := 0) (by omega)
    have f1 := rl.at_ (k := l.length - 1) (by omega)
    have f2 := rl.last_le (by omega)
    have hn : 0 ≤ n6 ∧ n6 ≤ 4 := by omega
    refine ⟨h, l, l.getD (l.length - 1) 0 - l.getD 0 0 + n6, s6, fin (by
      unfold b__law_raw
      exact (seq_next c1).trans ((seq_next hlow).trans ((seq_next c3).trans ((seq_next c4).trans ((seq_next c5).trans ((seq_next c6).trans ((seq_next c7).trans ((seq_next c8).trans c9)))))))), ?_, ?_⟩
    · exact ⟨by omega, by omega, rh.nn (by omega), rl.nn (by omega), rh.ris, rl.ris, fun z _ => by rw [hlh z]; exact f0.1, by omega, by unfold sml; omega, fun z => by omega, fun _ => by omega⟩
    · refine ⟨by omega, by omega, fun x hx => by have := rh.rg x hx; omega, fun x hx => by have := rl.rg x hx; omega, by omega, fun x hx => by have := rh.rg x hx; omega, fun x hx => by have := rl.rg x hx; omega, ?_⟩
      by_cases q1 : k4 = 1
      · have : l.length - 1 = 0 := by omega
        rw [this]; omega
      · omega
end NF

set_option Elab.async false
set_option linter.all false
set_option maxRecDepth 100000
set_option maxHeartbeats 1000000
namespace NF
open SL PM
variable {h l : List Int} {r : Int} {m : Nat} {dh dl : D}
/-! == of a value and itself -/
theorem shps_i : ∀ (n : Nat) (l : List Int), shps n (l.map D.int) = true
  | n, [] => by simp [shps]
  | n, x :: l => by simp only [List.map_cons, shps, shps_i n l, shp]; rfl
theorem eqv_i : ∀ l : List Int, PySem.PyData.eqvAll (toPs (l.map D.int)) (toPs (l.map D.int)) = true
  | [] => by simp [toPs, PySem.PyData.eqvAll]
  | x :: l => by simp [toPs, toP, PySem.PyData.eqvAll, PySem.PyData.eqv, eqv_i l]
theorem eq_t (l : List Int) : eqD (ti l) (ti l) = true := by
  unfold eqD toP PySem.PyData.eqv; exact eqv_i l
theorem ne_self {d : D} (hs : shp 40 d = true) (he : eqD d d = true) : neF d d = some (.dt (.bl false)) := by
  unfold neF
  rw [if_pos ⟨hs, hs⟩, he]; rfl
theorem eqF_of {d e : D} (h1 : shp 40 d = true) (h2 : shp 40 e = true) : eqF d e = some (.dt (.bl (eqD d e))) := by
  unfold eqF
  rw [if_pos ⟨h1, h2⟩]
theorem sh_raw (h l : List Int) (r : Int) : shp 40 (raw h l r) = true := by
  simp only [shp, shps, shps_i]
  rfl
def eqR (h l : List Int) (r : Int) (h2 l2 : List Int) (r2 : Int) : Bool := eqD (ti h) (ti h2) && (eqD (ti l) (ti l2) && eqD (.int r) (.int r2))
theorem eq_raw (h l : List Int) (r : Int) (h2 l2 : List Int) (r2 : Int) : eqF (raw h l r) (raw h2 l2 r2) = some (.dt (.bl (eqR h l r h2 l2 r2))) := by
  rw [eqF_of (sh_raw _ _ _) (sh_raw _ _ _)]
  unfold eqR eqD
  have : toP (raw h l r) = .tuple [toP (ti h), toP (ti l), toP (.int r)] := by simp [toP, toPs]
  rw [this]
  have : toP (raw h2 l2 r2) = .tuple [toP (ti h2), toP (ti l2), toP (.int r2)] := by simp [toP, toPs]
  rw [this]
  simp [PySem.PyData.eqv, PySem.PyData.eqvAll]
/-! a table's own -/
theorem f_h (h l : List Int) (r : Int) : fldM cs_head "head" [tab h l r] = some (.dt (ti h)) := rfl
theorem f_l (h l : List Int) (r : Int) : fldM cs_loop "loop" [tab h l r] = some (.dt (ti l)) := rfl
theorem f_r (h l : List Int) (r : Int) : fldM cs_rise "rise" [tab h l r] = some (.dt (.int r)) := rfl
theorem eqR_self (h l : List Int) (r : Int) : eqR h l r h l r = true := by
  unfold eqR
  rw [eq_t, eq_t]
  show (true && (true && (r == r))) = true
  simp
theorem law_count (i : Int) : f__law_is_count [.int i] = some (.ok (.dat (.bl (decide (0 ≤ i))))) := by
  have e : f__law_is_integer [.int i] = some (.ok (.dat (.bl true))) := rfl
  unfold f__law_is_count b__law_is_count
  simp only [e_ret, e_nop, e_bnd, e_ite, e_opM, e_out0, e_outd, e_outn, fz0, fzd, fzl, fzi, bd, bl_, bi, zd, zl, zi, o1, o2, e_var, e_atS, e_s1, e_s2, e_sl, e_toS, e_seq, e_next, e_no, e_drop, e_sret, e_if, e_asg, e_asgp, p_nm, p_tp, p_nil, p_cons, a_bl, a_int, e_noX, e_callM, e_bodyD, dn_next, dn_ret, rp0, rp1, rp2, rp3, rp4, rp5, rp6, rp7, rp8, rp9, rp10, rp11, eq_ii, ne_ii, len_t, len_l, ix_t, ix_l, add_ii, sub_ii, neg_i, lt_ii, le_ii, gt_ii, ge_ii, isN_i, isN_n, notN_i, notN_n, notN_t, e_bin, e_una, e_tst, e_cand, e_cor, e_cnot, e_and, e_or, e_not, e_eif, e_acons, e_tup, e_lst, e_c, e_osome, e_B, e_call0, e_prp, e_met, e_fld, e_mak, e_makM, mkR_ok, e_calO, List.map_cons, List.map_nil, List.cons_append, List.nil_append, List.append_nil, List.getElem?_cons_zero, List.getElem?_cons_succ, List.set_cons_zero, List.set_cons_succ, List.length_cons, List.length_nil, List.length_map, Option.map_some, Option.map_none, reduceIte, Bool.false_eq_true, Bool.not_true, Bool.not_false, decide_true, decide_false, Nat.reduceAdd, Nat.reduceLT, Nat.reduceEqDiff, Nat.zero_add, Nat.lt_add_left_iff_pos, Nat.succ_pos, Nat.zero_lt_succ, few0, few1, few2, few3, e]
theorem call_ok {p : Int} (hp : 0 ≤ p) (hr : sml r) (hl : l.length ≤ 100000) : f_Table___call__ [tab h l r, .int p] = some (.ok (.dat (oD (vat h l r p)))) := by
  unfold f_Table___call__ b_Table___call__
  have := value_at_ok (h := h) hp hr hl
  simp only [e_ret, e_nop, e_bnd, e_ite, e_opM, e_out0, e_outd, e_outn, fz0, fzd, fzl, fzi, bd, bl_, bi, zd, zl, zi, o1, o2, e_var, e_atS, e_s1, e_s2, e_sl, e_toS, e_seq, e_next, e_no, e_drop, e_sret, e_if, e_asg, e_asgp, p_nm, p_tp, p_nil, p_cons, a_bl, a_int, e_noX, e_callM, e_bodyD, dn_next, dn_ret, rp0, rp1, rp2, rp3, rp4, rp5, rp6, rp7, rp8, rp9, rp10, rp11, eq_ii, ne_ii, len_t, len_l, ix_t, ix_l, add_ii, sub_ii, neg_i, lt_ii, le_ii, gt_ii, ge_ii, isN_i, isN_n, notN_i, notN_n, notN_t, e_bin, e_una, e_tst, e_cand, e_cor, e_cnot, e_and, e_or, e_not, e_eif, e_acons, e_tup, e_lst, e_c, e_osome, e_B, e_call0, e_prp, e_met, e_fld, e_mak, e_makM, mkR_ok, e_calO, List.map_cons, List.map_nil, List.cons_append, List.nil_append, List.append_nil, List.getElem?_cons_zero, List.getElem?_cons_succ, List.set_cons_zero, List.set_cons_succ, List.length_cons, List.length_nil, List.length_map, Option.map_some, Option.map_none, reduceIte, Bool.false_eq_true, Bool.not_true, Bool.not_false, decide_true, decide_false, Nat.reduceAdd, Nat.reduceLT, Nat.reduceEqDiff, Nat.zero_add, Nat.lt_add_left_iff_pos, Nat.succ_pos, Nat.zero_lt_succ, few0, few1, few2, few3, is_count_ok, hp, f_h, f_l, f_r, this]
end NF

set_option Elab.async false
set_option linter.all false
set_option maxRecDepth 100000
set_option maxHeartbeats 1000000
namespace SL
end SL
namespace NF
open SL PM
variable {h l : List Int} {r : Int} {m : Nat} {dh dl : D}
end NF

set_option Elab.async false
set_option linter.all false
set_option maxRecDepth 100000
set_option maxHeartbeats 1000000
namespace NF
open SL PM
variable {h l : List Int} {r : Int} {m : Nat} {dh dl : D}
/-- a plain table's bounds -/
structure Pl (h l : List Int) (r : Int) : Prop where
  bh : h.length ≤ 50000
  bl : l.length ≤ 50000
  nh : (h.all fun i => decide (0 ≤ i)) = true
  nl : (l.all fun i => decide (0 ≤ i)) = true
  r0 : 0 ≤ r
  r1 : r ≤ 1000000
theorem Pl.sm (p : Pl h l r) : sml r := by have := p.r0; have := p.r1; unfold sml; omega
theorem getD_nn (nh : (h.all fun i => decide (0 ≤ i)) = true) (k : Nat) : 0 ≤ h.getD k 0 := by
  rcases Nat.lt_or_ge k h.length with q | q
  · have := List.all_eq_true.mp nh h[k] (List.getElem_mem q)
    simpa [List.getD, q] using this
  · simp [List.getD, q]
abbrev vs (s : Sr) (h l : List Int) (r : Int) (x3 x4 x5 x6 : Option T) : Sl := [some (.lst true (sD s)), some (.dat (tab h l r)), some (.dat (raw h l r)), x3, x4, x5, x6]
end NF

set_option Elab.async false
set_option linter.all false
set_option maxRecDepth 100000
set_option maxHeartbeats 1000000
namespace NF
open SL PM
variable {h l : List Int} {r : Int} {m : Nat} {dh dl : D}
theorem bits_self (b : Int) : b.natAbs < 2 ^ PySem.Builtin.Int.intBits b := by
  unfold PySem.Builtin.Int.intBits
  by_cases z : b = 0
  · subst z; simp
  · have : (b == 0) = false := by simpa using z
    rw [this]
    simp only [Bool.false_eq_true, if_false]
    exact Nat.lt_log2_self
theorem bits_mono {a b : Int} (h : a.natAbs ≤ b.natAbs) : PySem.Builtin.Int.intBits a ≤ PySem.Builtin.Int.intBits b := PyProof.Rows.intBits_le (Nat.lt_of_le_of_lt h (bits_self b))
theorem shr_ex (i : Int) (k : Nat) (h0 : 0 ≤ i) : ∃ q : Int, shrF (.int i) (.int (k : Nat)) = some (.dt (.int q)) ∧ q.natAbs ≤ i.natAbs := by
  refine ⟨i / 2 ^ k, ?_, ?_⟩
  · show (if (0 : Int) ≤ (k : Int) then some (Out.dt (D.int (i / 2 ^ (k : Int).toNat))) else none) = _
    rw [if_pos (Int.natCast_nonneg k), Int.toNat_natCast]
  · obtain ⟨n, rfl⟩ : ∃ n : Nat, i = n := ⟨i.toNat, by omega⟩
    have e : ((n : Int) / 2 ^ k) = ((n / 2 ^ k : Nat) : Int) := by
      rw [Int.natCast_ediv, Int.natCast_pow]; rfl
    rw [e]
    exact Nat.div_le_self _ _
theorem shl_ex (q : Int) (k : Nat) (hk : k ≤ 5000) (hb : PySem.Builtin.Int.intBits q ≤ 60000000) : ∃ z : Int, shlF (.int q) (.int (k : Nat)) = some (.dt (.int z)) := by
  refine ⟨q * 2 ^ k, ?_⟩
  show (if (0 : Int) ≤ (k : Int) ∧ (k : Int) ≤ 5000 ∧ PySem.Builtin.Int.intBits q ≤ 60000000 then some (Out.dt (D.int (q * 2 ^ (k : Int).toNat))) else none) = _
  rw [if_pos ⟨Int.natCast_nonneg k, by omega, hb⟩, Int.toNat_natCast]
theorem abs_ex (c : Int) : ∃ n : Int, absF [.int c] = some (.dt (.int n)) ∧ 0 ≤ n ∧ n.natAbs = c.natAbs := by
  by_cases z : c < 0
  · exact ⟨-c, by show some (Out.dt (D.int (if c < 0 then -c else c))) = _; rw [if_pos z], by omega, by omega⟩
  · exact ⟨c, by show some (Out.dt (D.int (if c < 0 then -c else c))) = _; rw [if_neg z], by omega, rfl⟩
theorem source_ok (ns : List Int) (hb : ∀ k ∈ ns, PySem.Builtin.Int.intBits k ≤ 1048576) (p : Nat) (hp : p ≤ 10) : ∃ s : Sr, f__law_source [.scr ns, .int (p : Nat)] = some (.ok (.lst false (sD s))) := by
  obtain ⟨c, hc, cb⟩ : ∃ c : Int, sAsg 2 (eIf (tst (SL.bin ltF (eVar 1) (s1M lenF 0))) (s2M ixF 0 (eVar 1)) (SL.bin addF (SL.bin mulF (eC (.int 3)) (eVar 1)) (eC (.int 1)))) [some (.dat (.scr ns)), some (.dat (.int (p : Nat))), none, none, none, none] =
      some (.next, [some (.dat (.scr ns)), some (.dat (.int (p : Nat))), some (.dat (.int c)), none, none, none]) ∧ PySem.Builtin.Int.intBits c ≤ 1048576 := by
    have lf : lenF (.scr ns) = some (.dt (.int (ns.length : Nat))) := rfl
    by_cases q : (p : Int) < (ns.length : Int)
    · have hq : p < ns.length := by omega
      have ix : ixF (.scr ns) (.int (p : Nat)) = some (.dt (.int ns[p])) := by
        show (L2.atI ns (p : Int)).map (fun n => Out.dt (D.int n)) = _
        rw [atI_nat hq]
        simp [hq]
      exact ⟨ns[p], by simp only [e_ret, e_nop, e_bnd, e_ite, e_opM, e_out0, e_outd, e_outn, fz0, fzd, fzl, fzi, bd, bl_, bi, zd, zl, zi, o1, o2, e_var, e_atS, e_s1, e_s2, e_sl, e_toS, e_seq, e_next, e_no, e_drop, e_sret, e_if, e_asg, e_asgp, p_nm, p_tp, p_nil, p_cons, a_bl, a_int, e_noX, e_callM, e_bodyD, dn_next, dn_ret, rp0, rp1, rp2, rp3, rp4, rp5, rp6, rp7, rp8, rp9, rp10, rp11, eq_ii, ne_ii, len_t, len_l, ix_t, ix_l, add_ii, sub_ii, neg_i, lt_ii, le_ii, gt_ii, ge_ii, isN_i, isN_n, notN_i, notN_n, notN_t, e_bin, e_una, e_tst, e_cand, e_cor, e_cnot, e_and, e_or, e_not, e_eif, e_acons, e_tup, e_lst, e_c, e_osome, e_B, e_call0, e_prp, e_met, e_fld, e_mak, e_makM, mkR_ok, e_calO, List.map_cons, List.map_nil, List.cons_append, List.nil_append, List.append_nil, List.getElem?_cons_zero, List.getElem?_cons_succ, List.set_cons_zero, List.set_cons_succ, List.length_cons, List.length_nil, List.length_map, Option.map_some, Option.map_none, reduceIte, Bool.false_eq_true, Bool.not_true, Bool.not_false, decide_true, decide_false, Nat.reduceAdd, Nat.reduceLT, Nat.reduceEqDiff, Nat.zero_add, Nat.lt_add_left_iff_pos, Nat.succ_pos, Nat.zero_lt_succ, few0, few1, few2, few3, lf, q, ix], hb _ (List.getElem_mem hq)⟩
    · have k3 : sml (3 : Int) := by unfold sml; omega
      refine ⟨3 * (p : Int) + 1, by simp only [e_ret, e_nop, e_bnd, e_ite, e_opM, e_out0, e_outd, e_outn, fz0, fzd, fzl, fzi, bd, bl_, bi, zd, zl, zi, o1, o2, e_var, e_atS, e_s1, e_s2, e_sl, e_toS, e_seq, e_next, e_no, e_drop, e_sret, e_if, e_asg, e_asgp, p_nm, p_tp, p_nil, p_cons, a_bl, a_int, e_noX, e_callM, e_bodyD, dn_next, dn_ret, rp0, rp1, rp2, rp3, rp4, rp5, rp6, rp7, rp8, rp9, rp10, rp11, eq_ii, ne_ii, len_t, len_l, ix_t, ix_l, add_ii, sub_ii, neg_i, lt_ii, le_ii, gt_ii, ge_ii, isN_i, isN_n, notN_i, notN_n, notN_t, e_bin, e_una, e_tst, e_cand, e_cor, e_cnot, e_and, e_or, e_not, e_eif, e_acons, e_tup, e_lst, e_c, e_osome, e_B, e_call0, e_prp, e_met, e_fld, e_mak, e_makM, mkR_ok, e_calO, List.map_cons, List.map_nil, List.cons_append, List.nil_append, List.append_nil, List.getElem?_cons_zero, List.getElem?_cons_succ, List.set_cons_zero, List.set_cons_succ, List.length_cons, List.length_nil, List.length_map, Option.map_some, Option.map_none, reduceIte, Bool.false_eq_true, Bool.not_true, Bool.not_false, decide_true, decide_false, Nat.reduceAdd, Nat.reduceLT, Nat.reduceEqDiff, Nat.zero_add, Nat.lt_add_left_iff_pos, Nat.succ_pos, Nat.zero_lt_succ, few0, few1, few2, few3, lf, q, mul_ii (i := 3) (.inl k3)], ?_⟩
      exact Nat.le_trans (PyProof.Rows.intBits_le (k := 10) (by omega)) (by decide)
  have st (x0 x1 x2 x4 x5 : Option T) (v w : Int) (e : Mo T) (x : Option T) (he : e [x0, x1, x2, x, x4, x5] = some (.ok (.dat (.int v)), [x0, x1, x2, x, x4, x5])) (w0 : 0 < w) (ew : Mo T) (hw : ∀ ρ, ew ρ = some (.ok (.dat (.int w)), ρ)) :
      sAsg 3 (SL.bin modF (eB intF (aCons e (ret []))) ew) [x0, x1, x2, x, x4, x5] = some (.next, [x0, x1, x2, some (.dat (.int (v % w))), x4, x5]) := by
    simp only [e_ret, e_nop, e_bnd, e_ite, e_opM, e_out0, e_outd, e_outn, fz0, fzd, fzl, fzi, bd, bl_, bi, zd, zl, zi, o1, o2, e_var, e_atS, e_s1, e_s2, e_sl, e_toS, e_seq, e_next, e_no, e_drop, e_sret, e_if, e_asg, e_asgp, p_nm, p_tp, p_nil, p_cons, a_bl, a_int, e_noX, e_callM, e_bodyD, dn_next, dn_ret, rp0, rp1, rp2, rp3, rp4, rp5, rp6, rp7, rp8, rp9, rp10, rp11, eq_ii, ne_ii, len_t, len_l, ix_t, ix_l, add_ii, sub_ii, neg_i, lt_ii, le_ii, gt_ii, ge_ii, isN_i, isN_n, notN_i, notN_n, notN_t, e_bin, e_una, e_tst, e_cand, e_cor, e_cnot, e_and, e_or, e_not, e_eif, e_acons, e_tup, e_lst, e_c, e_osome, e_B, e_call0, e_prp, e_met, e_fld, e_mak, e_makM, mkR_ok, e_calO, List.map_cons, List.map_nil, List.cons_append, List.nil_append, List.append_nil, List.getElem?_cons_zero, List.getElem?_cons_succ, List.set_cons_zero, List.set_cons_succ, List.length_cons, List.length_nil, List.length_map, Option.map_some, Option.map_none, reduceIte, Bool.false_eq_true, Bool.not_true, Bool.not_false, decide_true, decide_false, Nat.reduceAdd, Nat.reduceLT, Nat.reduceEqDiff, Nat.zero_add, Nat.lt_add_left_iff_pos, Nat.succ_pos, Nat.zero_lt_succ, few0, few1, few2, few3, he, hw, int_i, mod_ii w0]
  have m1 : (0 : Int) < 2147483629 := by decide
  have k1 : sml (40503 : Int) := by unfold sml; omega
  have k2 : sml (69069 : Int) := by unfold sml; omega
  have c2 := st (some (.dat (.scr ns))) (some (.dat (.int (p : Nat)))) (some (.dat (.int c))) none none (c % 2147483629 + 40503 * (p : Int)) 2147483629 (SL.bin addF (SL.bin modF (eB intF (aCons (eVar 2) (ret []))) (eC (.int 2147483629))) (SL.bin mulF (eC (.int 40503)) (eVar 1))) none
    (by simp only [e_ret, e_nop, e_bnd, e_ite, e_opM, e_out0, e_outd, e_outn, fz0, fzd, fzl, fzi, bd, bl_, bi, zd, zl, zi, o1, o2, e_var, e_atS, e_s1, e_s2, e_sl, e_toS, e_seq, e_next, e_no, e_drop, e_sret, e_if, e_asg, e_asgp, p_nm, p_tp, p_nil, p_cons, a_bl, a_int, e_noX, e_callM, e_bodyD, dn_next, dn_ret, rp0, rp1, rp2, rp3, rp4, rp5, rp6, rp7, rp8, rp9, rp10, rp11, eq_ii, ne_ii, len_t, len_l, ix_t, ix_l, add_ii, sub_ii, neg_i, lt_ii, le_ii, gt_ii, ge_ii, isN_i, isN_n, notN_i, notN_n, notN_t, e_bin, e_una, e_tst, e_cand, e_cor, e_cnot, e_and, e_or, e_not, e_eif, e_acons, e_tup, e_lst, e_c, e_osome, e_B, e_call0, e_prp, e_met, e_fld, e_mak, e_makM, mkR_ok, e_calO, List.map_cons, List.map_nil, List.cons_append, List.nil_append, List.append_nil, List.getElem?_cons_zero, List.getElem?_cons_succ, List.set_cons_zero, List.set_cons_succ, List.length_cons, List.length_nil, List.length_map, Option.map_some, Option.map_none, reduceIte, Bool.false_eq_true, Bool.not_true, Bool.not_false, decide_true, decide_false, Nat.reduceAdd, Nat.reduceLT, Nat.reduceEqDiff, Nat.zero_add, Nat.lt_add_left_iff_pos, Nat.succ_pos, Nat.zero_lt_succ, few0, few1, few2, few3, int_i, mod_ii m1, mul_ii (i := 40503) (.inl k1)]) m1 (eC (.int 2147483629)) (fun _ => rfl)
  generalize (c % 2147483629 + 40503 * (p : Int)) % 2147483629 = v0 at c2
  have cs : iSeq (sSlM slF 0 (ret none) (oSome (eC (.int 2)))) [some (.dat (.scr ns)), some (.dat (.int (p : Nat))), some (.dat (.int c)), some (.dat (.int v0)), none, none] =
      some (.ok ((ns.take 2).map .int), [some (.dat (.scr ns)), some (.dat (.int (p : Nat))), some (.dat (.int c)), some (.dat (.int v0)), none, none]) := by
    have sl : slF (.scr ns) none (some 2) = some (.nl ((ns.take 2).map .int)) := by
      show some (Out.nl (cut (ns.map D.int) none (some ((2 : Nat) : Int)))) = _
      rw [cut_to, List.map_take]
    simp only [e_ret, e_nop, e_bnd, e_ite, e_opM, e_out0, e_outd, e_outn, fz0, fzd, fzl, fzi, bd, bl_, bi, zd, zl, zi, o1, o2, e_var, e_atS, e_s1, e_s2, e_sl, e_toS, e_seq, e_next, e_no, e_drop, e_sret, e_if, e_asg, e_asgp, p_nm, p_tp, p_nil, p_cons, a_bl, a_int, e_noX, e_callM, e_bodyD, dn_next, dn_ret, rp0, rp1, rp2, rp3, rp4, rp5, rp6, rp7, rp8, rp9, rp10, rp11, eq_ii, ne_ii, len_t, len_l, ix_t, ix_l, add_ii, sub_ii, neg_i, lt_ii, le_ii, gt_ii, ge_ii, isN_i, isN_n, notN_i, notN_n, notN_t, e_bin, e_una, e_tst, e_cand, e_cor, e_cnot, e_and, e_or, e_not, e_eif, e_acons, e_tup, e_lst, e_c, e_osome, e_B, e_call0, e_prp, e_met, e_fld, e_mak, e_makM, mkR_ok, e_calO, List.map_cons, List.map_nil, List.cons_append, List.nil_append, List.append_nil, List.getElem?_cons_zero, List.getElem?_cons_succ, List.set_cons_zero, List.set_cons_succ, List.length_cons, List.length_nil, List.length_map, Option.map_some, Option.map_none, reduceIte, Bool.false_eq_true, Bool.not_true, Bool.not_false, decide_true, decide_false, Nat.reduceAdd, Nat.reduceLT, Nat.reduceEqDiff, Nat.zero_add, Nat.lt_add_left_iff_pos, Nat.succ_pos, Nat.zero_lt_succ, few0, few1, few2, few3, e_iseq, sl, it_l]
  obtain ⟨ρ', e1, v, x4, rfl⟩ := for_inv (b := sAsg 3 (SL.bin modF (eB intF (aCons (SL.bin addF (SL.bin mulF (eVar 3) (eC (.int 69069))) (SL.bin modF (eB intF (aCons (eVar 4) (ret []))) (eC (.int 1000003)))) (ret []))) (eC (.int 2147483629)))) (p := .nm 4) ((ns.take 2).map .int)
    (fun i ρ => ∃ (v : Int) (x4 : Option T), ρ = [some (.dat (.scr ns)), some (.dat (.int (p : Nat))), some (.dat (.int c)), some (.dat (.int v)), x4, none]) [some (.dat (.scr ns)), some (.dat (.int (p : Nat))), some (.dat (.int c)), some (.dat (.int v0)), none, none]
    (by
      rintro i d ρ hd ⟨v, x4, rfl⟩
      obtain ⟨y, _, rfl⟩ := List.mem_map.mp (List.mem_of_getElem? hd)
      have m2 : (0 : Int) < 1000003 := by decide
      have e := st (some (.dat (.scr ns))) (some (.dat (.int (p : Nat)))) (some (.dat (.int c))) (some (.dat (.int y))) none (v * 69069 + y % 1000003) 2147483629 (SL.bin addF (SL.bin mulF (eVar 3) (eC (.int 69069))) (SL.bin modF (eB intF (aCons (eVar 4) (ret []))) (eC (.int 1000003)))) (some (.dat (.int v)))
        (by simp only [e_ret, e_nop, e_bnd, e_ite, e_opM, e_out0, e_outd, e_outn, fz0, fzd, fzl, fzi, bd, bl_, bi, zd, zl, zi, o1, o2, e_var, e_atS, e_s1, e_s2, e_sl, e_toS, e_seq, e_next, e_no, e_drop, e_sret, e_if, e_asg, e_asgp, p_nm, p_tp, p_nil, p_cons, a_bl, a_int, e_noX, e_callM, e_bodyD, dn_next, dn_ret, rp0, rp1, rp2, rp3, rp4, rp5, rp6, rp7, rp8, rp9, rp10, rp11, eq_ii, ne_ii, len_t, len_l, ix_t, ix_l, add_ii, sub_ii, neg_i, lt_ii, le_ii, gt_ii, ge_ii, isN_i, isN_n, notN_i, notN_n, notN_t, e_bin, e_una, e_tst, e_cand, e_cor, e_cnot, e_and, e_or, e_not, e_eif, e_acons, e_tup, e_lst, e_c, e_osome, e_B, e_call0, e_prp, e_met, e_fld, e_mak, e_makM, mkR_ok, e_calO, List.map_cons, List.map_nil, List.cons_append, List.nil_append, List.append_nil, List.getElem?_cons_zero, List.getElem?_cons_succ, List.set_cons_zero, List.set_cons_succ, List.length_cons, List.length_nil, List.length_map, Option.map_some, Option.map_none, reduceIte, Bool.false_eq_true, Bool.not_true, Bool.not_false, decide_true, decide_false, Nat.reduceAdd, Nat.reduceLT, Nat.reduceEqDiff, Nat.zero_add, Nat.lt_add_left_iff_pos, Nat.succ_pos, Nat.zero_lt_succ, few0, few1, few2, few3, int_i, mod_ii m2, mul_ii (j := 69069) (.inr k2)]) m1 (eC (.int 2147483629)) (fun _ => rfl)
      exact ⟨_, _, by simp only [e_ret, e_nop, e_bnd, e_ite, e_opM, e_out0, e_outd, e_outn, fz0, fzd, fzl, fzi, bd, bl_, bi, zd, zl, zi, o1, o2, e_var, e_atS, e_s1, e_s2, e_sl, e_toS, e_seq, e_next, e_no, e_drop, e_sret, e_if, e_asg, e_asgp, p_nm, p_tp, p_nil, p_cons, a_bl, a_int, e_noX, e_callM, e_bodyD, dn_next, dn_ret, rp0, rp1, rp2, rp3, rp4, rp5, rp6, rp7, rp8, rp9, rp10, rp11, eq_ii, ne_ii, len_t, len_l, ix_t, ix_l, add_ii, sub_ii, neg_i, lt_ii, le_ii, gt_ii, ge_ii, isN_i, isN_n, notN_i, notN_n, notN_t, e_bin, e_una, e_tst, e_cand, e_cor, e_cnot, e_and, e_or, e_not, e_eif, e_acons, e_tup, e_lst, e_c, e_osome, e_B, e_call0, e_prp, e_met, e_fld, e_mak, e_makM, mkR_ok, e_calO, List.map_cons, List.map_nil, List.cons_append, List.nil_append, List.append_nil, List.getElem?_cons_zero, List.getElem?_cons_succ, List.set_cons_zero, List.set_cons_succ, List.length_cons, List.length_nil, List.length_map, Option.map_some, Option.map_none, reduceIte, Bool.false_eq_true, Bool.not_true, Bool.not_false, decide_true, decide_false, Nat.reduceAdd, Nat.reduceLT, Nat.reduceEqDiff, Nat.zero_add, Nat.lt_add_left_iff_pos, Nat.succ_pos, Nat.zero_lt_succ, few0, few1, few2, few3], .inl e, _, _, rfl⟩)
    ⟨v0, none, rfl⟩
  have c3 : sFor (iSeq (sSlM slF 0 (ret none) (oSome (eC (.int 2))))) (.nm 4) (sAsg 3 (SL.bin modF (eB intF (aCons (SL.bin addF (SL.bin mulF (eVar 3) (eC (.int 69069))) (SL.bin modF (eB intF (aCons (eVar 4) (ret []))) (eC (.int 1000003)))) (ret []))) (eC (.int 2147483629)))) [some (.dat (.scr ns)), some (.dat (.int (p : Nat))), some (.dat (.int c)), some (.dat (.int v0)), none, none] =
      some (.next, [some (.dat (.scr ns)), some (.dat (.int (p : Nat))), some (.dat (.int c)), some (.dat (.int v)), x4, none]) := by
    rw [e_for, cs]; exact e1
  obtain ⟨n, ha, n0, nb⟩ := abs_ex c
  have c4 : sAsg 5 (eB absF (aCons (eVar 2) (ret []))) [some (.dat (.scr ns)), some (.dat (.int (p : Nat))), some (.dat (.int c)), some (.dat (.int v)), x4, none] = some (.next, [some (.dat (.scr ns)), some (.dat (.int (p : Nat))), some (.dat (.int c)), some (.dat (.int v)), x4, some (.dat (.int n))]) := by
    simp only [e_ret, e_nop, e_bnd, e_ite, e_opM, e_out0, e_outd, e_outn, fz0, fzd, fzl, fzi, bd, bl_, bi, zd, zl, zi, o1, o2, e_var, e_atS, e_s1, e_s2, e_sl, e_toS, e_seq, e_next, e_no, e_drop, e_sret, e_if, e_asg, e_asgp, p_nm, p_tp, p_nil, p_cons, a_bl, a_int, e_noX, e_callM, e_bodyD, dn_next, dn_ret, rp0, rp1, rp2, rp3, rp4, rp5, rp6, rp7, rp8, rp9, rp10, rp11, eq_ii, ne_ii, len_t, len_l, ix_t, ix_l, add_ii, sub_ii, neg_i, lt_ii, le_ii, gt_ii, ge_ii, isN_i, isN_n, notN_i, notN_n, notN_t, e_bin, e_una, e_tst, e_cand, e_cor, e_cnot, e_and, e_or, e_not, e_eif, e_acons, e_tup, e_lst, e_c, e_osome, e_B, e_call0, e_prp, e_met, e_fld, e_mak, e_makM, mkR_ok, e_calO, List.map_cons, List.map_nil, List.cons_append, List.nil_append, List.append_nil, List.getElem?_cons_zero, List.getElem?_cons_succ, List.set_cons_zero, List.set_cons_succ, List.length_cons, List.length_nil, List.length_map, Option.map_some, Option.map_none, reduceIte, Bool.false_eq_true, Bool.not_true, Bool.not_false, decide_true, decide_false, Nat.reduceAdd, Nat.reduceLT, Nat.reduceEqDiff, Nat.zero_add, Nat.lt_add_left_iff_pos, Nat.succ_pos, Nat.zero_lt_succ, few0, few1, few2, few3, ha]
  have k10 : sml (10 : Int) := by unfold sml; omega
  have w18 : powF (.int 10) (.int 18) = some (.dt (.int (10 ^ 18))) := pow_ii (n := 18) ⟨by decide, k10⟩
  have fin : ∀ {s : Sr} {ρ' : Sl}, b__law_source [some (.dat (.scr ns)), some (.dat (.int (p : Nat))), none, none, none, none] = some (.ret (.lst false (sD s)), ρ') → f__law_source [.scr ns, .int (p : Nat)] = some (.ok (.lst false (sD s))) := by
    intro s ρ' e
    show bodyD 4 b__law_source _ = _
    simp only [e_bodyD, List.map_cons, List.map_nil, rp4, List.cons_append, List.nil_append]
    rw [e]
    rfl
  by_cases q : n < 10 ^ 18
  · refine ⟨⟨0, v, 0⟩, fin (ρ' := [some (.dat (.scr ns)), some (.dat (.int (p : Nat))), some (.dat (.int c)), some (.dat (.int v)), x4, some (.dat (.int n))]) ?_⟩
    have c5 : sIf (tst (SL.bin ltF (eVar 5) (SL.bin powF (eC (.int 10)) (eC (.int 18))))) (sRet (eLst (aCons (eC (.int 0)) (aCons (eVar 3) (aCons (eC (.int 0)) (ret [])))))) (sNext) [some (.dat (.scr ns)), some (.dat (.int (p : Nat))), some (.dat (.int c)), some (.dat (.int v)), x4, some (.dat (.int n))] =
        some (.ret (.lst false [.int 0, .int v, .int 0]), [some (.dat (.scr ns)), some (.dat (.int (p : Nat))), some (.dat (.int c)), some (.dat (.int v)), x4, some (.dat (.int n))]) := by
      simp only [e_ret, e_nop, e_bnd, e_ite, e_opM, e_out0, e_outd, e_outn, fz0, fzd, fzl, fzi, bd, bl_, bi, zd, zl, zi, o1, o2, e_var, e_atS, e_s1, e_s2, e_sl, e_toS, e_seq, e_next, e_no, e_drop, e_sret, e_if, e_asg, e_asgp, p_nm, p_tp, p_nil, p_cons, a_bl, a_int, e_noX, e_callM, e_bodyD, dn_next, dn_ret, rp0, rp1, rp2, rp3, rp4, rp5, rp6, rp7, rp8, rp9, rp10, rp11, eq_ii, ne_ii, len_t, len_l, ix_t, ix_l, add_ii, sub_ii, neg_i, lt_ii, le_ii, gt_ii, ge_ii, isN_i, isN_n, notN_i, notN_n, notN_t, e_bin, e_una, e_tst, e_cand, e_cor, e_cnot, e_and, e_or, e_not, e_eif, e_acons, e_tup, e_lst, e_c, e_osome, e_B, e_call0, e_prp, e_met, e_fld, e_mak, e_makM, mkR_ok, e_calO, List.map_cons, List.map_nil, List.cons_append, List.nil_append, List.append_nil, List.getElem?_cons_zero, List.getElem?_cons_succ, List.set_cons_zero, List.set_cons_succ, List.length_cons, List.length_nil, List.length_map, Option.map_some, Option.map_none, reduceIte, Bool.false_eq_true, Bool.not_true, Bool.not_false, decide_true, decide_false, Nat.reduceAdd, Nat.reduceLT, Nat.reduceEqDiff, Nat.zero_add, Nat.lt_add_left_iff_pos, Nat.succ_pos, Nat.zero_lt_succ, few0, few1, few2, few3, w18, q]
    unfold b__law_source
    exact (seq_next hc).trans ((seq_next c2).trans ((seq_next c3).trans ((seq_next c4).trans (seq_ret c5))))
  · have c5 : sIf (tst (SL.bin ltF (eVar 5) (SL.bin powF (eC (.int 10)) (eC (.int 18))))) (sRet (eLst (aCons (eC (.int 0)) (aCons (eVar 3) (aCons (eC (.int 0)) (ret [])))))) (sNext) [some (.dat (.scr ns)), some (.dat (.int (p : Nat))), some (.dat (.int c)), some (.dat (.int v)), x4, some (.dat (.int n))] =
        some (.next, [some (.dat (.scr ns)), some (.dat (.int (p : Nat))), some (.dat (.int c)), some (.dat (.int v)), x4, some (.dat (.int n))]) := by
      simp only [e_ret, e_nop, e_bnd, e_ite, e_opM, e_out0, e_outd, e_outn, fz0, fzd, fzl, fzi, bd, bl_, bi, zd, zl, zi, o1, o2, e_var, e_atS, e_s1, e_s2, e_sl, e_toS, e_seq, e_next, e_no, e_drop, e_sret, e_if, e_asg, e_asgp, p_nm, p_tp, p_nil, p_cons, a_bl, a_int, e_noX, e_callM, e_bodyD, dn_next, dn_ret, rp0, rp1, rp2, rp3, rp4, rp5, rp6, rp7, rp8, rp9, rp10, rp11, eq_ii, ne_ii, len_t, len_l, ix_t, ix_l, add_ii, sub_ii, neg_i, lt_ii, le_ii, gt_ii, ge_ii, isN_i, isN_n, notN_i, notN_n, notN_t, e_bin, e_una, e_tst, e_cand, e_cor, e_cnot, e_and, e_or, e_not, e_eif, e_acons, e_tup, e_lst, e_c, e_osome, e_B, e_call0, e_prp, e_met, e_fld, e_mak, e_makM, mkR_ok, e_calO, List.map_cons, List.map_nil, List.cons_append, List.nil_append, List.append_nil, List.getElem?_cons_zero, List.getElem?_cons_succ, List.set_cons_zero, List.set_cons_succ, List.length_cons, List.length_nil, List.length_map, Option.map_some, Option.map_none, reduceIte, Bool.false_eq_true, Bool.not_true, Bool.not_false, decide_true, decide_false, Nat.reduceAdd, Nat.reduceLT, Nat.reduceEqDiff, Nat.zero_add, Nat.lt_add_left_iff_pos, Nat.succ_pos, Nat.zero_lt_succ, few0, few1, few2, few3, w18, q]
    obtain ⟨y, hy, yb⟩ := shr_ex n 4000 n0
    obtain ⟨z, hz⟩ := shl_ex y 4000 (by decide) (Nat.le_trans (bits_mono (b := c) (by omega)) (Nat.le_trans cb (by decide)))
    have hy' : shrF (.int n) (.int 4000) = some (.dt (.int y)) := hy
    have hz' : shlF (.int y) (.int 4000) = some (.dt (.int z)) := hz
    obtain ⟨n', c6⟩ : ∃ n' : Int, sIf (tst (SL.bin gtF (SL.bin shrF (eVar 5) (eC (.int 4000))) (eC (.int 0)))) (sAsg 5 (SL.bin subF (eVar 5) (SL.bin shlF (SL.bin shrF (eVar 5) (eC (.int 4000))) (eC (.int 4000))))) (sNext) [some (.dat (.scr ns)), some (.dat (.int (p : Nat))), some (.dat (.int c)), some (.dat (.int v)), x4, some (.dat (.int n))] =
        some (.next, [some (.dat (.scr ns)), some (.dat (.int (p : Nat))), some (.dat (.int c)), some (.dat (.int v)), x4, some (.dat (.int n'))]) := by
      by_cases t : 0 < y
      · exact ⟨n - z, by simp only [e_ret, e_nop, e_bnd, e_ite, e_opM, e_out0, e_outd, e_outn, fz0, fzd, fzl, fzi, bd, bl_, bi, zd, zl, zi, o1, o2, e_var, e_atS, e_s1, e_s2, e_sl, e_toS, e_seq, e_next, e_no, e_drop, e_sret, e_if, e_asg, e_asgp, p_nm, p_tp, p_nil, p_cons, a_bl, a_int, e_noX, e_callM, e_bodyD, dn_next, dn_ret, rp0, rp1, rp2, rp3, rp4, rp5, rp6, rp7, rp8, rp9, rp10, rp11, eq_ii, ne_ii, len_t, len_l, ix_t, ix_l, add_ii, sub_ii, neg_i, lt_ii, le_ii, gt_ii, ge_ii, isN_i, isN_n, notN_i, notN_n, notN_t, e_bin, e_una, e_tst, e_cand, e_cor, e_cnot, e_and, e_or, e_not, e_eif, e_acons, e_tup, e_lst, e_c, e_osome, e_B, e_call0, e_prp, e_met, e_fld, e_mak, e_makM, mkR_ok, e_calO, List.map_cons, List.map_nil, List.cons_append, List.nil_append, List.append_nil, List.getElem?_cons_zero, List.getElem?_cons_succ, List.set_cons_zero, List.set_cons_succ, List.length_cons, List.length_nil, List.length_map, Option.map_some, Option.map_none, reduceIte, Bool.false_eq_true, Bool.not_true, Bool.not_false, decide_true, decide_false, Nat.reduceAdd, Nat.reduceLT, Nat.reduceEqDiff, Nat.zero_add, Nat.lt_add_left_iff_pos, Nat.succ_pos, Nat.zero_lt_succ, few0, few1, few2, few3, hy', hz', t]⟩
      · exact ⟨n, by simp only [e_ret, e_nop, e_bnd, e_ite, e_opM, e_out0, e_outd, e_outn, fz0, fzd, fzl, fzi, bd, bl_, bi, zd, zl, zi, o1, o2, e_var, e_atS, e_s1, e_s2, e_sl, e_toS, e_seq, e_next, e_no, e_drop, e_sret, e_if, e_asg, e_asgp, p_nm, p_tp, p_nil, p_cons, a_bl, a_int, e_noX, e_callM, e_bodyD, dn_next, dn_ret, rp0, rp1, rp2, rp3, rp4, rp5, rp6, rp7, rp8, rp9, rp10, rp11, eq_ii, ne_ii, len_t, len_l, ix_t, ix_l, add_ii, sub_ii, neg_i, lt_ii, le_ii, gt_ii, ge_ii, isN_i, isN_n, notN_i, notN_n, notN_t, e_bin, e_una, e_tst, e_cand, e_cor, e_cnot, e_and, e_or, e_not, e_eif, e_acons, e_tup, e_lst, e_c, e_osome, e_B, e_call0, e_prp, e_met, e_fld, e_mak, e_makM, mkR_ok, e_calO, List.map_cons, List.map_nil, List.cons_append, List.nil_append, List.append_nil, List.getElem?_cons_zero, List.getElem?_cons_succ, List.set_cons_zero, List.set_cons_succ, List.length_cons, List.length_nil, List.length_map, Option.map_some, Option.map_none, reduceIte, Bool.false_eq_true, Bool.not_true, Bool.not_false, decide_true, decide_false, Nat.reduceAdd, Nat.reduceLT, Nat.reduceEqDiff, Nat.zero_add, Nat.lt_add_left_iff_pos, Nat.succ_pos, Nat.zero_lt_succ, few0, few1, few2, few3, hy', t]⟩
    refine ⟨⟨n', v, 0⟩, fin (ρ' := [some (.dat (.scr ns)), some (.dat (.int (p : Nat))), some (.dat (.int c)), some (.dat (.int v)), x4, some (.dat (.int n'))]) ?_⟩
    have c7 : sRet (eLst (aCons (eVar 5) (aCons (eVar 3) (aCons (eC (.int 0)) (ret []))))) [some (.dat (.scr ns)), some (.dat (.int (p : Nat))), some (.dat (.int c)), some (.dat (.int v)), x4, some (.dat (.int n'))] =
        some (.ret (.lst false [.int n', .int v, .int 0]), [some (.dat (.scr ns)), some (.dat (.int (p : Nat))), some (.dat (.int c)), some (.dat (.int v)), x4, some (.dat (.int n'))]) := by
      simp only [e_ret, e_nop, e_bnd, e_ite, e_opM, e_out0, e_outd, e_outn, fz0, fzd, fzl, fzi, bd, bl_, bi, zd, zl, zi, o1, o2, e_var, e_atS, e_s1, e_s2, e_sl, e_toS, e_seq, e_next, e_no, e_drop, e_sret, e_if, e_asg, e_asgp, p_nm, p_tp, p_nil, p_cons, a_bl, a_int, e_noX, e_callM, e_bodyD, dn_next, dn_ret, rp0, rp1, rp2, rp3, rp4, rp5, rp6, rp7, rp8, rp9, rp10, rp11, eq_ii, ne_ii, len_t, len_l, ix_t, ix_l, add_ii, sub_ii, neg_i, lt_ii, le_ii, gt_ii, ge_ii, isN_i, isN_n, notN_i, notN_n, notN_t, e_bin, e_una, e_tst, e_cand, e_cor, e_cnot, e_and, e_or, e_not, e_eif, e_acons, e_tup, e_lst, e_c, e_osome, e_B, e_call0, e_prp, e_met, e_fld, e_mak, e_makM, mkR_ok, e_calO, List.map_cons, List.map_nil, List.cons_append, List.nil_append, List.append_nil, List.getElem?_cons_zero, List.getElem?_cons_succ, List.set_cons_zero, List.set_cons_succ, List.length_cons, List.length_nil, List.length_map, Option.map_some, Option.map_none, reduceIte, Bool.false_eq_true, Bool.not_true, Bool.not_false, decide_true, decide_false, Nat.reduceAdd, Nat.reduceLT, Nat.reduceEqDiff, Nat.zero_add, Nat.lt_add_left_iff_pos, Nat.succ_pos, Nat.zero_lt_succ, few0, few1, few2, few3]
    unfold b__law_source
    exact (seq_next hc).trans ((seq_next c2).trans ((seq_next c3).trans ((seq_next c4).trans ((seq_next c5).trans ((seq_next c6).trans c7)))))
end NF

set_option Elab.async false
set_option linter.all false
set_option maxRecDepth 100000
set_option maxHeartbeats 1000000
namespace NF
open SL PM
variable {h l : List Int} {r : Int} {m : Nat} {dh dl : D}
theorem ris_at (hr : ris l = true) {k : Nat} (hk : k + 1 < l.length) : l.getD k 0 ≤ l.getD (k + 1) 0 := by
  unfold ris at hr
  have := List.all_eq_true.mp hr k (List.mem_range.mpr (by omega))
  simpa using this
theorem sq_mono (v : Val h l r) (hL : 0 < l.length) (n : Nat) : sq h l r n ≤ sq h l r (n + 1) := by
  rcases Nat.lt_or_ge (n + 1) h.length with a | a
  · rw [sq_head (by omega), sq_head a]
    exact ris_at v.rh a
  · rcases Nat.lt_or_ge n h.length with b | b
    · have e : n + 1 = h.length + 0 := by omega
      rw [sq_head b, e, sq_loop hL]
      have := v.hl (by omega) hL
      have e2 : h.length - 1 = n := by omega
      rwa [e2] at this
    · unfold sq
      rw [if_neg (by omega), if_neg (by omega)]
      obtain ⟨j, rfl⟩ : ∃ j, n = h.length + j := ⟨n - h.length, by omega⟩
      have e1 : h.length + j - h.length = j := by omega
      have e2 : h.length + j + 1 - h.length = j + 1 := by omega
      rw [e1, e2]
      have hd := Nat.div_add_mod j l.length
      have hm := Nat.mod_lt j hL
      generalize j / l.length = a at *
      generalize j % l.length = b at *
      by_cases w : b + 1 < l.length
      · have e3 : (j + 1) % l.length = b + 1 := by rw [← hd, Nat.add_assoc, Nat.mul_add_mod, Nat.mod_eq_of_lt w]
        have e4 : (j + 1) / l.length = a := by rw [← hd, Nat.add_assoc, Nat.mul_add_div hL, Nat.div_eq_of_lt w]; rfl
        rw [e3, e4]
        have := ris_at v.rl w
        omega
      · have e5 : j + 1 = l.length * (a + 1) := by rw [Nat.mul_succ]; omega
        have e3 : (j + 1) % l.length = 0 := by rw [e5, Nat.mul_mod_right]
        have e4 : (j + 1) / l.length = a + 1 := by rw [e5, Nat.mul_div_cancel_left _ hL]
        rw [e3, e4]
        have := v.lr hL
        have e6 : b = l.length - 1 := by omega
        rw [e6, Int.natCast_succ, Int.mul_add]
        omega
theorem sq_nn (v : Val h l r) (n : Nat) : 0 ≤ sq h l r n := by
  unfold sq
  split
  · exact getD_nn v.nh _
  · have h1 := getD_nn v.nl ((n - h.length) % l.length)
    have h2 := Int.mul_nonneg v.r0 (Int.natCast_nonneg ((n - h.length) / l.length))
    omega
theorem row_ris {f : Nat → Int} (hf : ∀ n, f n ≤ f (n + 1)) (a n : Nat) : ris (row f a n) = true := by
  unfold ris
  rw [row_length]
  simp only [List.all_eq_true, List.mem_range, decide_eq_true_eq]
  intro k hk
  rw [row_getD f (by omega), row_getD f (by omega)]
  exact hf (a + k)
theorem row_nn {f : Nat → Int} (hf : ∀ n, 0 ≤ f n) (a n : Nat) : ((row f a n).all fun i => decide (0 ≤ i)) = true := by
  simp only [row, List.all_eq_true, List.mem_map, decide_eq_true_eq]
  rintro x ⟨k, _, rfl⟩
  exact hf _
end NF

set_option Elab.async false
set_option linter.all false
set_option maxRecDepth 100000
set_option maxHeartbeats 1000000
namespace NF
open SL PM
variable {h l : List Int} {r : Int} {m : Nat} {dh dl : D}
end NF

set_option Elab.async false
set_option linter.all false
set_option maxRecDepth 100000
set_option maxHeartbeats 1000000
namespace NF
open SL PM
variable {h l : List Int} {r : Int} {m : Nat} {dh dl : D}
abbrev osl (s : Sr) (h l : List Int) (r : Int) (x2 x3 x4 : Option T) : Sl := [some (.lst true (sD s)), some (.dat (raw h l r)), x2, x3, x4]
end NF

set_option Elab.async false
set_option linter.all false
set_option maxRecDepth 100000
set_option maxHeartbeats 1000000
namespace NF
open SL PM

variable {h l : List Int} {r : Int} {m : Nat} {dh dl : D}
abbrev ins (h l : List Int) (r : Int) : T := .ins false "Table" ["head", "loop", "rise"] [ti h, ti l, .int r]
theorem law_table_ok (v : Val h l r) {h2 l2 : List Int} {r2 : Int} (hp : f_plain_form [ti h, ti l, .int r] = some (.ok (.dat (raw h2 l2 r2)))) : f__law_table [raw h l r] = some (.ok (ins h2 l2 r2)) := by
  have hi := init_ok (checked_ok v (lk_t h) (lk_t l) hp)
  unfold f__law_table b__law_table
  refine cl_eqi (cl_body (by simp only [List.map_cons, List.map_nil, List.cons_append, List.nil_append, List.append_nil, rp0, rp1, rp2, rp3, rp4, rp5, rp6, rp7, rp8, rp9, rp10, rp11, rp12, rp13, rp14, rp15, rp16, rp17, rp18, rp19]; exact rfl) ?_)
  and_intros
  refine mk_of hi ?_
  and_intros
end NF

set_option Elab.async false
set_option linter.all false
set_option maxRecDepth 100000
set_option maxHeartbeats 400000
namespace SL
end SL
namespace NF
open SL PM

variable {h l : List Int} {r : Int} {m : Nat} {dh dl : D} {Q : T → Prop}
end NF

set_option Elab.async false
set_option linter.all false
set_option maxRecDepth 100000
set_option maxHeartbeats 400000
namespace NF
open SL PM

variable {h l : List Int} {r : Int} {m : Nat} {dh dl : D} {Q : T → Prop}
end NF

set_option Elab.async false
set_option linter.all false
set_option maxRecDepth 100000
set_option maxHeartbeats 400000
namespace NF
open SL PM
variable {h l h2 l2 : List Int} {r r2 : Int} {m : Nat} {dh dl : D} {Q : T → Prop}
theorem val_rows {f : Nat → Int} {p N : Nat} {s : Int} (mono : ∀ n, f n ≤ f (n + 1)) (nn : ∀ n, 0 ≤ f n) (hp : 0 < p) (per : IsPer f p s N) (bN : N ≤ 50000) (bp : p ≤ 50000) (ss : sml s) : Val (row f 0 N) (row f N p) s := by
  have up : ∀ k n, f n ≤ f (n + k) := fun k n => by
    induction k with
    | zero => exact Int.le_refl _
    | succ k ih => exact Int.le_trans ih (mono (n + k))
  refine ⟨by rw [row_length]; exact bN, by rw [row_length]; exact bp, row_nn nn _ _, row_nn nn _ _, row_ris mono _ _, row_ris mono _ _, fun z _ => ?_, ?_, ss, fun z => ?_, fun _ => ?_⟩
  · rw [row_length] at z ⊢
    rw [row_getD _ (by omega), row_getD _ hp]
    have := mono (0 + (N - 1))
    have e : 0 + (N - 1) + 1 = N + 0 := by omega
    rwa [e] at this
  · have h1 := per N (Nat.le_refl _)
    have h2 := up p N
    omega
  · rw [row_length] at z; omega
  · rw [row_length, row_getD _ (by omega), row_getD _ hp]
    have h1 := per N (Nat.le_refl _)
    have h2 := mono (N + (p - 1))
    have e : N + (p - 1) + 1 = N + p := by omega
    rw [e] at h2
    rw [Nat.add_zero]
    omega
/-- a plain table -/
structure Tb (h l : List Int) (r : Int) : Prop where
  v : Val h l r
  c : 0 < l.length → Plain (sq h l r) h l r
theorem tb_new (v : Val h l r) : ∃ H L R, Tb H L R ∧ f_plain_form [ti h, ti l, .int r] = some (.ok (.dat (raw H L R))) ∧ PR h l r H L R ∧ H.length ≤ h.length ∧ (l.length = 0 → L = [] ∧ H = h ∧ R = 0) ∧ (0 < l.length → 0 < L.length ∧ sq H L R = sq h l r ∧ ∃ k : Nat, l.length = L.length * k ∧ r = R * k) := by
  obtain ⟨H, L, R, pr, hp, b1, b2, b3, b4, b5⟩ := plain_allP v
  have q1 := v.bh
  have q2 := v.bl
  rcases pr with ⟨rfl, rfl, rfl, rfl⟩ | ⟨z, pl⟩
  · have hr := v.rn rfl
    subst hr
    exact ⟨H, [], 0, ⟨v, fun z => by simp at z⟩, hp, .inl ⟨rfl, rfl, rfl, rfl⟩, Nat.le_refl _, fun _ => ⟨rfl, rfl, rfl⟩, fun z => by simp at z⟩
  · have e := pl.sq
    have pp := pl.pos
    obtain ⟨p, N, c, e1, e2⟩ := pl.ex
    have l1 : H.length = N := by rw [e1, row_length]
    have l2 : L.length = p := by rw [e2, row_length]
    have vv : Val H L R := by
      rw [e1, e2]
      exact val_rows (sq_mono v z) (sq_nn v) c.pos c.per (by omega) (by omega) b4
    refine ⟨H, L, R, ⟨vv, fun _ => by rw [e]; exact pl⟩, hp, .inr ⟨z, pl⟩, b1, fun q => by omega, fun _ => ⟨pp, e, ?_⟩⟩
    obtain ⟨k, k1, k2⟩ := dvd_of_least c.pos c.per c.least (sq_per (h := h) (r := r) z)
    exact ⟨k, by rw [l2]; exact k1, k2⟩
/-- the value behind place n + 1 -/
def vq (h l : List Int) (r : Int) (n : Nat) : Option Int := if l.length = 0 then h[n]? else some (sq h l r n)
theorem vq_loop (z : 0 < l.length) (n : Nat) : vq h l r n = some (sq h l r n) := by unfold vq; rw [if_neg (by omega)]
theorem vq_end (z : l.length = 0) (n : Nat) : vq h l r n = h[n]? := by unfold vq; rw [if_pos z]
/-! ### families of tables under both and either -/
structure Fam (F : Int → (Nat → Int) → Prop) (He : Nat) (Lk : Int) : Prop where
  mx : ∀ {S S' : Int} {f f' : Nat → Int}, F S f → F S' f' → F (max S S') (fun n => max (f n) (f' n))
  mn : ∀ {S S' : Int} {f f' : Nat → Int}, F S f → F S' f' → F (min S S') (fun n => min (f n) (f' n))
  lk : ∀ {S S' : Int} {f f' : Nat → Int}, F S f → F S' f' → S' < S → ∀ n, f' n - f n ≤ Lk
  mix : ∀ {S : Int} {f f' : Nat → Int} {H : Nat}, F S f → H ≤ He → (∀ n, 0 ≤ f' n) → F S (fun n => if n < H then min (f n) (f' n) else f n)
  s0 : ∀ {S : Int} {f : Nat → Int}, F S f → 0 ≤ S ∧ S ≤ 500000
  l0 : 0 ≤ Lk
structure Gv (F : Int → (Nat → Int) → Prop) (M0 He N : Nat) (h l : List Int) (r : Int) : Prop where
  v : Val h l r
  hb : h.length ≤ N
  he : l.length = 0 → h.length ≤ He
  lp : 0 < l.length → l.length ∣ M0
  lf : 0 < l.length → F (r * ((M0 / l.length : Nat) : Int)) (sq h l r)
theorem Gv.mono {F : Int → (Nat → Int) → Prop} {M0 He N M : Nat} (a : Gv F M0 He N h l r) (e : N ≤ M) : Gv F M0 He M h l r := ⟨a.v, Nat.le_trans a.hb e, a.he, a.lp, a.lf⟩
def jn (g : Bool) (a b : Int) : Int := if g then max a b else min a b
theorem Fam.j {F : Int → (Nat → Int) → Prop} {He : Nat} {Lk : Int} (fm : Fam F He Lk) {S S' : Int} {f f' : Nat → Int} (g : Bool) (a : F S f) (b : F S' f') : F (jn g S S') (fun n => jn g (f n) (f' n)) := by
  cases g
  · exact fm.mn a b
  · exact fm.mx a b
end NF

set_option Elab.async false
set_option linter.all false
set_option maxRecDepth 100000
set_option maxHeartbeats 400000
namespace NF
open SL PM
variable {h l h2 l2 : List Int} {r r2 : Int} {m : Nat} {dh dl : D} {Q : T → Prop} {F : Int → (Nat → Int) → Prop} {Lk : Int} {M0 He C N : Nat}
structure Gt (F : Int → (Nat → Int) → Prop) (M0 He N : Nat) (h l : List Int) (r : Int) : Prop where
  g : Gv F M0 He N h l r
  c : 0 < l.length → Plain (sq h l r) h l r
theorem Gt.tb (a : Gt F M0 He N h l r) : Tb h l r := ⟨a.g.v, a.c⟩
theorem Gt.mono {M : Nat} (a : Gt F M0 He N h l r) (e : N ≤ M) : Gt F M0 He M h l r := ⟨a.g.mono e, a.c⟩
end NF

set_option Elab.async false
set_option linter.all false
set_option maxRecDepth 100000
set_option maxHeartbeats 400000
namespace NF
open SL PM

variable {h l h2 l2 : List Int} {r r2 : Int} {m : Nat} {dh dl : D}
end NF

set_option Elab.async false
set_option linter.all false
set_option maxRecDepth 100000
set_option maxHeartbeats 400000
namespace SL
end SL
namespace NF
open SL PM

variable {h l h2 l2 : List Int} {r r2 : Int} {m : Nat} {dh dl : D}
end NF

set_option Elab.async false
set_option linter.all false
set_option maxRecDepth 100000
set_option maxHeartbeats 1000000
namespace NF
open SL PM

variable {h l h2 l2 : List Int} {r r2 : Int} {m : Nat} {dh dl : D} {F : Int → (Nat → Int) → Prop} {Lk : Int} {M0 He C N : Nat}
end NF

set_option Elab.async false
set_option linter.all false
set_option maxRecDepth 100000
set_option maxHeartbeats 1000000
namespace NF
open SL PM

variable {h l h2 l2 : List Int} {r r2 : Int} {m : Nat} {dh dl : D} {F : Int → (Nat → Int) → Prop} {Lk : Int} {M0 He C N : Nat}
end NF

set_option Elab.async false
set_option linter.all false
set_option maxRecDepth 100000
set_option maxHeartbeats 1000000
namespace SL
theorem atI_last' {ι : Type} {l : List ι} {φ : ι → D} {x : ι} (h : l[l.length - 1]? = some x) : L2.atI (l.map φ) (-1) = some (φ x) := by
  have hl : 0 < l.length := by have := (List.getElem?_eq_some_iff.mp h).1; omega
  rw [atI_last (by simpa using hl), List.getLast?_eq_getElem?, List.length_map, List.getElem?_map, h]
  rfl
theorem op_ixlastT {ι : Type} {l : List ι} {φ : ι → D} {x : ι} {Q : T → Prop} (h : l[l.length - 1]? = some x) (q : Q (.dat (φ x))) : Op (ixF (.tup (l.map φ)) (.int (-1))) Q := ⟨.dt (φ x), by show (L2.atI (l.map φ) (-1)).map Out.dt = _; rw [atI_last' h]; rfl, q⟩
end SL
namespace NF
open SL PM

variable {h l h2 l2 : List Int} {r r2 : Int} {m : Nat} {dh dl : D}
end NF

set_option Elab.async false
set_option linter.all false
set_option maxRecDepth 100000
set_option maxHeartbeats 1000000
namespace NF
open SL PM

variable {h l h2 l2 : List Int} {r r2 : Int} {m : Nat} {F : Int → (Nat → Int) → Prop} {M0 He C N : Nat}
end NF

set_option Elab.async false
set_option linter.all false
set_option maxRecDepth 100000
set_option maxHeartbeats 1000000
namespace NF
open SL PM

variable {h l h2 l2 : List Int} {r r2 : Int} {m : Nat} {F : Int → (Nat → Int) → Prop} {M0 He C N : Nat} {Lq : Int}
end NF

set_option Elab.async false
set_option linter.all false
set_option maxRecDepth 100000
set_option maxHeartbeats 1000000
namespace NF
open SL PM

variable {h l h2 l2 : List Int} {r r2 : Int} {m : Nat} {F : Int → (Nat → Int) → Prop} {M0 He C N : Nat} {Lq : Int} {Q : T → Prop}
theorem w_pick {s : Sr} {k : Int} (h0 : 0 < k) (h1 : k < 4611686018427387904) {Q : D → List D → Prop} (q : ∀ (d : Int) (s' : Sr), 0 ≤ d → d < k → Q (.int d) (sD s')) : ClL (f__law_pick (.lst true (sD s)) [.int k]) Q := by
  obtain ⟨d, s', e, a, b⟩ := pick_ok s h0 h1
  exact ⟨_, _, e, q d s' a b⟩
theorem w_raw {s : Sr} {Q : D → List D → Prop} (q : ∀ (h l : List Int) (r : Int) (s' : Sr), Val h l r → Sm h l r → Q (raw h l r) (sD s')) : ClL (f__law_raw (.lst true (sD s)) [.bl false]) Q := by
  obtain ⟨h, l, r, s', e, v, sm⟩ := raw_ok s
  exact ⟨_, _, e, q h l r s' v sm⟩
theorem w_source {ns : List Int} (hb : ∀ k ∈ ns, PySem.Builtin.Int.intBits k ≤ 1048576) (p : Nat) (hp : p ≤ 10) (q : ∀ s : Sr, Q (.lst false (sD s))) : Cl (f__law_source [.scr ns, .int (p : Nat)]) Q := by
  obtain ⟨s, e⟩ := source_ok ns hb p hp
  exact cl_l e (q s)
theorem tb_pr (a : Tb h l r) : PR h l r h l r := by
  rcases Nat.eq_zero_or_pos l.length with z | z
  · exact .inl ⟨List.eq_nil_of_length_eq_zero z, rfl, List.eq_nil_of_length_eq_zero z, a.v.rn z⟩
  · exact .inr ⟨z, a.c z⟩
theorem tb_plain (a : Tb h l r) : f_plain_form [ti h, ti l, .int r] = some (.ok (.dat (raw h l r))) := by
  obtain ⟨H, L, R, _, hp, pr, _⟩ := tb_new a.v
  obtain ⟨rfl, rfl, rfl⟩ := pr.uniq (tb_pr a)
  exact hp
theorem tb_init (a : Tb h l r) : f_Table___init__ (.ins true "Table" [] []) [ti h, ti l, .int r] = some (.ok .non, .ins true "Table" ["head", "loop", "rise"] [ti h, ti l, .int r]) :=
  init_ok (checked_ok a.v (lk_t h) (lk_t l) (tb_plain a))
/-- the table of a raw one -/
theorem w_table (v : Val h l r) (q : ∀ (H L : List Int) (R : Int), Tb H L R → PR h l r H L R → H.length ≤ h.length → (∀ n, vq H L R n = vq h l r n) → (l.length = 0 → L = []) → (0 < l.length → 0 < L.length ∧ sq H L R = sq h l r ∧ ∃ k : Nat, l.length = L.length * k ∧ r = R * k) → Q (ins H L R)) : Cl (f__law_table [raw h l r]) Q := by
  obtain ⟨H, L, R, tb, hp, pr, b1, z0, z1⟩ := tb_new v
  refine cl_i (law_table_ok v hp) (q H L R tb pr b1 (fun n => ?_) (fun z => (z0 z).1) z1)
  rcases Nat.eq_zero_or_pos l.length with z | z
  · obtain ⟨rfl, rfl, rfl⟩ := z0 z
    rw [vq_end z, vq_end rfl]
  · obtain ⟨a, b, _⟩ := z1 z
    rw [vq_loop z, vq_loop a, b]
end NF

set_option Elab.async false
set_option linter.all false
set_option maxRecDepth 100000
set_option maxHeartbeats 1000000
namespace NF
open SL PM

variable {h l h2 l2 : List Int} {r r2 : Int} {m : Nat} {Q : T → Prop}
end NF

set_option Elab.async false
set_option linter.all false
set_option maxRecDepth 100000
set_option maxHeartbeats 1000000
namespace NF
open SL PM
variable {h l h2 l2 : List Int} {r r2 : Int} {m : Nat} {Q : T → Prop}
theorem vat_z (h l : List Int) (r : Int) : vat h l r 0 = some 0 := by unfold vat; rw [if_pos rfl]
end NF

set_option Elab.async false
set_option linter.all false
set_option maxRecDepth 100000
set_option maxHeartbeats 1000000
namespace NF
open SL PM

variable {h l h2 l2 : List Int} {r r2 : Int} {m : Nat} {Q : T → Prop}
end NF

set_option Elab.async false
set_option linter.all false
set_option maxRecDepth 100000
set_option maxHeartbeats 1000000
namespace NF
open SL PM

variable {h l h2 l2 : List Int} {r r2 : Int} {m : Nat} {Q : T → Prop}
end NF

set_option Elab.async false
set_option linter.all false
set_option maxRecDepth 100000
set_option maxHeartbeats 1000000
namespace NF
open SL PM

variable {h l h2 l2 : List Int} {r r2 : Int} {m : Nat} {Q : T → Prop}
end NF

set_option Elab.async false
set_option linter.all false
set_option maxRecDepth 100000
set_option maxHeartbeats 1000000
namespace NF
open SL PM

variable {h l h2 l2 : List Int} {r r2 : Int} {m : Nat} {Q : T → Prop}
end NF

set_option Elab.async false
set_option linter.all false
set_option maxRecDepth 100000
set_option maxHeartbeats 1000000
namespace NF
open SL PM

variable {h l h2 l2 : List Int} {r r2 : Int} {m : Nat} {Q : T → Prop}
end NF

set_option Elab.async false
set_option linter.all false
set_option maxRecDepth 100000
set_option maxHeartbeats 1000000
namespace NF
open SL PM

variable {h l h2 l2 : List Int} {r r2 : Int} {m : Nat} {Q : T → Prop}
end NF

set_option Elab.async false
set_option linter.all false
set_option maxRecDepth 100000
set_option maxHeartbeats 1000000
namespace NF
open SL PM

variable {h l h2 l2 : List Int} {r r2 : Int} {m : Nat} {Q : T → Prop}
/-! ### shifts -/
def shH (k : Int) : List Int := if 0 ≤ k then [] else List.replicate (-k - 1).toNat 0
def shL (k : Int) : List Int := if 0 ≤ k then [1 + k] else [0]
theorem sh_row (k : Int) : shH k = row (fun n => max 0 ((n : Int) + 1 + k)) 0 (-k - 1).toNat ∧ shL k = row (fun n => max 0 ((n : Int) + 1 + k)) (-k - 1).toNat 1 := by
  unfold shH shL
  by_cases q : 0 ≤ k
  · have e : (-k - 1).toNat = 0 := by omega
    rw [if_pos q, if_pos q, e]
    refine ⟨rfl, ?_⟩
    show [1 + k] = [max 0 (((0 + 0 : Nat) : Int) + 1 + k)]
    congr 1; omega
  · rw [if_neg q, if_neg q]
    refine ⟨?_, ?_⟩
    · apply List.ext_getElem
      · rw [List.length_replicate, row_length]
      · intro i a b
        rw [List.length_replicate] at a
        simp only [row, List.getElem_replicate, List.getElem_map, List.getElem_range]
        omega
    · show [(0 : Int)] = [max 0 ((((-k - 1).toNat + 0 : Nat) : Int) + 1 + k)]
      congr 1; omega
theorem sh_per (k : Int) : IsPer (fun n : Nat => max 0 ((n : Int) + 1 + k)) 1 1 (-k - 1).toNat := fun n hn => by dsimp only; omega
theorem sh_val {k : Int} (hk : -5000 ≤ k ∧ k ≤ 5000) : Val (shH k) (shL k) 1 := by
  obtain ⟨e1, e2⟩ := sh_row k
  rw [e1, e2]
  exact val_rows (fun n => by omega) (fun n => by omega) (by decide) (sh_per k) (by omega) (by decide) (by decide)
theorem sh_tb {k : Int} (hk : -5000 ≤ k ∧ k ≤ 5000) : Tb (shH k) (shL k) 1 := by
  refine ⟨sh_val hk, fun z => ?_⟩
  obtain ⟨e1, e2⟩ := sh_row k
  have es : sq (shH k) (shL k) 1 = fun n : Nat => max 0 ((n : Int) + 1 + k) := by rw [e1, e2]; exact sq_row (by decide) (sh_per k)
  rw [es]
  refine ⟨1, (-k - 1).toNat, ⟨by decide, sh_per k, fun q s' N' h0 _ => h0, fun N' hp => ?_⟩, e1, e2⟩
  rcases Nat.lt_or_ge N' (-k - 1).toNat with q | q
  · exfalso
    have := hp ((-k - 1).toNat - 1) (by omega)
    dsimp only at this
    omega
  · exact q
end NF

set_option Elab.async false
set_option linter.all false
set_option maxRecDepth 100000
set_option maxHeartbeats 1000000
namespace NF
open SL PM

variable {h l h2 l2 : List Int} {r r2 : Int} {m : Nat} {Q : T → Prop}
theorem rep_zeros {k : Int} (h0 : 0 ≤ k) (h1 : k ≤ 100000) {Q : T → Prop} (q : Q (.dat (ti (List.replicate k.toNat 0)))) : Op (repF (.tup [.int 0]) (.int k)) Q := by
  refine ⟨.dt (ti (List.replicate k.toNat 0)), ?_, q⟩
  show (if -100000 ≤ k ∧ k ≤ 100000 ∧ k.toNat * [D.int 0].length ≤ 100000 ∧ [D.int 0] ≠ [] then some (Out.dt (.tup (List.replicate k.toNat [D.int 0]).flatten)) else none) = _
  rw [if_pos ⟨by omega, h1, by simp; omega, by simp⟩]
  show some (Out.dt (.tup _)) = some (Out.dt (.tup ((List.replicate k.toNat (0 : Int)).map .int)))
  congr 3
  generalize k.toNat = n
  induction n with
  | zero => rfl
  | succ n ih => rw [List.replicate_succ, List.flatten_cons, ih, List.replicate_succ]; rfl
theorem shift_ok {k : Int} (hk : -5000 ≤ k ∧ k ≤ 5000) : f_Table_shift [.int k] = some (.ok (ins (shH k) (shL k) 1)) := by
  have hi := tb_init (sh_tb hk)
  have hab : ¬ ((5000 : Int) < if k < 0 then -k else k) := by split <;> omega
  unfold f_Table_shift b_Table_shift k_MOST_SHIFT
  refine cl_eqi (cl_body (by simp only [List.map_cons, List.map_nil, List.cons_append, List.nil_append, List.append_nil, rp0, rp1, rp2, rp3, rp4, rp5, rp6, rp7, rp8, rp9, rp10, rp11, rp12, rp13, rp14, rp15, rp16, rp17, rp18, rp19]; exact rfl) ?_)
  and_intros
  refine cl_d (is_integer_ok k) ?_
  and_intros
  refine br_ds (fun q => ?_) (fun q => ?_)
  · have e1 : shH k = [] := if_pos q
    have e2 : shL k = [1 + k] := if_pos q
    rw [e1, e2] at hi ⊢
    and_intros
    refine mk_of hi ?_
    and_intros
  · have e1 : shH k = List.replicate (-k - 1).toNat 0 := if_neg q
    have e2 : shL k = [0] := if_neg q
    rw [e1, e2] at hi ⊢
    and_intros
    refine rep_zeros (by omega) (by omega) ?_
    and_intros
    refine mk_of hi ?_
    and_intros
theorem law_shift_ok {k : Int} (hk : -5000 ≤ k ∧ k ≤ 5000) : f__law_shift [.int k] = some (.ok (.dat (raw (shH k) (shL k) 1))) := by
  unfold f__law_shift b__law_shift
  refine cl_eq (cl_body (by simp only [List.map_cons, List.map_nil, List.cons_append, List.nil_append, List.append_nil, rp0, rp1, rp2, rp3, rp4, rp5, rp6, rp7, rp8, rp9, rp10, rp11, rp12, rp13, rp14, rp15, rp16, rp17, rp18, rp19]; exact rfl) ?_)
  and_intros
  refine br_ds (fun q => ?_) (fun q => ?_)
  · have e1 : shH k = [] := if_pos q
    have e2 : shL k = [1 + k] := if_pos q
    rw [e1, e2]
    and_intros
    first | done | rfl
  · have e1 : shH k = List.replicate (-k - 1).toNat 0 := if_neg q
    have e2 : shL k = [0] := if_neg q
    rw [e1, e2]
    and_intros
    refine rep_zeros (by omega) (by omega) ?_
    and_intros
    first | done | rfl
end NF

set_option Elab.async false
set_option linter.all false
set_option maxRecDepth 100000
set_option maxHeartbeats 1000000
namespace NF
open SL PM

variable {h l h2 l2 : List Int} {r r2 : Int} {m : Nat} {Q : T → Prop} {d dh dl dr : D}
def isCnt : D → Bool
  | .int i => decide (0 ≤ i)
  | _ => false
/-- a thing whose being a count is told -/
structure El (d : D) : Prop where
  p : f_is_count [d] = some (.ok (.dat (.bl (isCnt d))))
  q : f__law_is_count [d] = some (.ok (.dat (.bl (isCnt d))))
theorem el_int (i : Int) : El (.int i) := ⟨is_count_ok i, law_count i⟩
theorem el_true : El (.bl true) := ⟨rfl, rfl⟩
theorem el_str (s : PySem.Str) : El (.str s) := ⟨rfl, rfl⟩
theorem el_non : El .non := ⟨rfl, rfl⟩
theorem el_tup (xs : List D) : El (.tup xs) := ⟨rfl, rfl⟩
theorem isTL_lk {c : D} (h : Lk l c) : isTLF cs0 c = some (.dt (.bl true)) := by cases h <;> rfl
theorem counts_list {xs : List D} (he : ∀ x ∈ xs, El x) (hl : xs.length ≤ 100000) : f_is_counts [.lst xs] = some (.ok (.dat (.bl (xs.all isCnt)))) := by
  unfold f_is_counts b_is_counts
  refine cl_eq (cl_body (by simp only [List.map_cons, List.map_nil, List.cons_append, List.nil_append, List.append_nil, rp0, rp1, rp2, rp3, rp4, rp5, rp6, rp7, rp8, rp9, rp10, rp11, rp12, rp13, rp14, rp15, rp16, rp17, rp18, rp19]; exact rfl) ?_)
  and_intros
  refine cl_d (show f_is_listed [.lst xs] = some (.ok (.dat (.bl true))) from rfl) ?_
  and_intros
  refine we_lc xs (fun x => x) (fun x => .bl (isCnt x)) ?_
  and_intros
  refine ⟨by simp, by simp, hl, fun x hx => ?_, ?_⟩
  · simp only [List.set_cons_succ, List.set_cons_zero]
    and_intros
    refine cl_d (he x hx).p ?_
    and_intros
  · simp only [List.set_cons_succ, List.set_cons_zero]
    and_intros
    refine op_dt (all_map _ _) ?_
    and_intros
/-- the rising of ints -/
theorem law_good_ok {c : D} (hc : Lk l c) (hl : l.length ≤ 50000) : f__law_good [c] = some (.ok (.dat (.bl ((l.all fun i => decide (0 ≤ i)) && ris l)))) := by
  unfold f__law_good b__law_good
  refine cl_eq (cl_body (by simp only [List.map_cons, List.map_nil, List.cons_append, List.nil_append, List.append_nil, rp0, rp1, rp2, rp3, rp4, rp5, rp6, rp7, rp8, rp9, rp10, rp11, rp12, rp13, rp14, rp15, rp16, rp17, rp18, rp19]; exact rfl) ?_)
  and_intros
  refine op_dt (isTL_lk hc) ?_
  and_intros
  refine we_lc l .int (fun i => .bl (decide (0 ≤ i))) ?_
  and_intros
  refine ⟨_, hc.items, rfl, by simp, by omega, fun x hx => ?_, ?_⟩
  · simp only [List.set_cons_succ, List.set_cons_zero]
    and_intros
    refine cl_d (law_count x) ?_
    and_intros
  simp only [List.set_cons_succ, List.set_cons_zero]
  and_intros
  refine op_dt (all_map _ _) ?_
  and_intros
  cases hn : (l.all fun i => decide (0 ≤ i)) with
  | false =>
    and_intros
    rfl
  | true =>
    and_intros
    refine we_lc (List.range (l.length - 1)) (fun k => .int (0 + (k : Nat))) (fun k => .bl (decide (l.getD k 0 ≤ l.getD (k + 1) 0))) ?_
    and_intros
    refine op_dt hc.len ?_
    and_intros
    refine ⟨_, ?_, rfl, by simp, by simp; omega, fun k hk => ?_, ?_⟩
    · rcases Nat.eq_zero_or_pos l.length with z | z
      · rw [rng1_i (j := (l.length : Int) - 1) ⟨by omega, by omega⟩]
        rw [show ((l.length : Int) - 1).toNat = l.length - 1 by omega]
        rfl
      · exact rng1_z (n := l.length - 1) (by omega) (by omega)
    · have hk := List.mem_range.mp hk
      simp only [List.set_cons_succ, List.set_cons_zero]
      rw [Int.zero_add]
      and_intros
      refine op_dt (hc.ix (i := (k : Int)) (by omega) (by omega)) ?_
      and_intros
      refine op_dt (hc.ix (i := (k : Int) + 1) (by omega) (by omega)) ?_
      and_intros
    · simp only [List.set_cons_succ, List.set_cons_zero]
      and_intros
      refine op_dt (all_map _ _) ?_
      and_intros
      first | done | rfl | (rw [Bool.true_and]; first | done | rfl)
theorem law_good_list {xs : List D} (he : ∀ x ∈ xs, El x) (hl : xs.length ≤ 100000) (hn : xs.all isCnt = false) : f__law_good [.lst xs] = some (.ok (.dat (.bl false))) := by
  unfold f__law_good b__law_good
  refine cl_eq (cl_body (by simp only [List.map_cons, List.map_nil, List.cons_append, List.nil_append, List.append_nil, rp0, rp1, rp2, rp3, rp4, rp5, rp6, rp7, rp8, rp9, rp10, rp11, rp12, rp13, rp14, rp15, rp16, rp17, rp18, rp19]; exact rfl) ?_)
  and_intros
  refine br_t rfl ?_
  and_intros
  refine we_lc xs (fun x => x) (fun x => .bl (isCnt x)) ?_
  and_intros
  refine ⟨by simp, by simp, hl, fun x hx => ?_, ?_⟩
  · simp only [List.set_cons_succ, List.set_cons_zero]
    and_intros
    refine cl_d (he x hx).q ?_
    and_intros
  simp only [List.set_cons_succ, List.set_cons_zero]
  and_intros
  refine op_dt (all_map _ _) ?_
  rw [hn]
  and_intros
/-- a head or a loop as passed: ints, or what is refused -/
structure Kd (d : D) (o : Option (List Int)) : Prop where
  c : ∀ l, o = some l → Lk l d ∧ l.length ≤ 1000
  n : o = none → f_is_counts [d] = some (.ok (.dat (.bl false))) ∧ f__law_good [d] = some (.ok (.dat (.bl false)))
def gd : Option (List Int) → Bool
  | none => false
  | some l => (l.all fun i => decide (0 ≤ i)) && ris l
theorem kd_ints (a : Lk l d) (b : l.length ≤ 1000) : Kd d (some l) := ⟨fun l' e => (by cases e; exact ⟨a, b⟩), fun e => (by cases e)⟩
theorem ints_of : ∀ {xs : List D}, (∀ x ∈ xs, ∃ i, x = .int i) → ∃ l : List Int, xs = l.map .int
  | [], _ => ⟨[], rfl⟩
  | x :: xs, h => by
    obtain ⟨i, rfl⟩ := h x (List.mem_cons_self ..)
    obtain ⟨l, rfl⟩ := ints_of fun y hy => h y (List.mem_cons_of_mem _ hy)
    exact ⟨i :: l, rfl⟩
theorem kd_list {xs : List D} (he : ∀ x ∈ xs, El x) (hl : xs.length ≤ 1000) : ∃ o, Kd (.lst xs) o := by
  by_cases c : ∀ x ∈ xs, ∃ i, x = .int i
  · obtain ⟨l, rfl⟩ := ints_of c
    exact ⟨some l, kd_ints .l (by simpa using hl)⟩
  · have hn : xs.all isCnt = false := by
      cases e : xs.all isCnt with
      | false => rfl
      | true =>
        exfalso
        refine c fun x hx => ?_
        have := List.all_eq_true.mp e x hx
        cases x with
        | int i => exact ⟨i, rfl⟩
        | _ => cases this
    refine ⟨none, fun l e => (by cases e), fun _ => ⟨?_, law_good_list he (by omega) hn⟩⟩
    rw [counts_list he (by omega), hn]
theorem kd_thing (hd : d = .non ∨ d = .int 7 ∨ d = .str "12" ∨ d = .dic [] [] ∨ d = .bl true) : Kd d none := by
  refine ⟨fun l e => (by cases e), fun _ => ?_⟩
  rcases hd with rfl | rfl | rfl | rfl | rfl <;> exact ⟨rfl, rfl⟩
/-- a rise as passed -/
structure Rd (d : D) (o : Option Int) : Prop where
  c : ∀ r, o = some r → d = .int r ∧ -1000 ≤ r ∧ r ≤ 1000
  n : o = none → f_is_count [d] = some (.ok (.dat (.bl false))) ∧ f__law_is_count [d] = some (.ok (.dat (.bl false)))
theorem rd_int {r : Int} (h : -1000 ≤ r ∧ r ≤ 1000) : Rd (.int r) (some r) := ⟨fun r' e => (by cases e; exact ⟨rfl, h⟩), fun e => (by cases e)⟩
theorem rd_bad (e : El d) (h : isCnt d = false) : Rd d none := ⟨fun r' e => (by cases e), fun _ => by rw [e.p, e.q, h]; exact ⟨rfl, rfl⟩⟩
theorem good_eq (k : Kd d o) : f__law_good [d] = some (.ok (.dat (.bl (gd o)))) := by
  cases o with
  | none => exact (k.n rfl).2
  | some l => obtain ⟨a, b⟩ := k.c l rfl; exact law_good_ok a (by omega)
/-- the program's test of a head or a loop -/
theorem t_good {ρ : Sl} {i : Nat} {o : Option (List Int)} (k : Kd d o) (hρ : ρ[i]? = some (some (.dat d))) : We (cOr (cNot (tst (eCall0 1 f_is_counts [] (aCons (eVar i) (ret []))))) (cNot (tst (eCall0 1 f_is_rising [] (aCons (eVar i) (ret [])))))) ρ (fun b ρ' => b = !gd o ∧ ρ' = ρ) := by
  refine we_cor (we_cnot (we_tst (we_call0 (wa_cons (we_var hρ (fd_d (wa_nil ⟨rfl, ?_⟩)))))))
  cases o with
  | none =>
    refine cl_d (k.n rfl).1 (fd_d (bl_i (br_true ⟨rfl, rfl⟩)))
  | some l =>
    obtain ⟨a, b⟩ := k.c l rfl
    refine cl_d (is_counts_ok a (by omega)) (fd_d (bl_i ?_))
    cases hn : (l.all fun i => decide (0 ≤ i)) with
    | false => refine br_true ⟨by simp [gd, hn], rfl⟩
    | true =>
      refine br_false (we_cnot (we_tst (we_call0 (wa_cons (we_var hρ (fd_d (wa_nil ⟨rfl, ?_⟩)))))))
      refine cl_d (is_rising_ok a (by omega)) (fd_d (bl_i ⟨by simp [gd, hn], rfl⟩))
end NF

set_option Elab.async false
set_option linter.all false
set_option maxRecDepth 100000
set_option maxHeartbeats 1000000
namespace NF
open SL PM

variable {h l h2 l2 : List Int} {r r2 : Int} {m : Nat} {Q : T → Prop} {d dh dl dr : D}
abbrev exT (w : PySem.Str) : Xc := ⟨"BadTable", ["word"], [.str w]⟩
/-- what checked_table and the law's own due tell of what was passed -/
inductive Oc (dh dl dr : D) : Prop
  | bad (w : PySem.Str) (hw : w = "head" ∨ w = "loop" ∨ w = "rise") (h1 : f_checked_table [dh, dl, dr] = some (.exc (exT w))) (h2 : f__law_due [dh, dl, dr] = some (.ok (.dat (.str w)))) : Oc dh dl dr
  | good (h l : List Int) (r : Int) (a : Lk h dh) (b : Lk l dl) (e : dr = .int r) (v : Val h l r) (h2 : f__law_due [dh, dl, dr] = some (.ok (.dat .non))) : Oc dh dl dr
/-- whether the loop begins below the head's end -/
def lo (h l : List Int) : Bool := decide (0 < h.length ∧ 0 < l.length ∧ l.getD 0 0 < h.getD (h.length - 1) 0)
theorem t_lo {x : Option T} (a : Lk h dh) (b : Lk l dl) {R : Bool → Sl → Prop} (q : R (lo h l) [some (.dat dh), some (.dat dl), x]) : We (cAnd (tst (SL.bin gtF (s1M lenF 0) (eC (.int 0)))) (cAnd (tst (SL.bin gtF (s1M lenF 1) (eC (.int 0)))) (tst (SL.bin ltF (s2M ixF 1 (eC (.int 0))) (s2M ixF 0 (una negF (eC (.int 1)))))))) [some (.dat dh), some (.dat dl), x] R := by
  and_intros
  refine op_dt a.len ?_
  and_intros
  refine br_ds (fun x1 => ?_) (fun x1 => ?_)
  · and_intros
    refine op_dt b.len ?_
    and_intros
    refine br_ds (fun x2 => ?_) (fun x2 => ?_)
    · and_intros
      refine op_dt (b.ix (i := 0) (by omega) (by omega)) ?_
      and_intros
      refine op_dt (a.ixm (by omega)) ?_
      and_intros
      have e : lo h l = decide (l.getD (0 : Int).toNat 0 < h.getD (h.length - 1) 0) := by
        unfold lo
        have x1 : 0 < h.length := by omega
        have x2 : 0 < l.length := by omega
        simp [x1, x2]
      rw [← e]; exact q
    · have e : lo h l = false := decide_eq_false (by omega)
      rw [e] at q; exact q
  · have e : lo h l = false := decide_eq_false (by omega)
    rw [e] at q; exact q
theorem ocome {oh ol : Option (List Int)} {orr : Option Int} (kh : Kd dh oh) (kl : Kd dl ol) (kr : Rd dr orr) : Oc dh dl dr := by
  have rs : ∀ w : PySem.Str, okS (.str w) = true → ∀ ρ : Sl, Wx (sRaise "BadTable" "word" okS (aCons (eC (.str w)) (ret []))) ρ (fun y _ => y = exT w) := fun w hw ρ => by
    refine wx_raise ?_
    and_intros
    exact ⟨_, rfl, hw, rfl⟩
  cases gh : gd oh with
  | false =>
    refine .bad "head" (.inl rfl) ?_ ?_
    · unfold f_checked_table b_checked_table
      refine cx_eq (cx_body (by simp only [List.map_cons, List.map_nil, List.cons_append, List.nil_append, List.append_nil, rp0, rp1, rp2, rp3, rp4, rp5, rp6, rp7, rp8, rp9, rp10, rp11, rp12, rp13, rp14, rp15, rp16, rp17, rp18, rp19]; exact rfl) (wx_seq1 (wx_if ((t_good kh rfl).mono ?_))))
      rintro _ _ ⟨rfl, rfl⟩
      rw [gh]
      exact br_true (rs _ (by decide +kernel) _)
    · unfold f__law_due b__law_due
      refine cl_eq (cl_body (by simp only [List.map_cons, List.map_nil, List.cons_append, List.nil_append, List.append_nil, rp0, rp1, rp2, rp3, rp4, rp5, rp6, rp7, rp8, rp9, rp10, rp11, rp12, rp13, rp14, rp15, rp16, rp17, rp18, rp19]; exact rfl) ?_)
      and_intros
      refine cl_d (good_eq kh) ?_
      rw [gh]
      and_intros
  | true =>
  have st1 : ∀ {u : So} {Q : Xc → Sl → Prop}, Wx u [some (.dat dh), some (.dat dl), some (.dat dr)] Q → Wx (sSeq (sIf (cOr (cNot (tst (eCall0 1 f_is_counts [] (aCons (eVar 0) (ret []))))) (cNot (tst (eCall0 1 f_is_rising [] (aCons (eVar 0) (ret [])))))) (sRaise "BadTable" "word" okS (aCons (eC (.str "head")) (ret []))) (sNext)) u) [some (.dat dh), some (.dat dl), some (.dat dr)] Q := fun q => by
    refine wx_seq (ws_if ((t_good kh rfl).mono ?_))
    rintro _ _ ⟨rfl, rfl⟩
    rw [gh]
    exact br_false (ws_next ⟨rfl, q⟩)
  cases gl : gd ol with
  | false =>
    refine .bad "loop" (.inr (.inl rfl)) ?_ ?_
    · unfold f_checked_table b_checked_table
      refine cx_eq (cx_body (by simp only [List.map_cons, List.map_nil, List.cons_append, List.nil_append, List.append_nil, rp0, rp1, rp2, rp3, rp4, rp5, rp6, rp7, rp8, rp9, rp10, rp11, rp12, rp13, rp14, rp15, rp16, rp17, rp18, rp19] <;> exact rfl) (st1 (wx_seq1 (wx_if ((t_good kl rfl).mono ?_)))))
      rintro _ _ ⟨rfl, rfl⟩
      rw [gl]
      exact br_true (rs _ (by decide +kernel) _)
    · unfold f__law_due b__law_due
      refine cl_eq (cl_body (by simp only [List.map_cons, List.map_nil, List.cons_append, List.nil_append, List.append_nil, rp0, rp1, rp2, rp3, rp4, rp5, rp6, rp7, rp8, rp9, rp10, rp11, rp12, rp13, rp14, rp15, rp16, rp17, rp18, rp19]; exact rfl) ?_)
      and_intros
      refine cl_d (good_eq kh) ?_
      rw [gh]
      and_intros
      refine cl_d (good_eq kl) ?_
      rw [gl]
      and_intros
  | true =>
  have st2 : ∀ {u : So} {Q : Xc → Sl → Prop}, Wx u [some (.dat dh), some (.dat dl), some (.dat dr)] Q → Wx (sSeq (sIf (cOr (cNot (tst (eCall0 1 f_is_counts [] (aCons (eVar 1) (ret []))))) (cNot (tst (eCall0 1 f_is_rising [] (aCons (eVar 1) (ret [])))))) (sRaise "BadTable" "word" okS (aCons (eC (.str "loop")) (ret []))) (sNext)) u) [some (.dat dh), some (.dat dl), some (.dat dr)] Q := fun q => by
    refine wx_seq (ws_if ((t_good kl rfl).mono ?_))
    rintro _ _ ⟨rfl, rfl⟩
    rw [gl]
    exact br_false (ws_next ⟨rfl, q⟩)
  obtain ⟨h, rfl⟩ : ∃ h, oh = some h := by cases oh with
    | none => cases gh
    | some h => exact ⟨h, rfl⟩
  obtain ⟨l, rfl⟩ : ∃ l, ol = some l := by cases ol with
    | none => cases gl
    | some l => exact ⟨l, rfl⟩
  obtain ⟨a, al⟩ := kh.c h rfl
  obtain ⟨b, bl⟩ := kl.c l rfl
  have due1 : ∀ {u : So} {R : Fl → Sl → Prop}, Ws (sIf (cOr (cNot (tst (eCall0 1 f__law_good [] (aCons (eVar 1) (ret []))))) (cAnd (tst (SL.bin gtF (s1M lenF 0) (eC (.int 0)))) (cAnd (tst (SL.bin gtF (s1M lenF 1) (eC (.int 0)))) (tst (SL.bin ltF (s2M ixF 1 (eC (.int 0))) (s2M ixF 0 (una negF (eC (.int 1))))))))) (sRet (eC (.str "loop"))) (sNext)) [some (.dat dh), some (.dat dl), some (.dat dr)] R → True := fun _ => trivial
  cases hlo : lo h l with
  | true =>
    refine .bad "loop" (.inr (.inl rfl)) ?_ ?_
    · unfold f_checked_table b_checked_table
      refine cx_eq (cx_body (by simp only [List.map_cons, List.map_nil, List.cons_append, List.nil_append, List.append_nil, rp0, rp1, rp2, rp3, rp4, rp5, rp6, rp7, rp8, rp9, rp10, rp11, rp12, rp13, rp14, rp15, rp16, rp17, rp18, rp19] <;> exact rfl) (st1 (st2 (wx_seq1 (wx_if (t_lo a b ?_))))))
      rw [hlo]
      exact br_true (rs _ (by decide +kernel) _)
    · unfold f__law_due b__law_due
      refine cl_eq (cl_body (by simp only [List.map_cons, List.map_nil, List.cons_append, List.nil_append, List.append_nil, rp0, rp1, rp2, rp3, rp4, rp5, rp6, rp7, rp8, rp9, rp10, rp11, rp12, rp13, rp14, rp15, rp16, rp17, rp18, rp19]; exact rfl) ?_)
      and_intros
      refine cl_d (good_eq kh) ?_
      rw [gh]
      infer_instance
      refine ws_seq (ws_if (we_cor (we_cnot (we_tst (we_call0 (wa_cons (we_var rfl (fd_d (wa_nil ⟨rfl, ?_⟩)))))))))
      refine cl_d (good_eq kl) (fd_d (bl_i ?_))
      rw [gl]
      refine br_false (t_lo a b ?_)
      rw [hlo]
      and_intros
  | false =>
  have hlo' : 0 < h.length → 0 < l.length → h.getD (h.length - 1) 0 ≤ l.getD 0 0 := fun p q => by
    have := of_decide_eq_false hlo
    omega
  have st3 : ∀ {u : So} {Q : Xc → Sl → Prop}, Wx u [some (.dat dh), some (.dat dl), some (.dat dr)] Q → Wx (sSeq (sIf (cAnd (tst (SL.bin gtF (s1M lenF 0) (eC (.int 0)))) (cAnd (tst (SL.bin gtF (s1M lenF 1) (eC (.int 0)))) (tst (SL.bin ltF (s2M ixF 1 (eC (.int 0))) (s2M ixF 0 (una negF (eC (.int 1)))))))) (sRaise "BadTable" "word" okS (aCons (eC (.str "loop")) (ret []))) (sNext)) u) [some (.dat dh), some (.dat dl), some (.dat dr)] Q := fun q => by
    refine wx_seq (ws_if (t_lo a b ?_))
    rw [hlo]
    exact br_false (ws_next ⟨rfl, q⟩)
  -- the law's own due up to the rise
  have due : ∀ {w : D}, Ws (sSeq (sIf (cOr (cNot (tst (eCall0 1 f__law_is_count [] (aCons (eVar 2) (ret []))))) (cAnd (tst (SL.bin eqF (s1M lenF 1) (eC (.int 0)))) (tst (SL.bin neF (eVar 2) (eC (.int 0)))))) (sRet (eC (.str "rise"))) (sNext)) (sSeq (sIf (cAnd (tst (SL.bin gtF (s1M lenF 1) (eC (.int 0)))) (tst (SL.bin ltF (SL.bin addF (s2M ixF 1 (eC (.int 0))) (eVar 2)) (s2M ixF 1 (una negF (eC (.int 1))))))) (sRet (eC (.str "rise"))) (sNext)) (sRet (eC .non)))) [some (.dat dh), some (.dat dl), some (.dat dr)] (RetQ fun t => t = .dat w) → f__law_due [dh, dl, dr] = some (.ok (.dat w)) := fun q => by
    unfold f__law_due b__law_due
    refine cl_eq (cl_body (by simp only [List.map_cons, List.map_nil, List.cons_append, List.nil_append, List.append_nil, rp0, rp1, rp2, rp3, rp4, rp5, rp6, rp7, rp8, rp9, rp10, rp11, rp12, rp13, rp14, rp15, rp16, rp17, rp18, rp19]; exact rfl) ?_)
    and_intros
    refine cl_d (good_eq kh) ?_
    rw [gh]
    infer_instance
    refine ws_seq (ws_if (we_cor (we_cnot (we_tst (we_call0 (wa_cons (we_var rfl (fd_d (wa_nil ⟨rfl, ?_⟩)))))))))
    refine cl_d (good_eq kl) (fd_d (bl_i ?_))
    rw [gl]
    refine br_false (t_lo a b ?_)
    rw [hlo]
    exact br_false (ws_next (sq_next q))
  cases orr with
  | none =>
    refine .bad "rise" (.inr (.inr rfl)) ?_ (due ?_)
    · unfold f_checked_table b_checked_table
      refine cx_eq (cx_body (by simp only [List.map_cons, List.map_nil, List.cons_append, List.nil_append, List.append_nil, rp0, rp1, rp2, rp3, rp4, rp5, rp6, rp7, rp8, rp9, rp10, rp11, rp12, rp13, rp14, rp15, rp16, rp17, rp18, rp19] <;> exact rfl) (st1 (st2 (st3 (wx_seq1 (wx_if ?_))))))
      and_intros
      refine cl_d (kr.n rfl).1 ?_
      and_intros
      exact rs _ (by decide +kernel) _
    · and_intros
      refine cl_d (kr.n rfl).2 ?_
      and_intros
  | some r =>
  obtain ⟨rfl, rb, rb2⟩ := kr.c r rfl
  by_cases c4 : r < 0 ∨ (l.length = 0 ∧ r ≠ 0)
  · refine .bad "rise" (.inr (.inr rfl)) ?_ (due ?_)
    · unfold f_checked_table b_checked_table
      refine cx_eq (cx_body (by simp only [List.map_cons, List.map_nil, List.cons_append, List.nil_append, List.append_nil, rp0, rp1, rp2, rp3, rp4, rp5, rp6, rp7, rp8, rp9, rp10, rp11, rp12, rp13, rp14, rp15, rp16, rp17, rp18, rp19] <;> exact rfl) (st1 (st2 (st3 (wx_seq1 (wx_if ?_))))))
      and_intros
      refine cl_d (is_count_ok r) ?_
      and_intros
      refine br_ds (fun y => ?_) (fun y => ?_)
      · and_intros
        refine op_dt b.len ?_
        and_intros
        refine br_dt (by omega) ?_
        and_intros
        refine br_dt (by omega) ?_
        exact rs _ (by decide +kernel) _
      · and_intros
        exact rs _ (by decide +kernel) _
    · and_intros
      refine cl_d (law_count r) ?_
      and_intros
      refine br_ds (fun y => ?_) (fun y => ?_)
      · and_intros
        refine op_dt b.len ?_
        and_intros
        refine br_dt (by omega) ?_
        and_intros
        refine br_df (by omega) ?_
        and_intros
      · and_intros
  · have st4 : ∀ {u : So} {Q : Xc → Sl → Prop}, Wx u [some (.dat dh), some (.dat dl), some (.dat (.int r))] Q → Wx (sSeq (sIf (cOr (cNot (tst (eCall0 1 f_is_count [] (aCons (eVar 2) (ret []))))) (cAnd (tst (SL.bin eqF (s1M lenF 1) (eC (.int 0)))) (tst (SL.bin gtF (eVar 2) (eC (.int 0)))))) (sRaise "BadTable" "word" okS (aCons (eC (.str "rise")) (ret []))) (sNext)) u) [some (.dat dh), some (.dat dl), some (.dat (.int r))] Q := fun q => by
      refine wx_seq (ws_if ?_)
      and_intros
      refine cl_d (is_count_ok r) ?_
      and_intros
      refine br_dt (by omega) ?_
      and_intros
      refine op_dt b.len ?_
      and_intros
      refine br_ds (fun y => ?_) (fun y => ?_)
      · and_intros
        refine br_df (by omega) ?_
        and_intros
        exact q
      · and_intros
        exact q
    have due4 : ∀ {w : D}, Ws (sSeq (sIf (cAnd (tst (SL.bin gtF (s1M lenF 1) (eC (.int 0)))) (tst (SL.bin ltF (SL.bin addF (s2M ixF 1 (eC (.int 0))) (eVar 2)) (s2M ixF 1 (una negF (eC (.int 1))))))) (sRet (eC (.str "rise"))) (sNext)) (sRet (eC .non))) [some (.dat dh), some (.dat dl), some (.dat (.int r))] (RetQ fun t => t = .dat w) → f__law_due [dh, dl, .int r] = some (.ok (.dat w)) := fun q => due (by
      refine ws_seq (ws_if ?_)
      and_intros
      refine cl_d (law_count r) ?_
      and_intros
      refine br_dt (by omega) ?_
      and_intros
      refine op_dt b.len ?_
      and_intros
      refine br_ds (fun y => ?_) (fun y => ?_)
      · and_intros
        refine br_dt (by omega) ?_
        refine ws_next (sq_next ?_)
        exact q
      · refine br_false (ws_next (sq_next ?_))
        exact q)
    by_cases c5 : 0 < l.length ∧ l.getD 0 0 + r < l.getD (l.length - 1) 0
    · refine .bad "rise" (.inr (.inr rfl)) ?_ (due4 ?_)
      · unfold f_checked_table b_checked_table
        refine cx_eq (cx_body (by simp only [List.map_cons, List.map_nil, List.cons_append, List.nil_append, List.append_nil, rp0, rp1, rp2, rp3, rp4, rp5, rp6, rp7, rp8, rp9, rp10, rp11, rp12, rp13, rp14, rp15, rp16, rp17, rp18, rp19] <;> exact rfl) (st1 (st2 (st3 (st4 (wx_seq1 (wx_if ?_)))))))
        and_intros
        refine op_dt b.len ?_
        and_intros
        refine br_dt (by omega) ?_
        and_intros
        refine op_dt (b.ixm (by omega)) ?_
        and_intros
        refine op_dt (b.ix (i := 0) (by omega) (by omega)) ?_
        and_intros
        refine br_dt (show l.getD 0 0 + r < l.getD (l.length - 1) 0 by omega) ?_
        exact rs _ (by decide +kernel) _
      · and_intros
        refine op_dt b.len ?_
        and_intros
        refine br_dt (by omega) ?_
        and_intros
        refine op_dt (b.ix (i := 0) (by omega) (by omega)) ?_
        and_intros
        refine op_dt (b.ixm (by omega)) ?_
        and_intros
        refine br_dt (show l.getD 0 0 + r < l.getD (l.length - 1) 0 by omega) ?_
        and_intros
    · have g1 : (h.all fun i => decide (0 ≤ i)) = true ∧ ris h = true := by simpa [gd] using gh
      have g2 : (l.all fun i => decide (0 ≤ i)) = true ∧ ris l = true := by simpa [gd] using gl
      refine .good h l r a b rfl ⟨by omega, by omega, g1.1, g2.1, g1.2, g2.2, hlo', by omega, by unfold sml; omega, fun z => by omega, fun z => by omega⟩ (due4 ?_)
      and_intros
      refine op_dt b.len ?_
      and_intros
      refine br_ds (fun y => ?_) (fun y => ?_)
      · and_intros
        refine op_dt (b.ix (i := 0) (by omega) (by omega)) ?_
        and_intros
        refine op_dt (b.ixm (by omega)) ?_
        and_intros
        refine br_df (show ¬ l.getD 0 0 + r < l.getD (l.length - 1) 0 by omega) ?_
        and_intros
      · and_intros
end NF

set_option Elab.async false
set_option linter.all false
set_option maxRecDepth 100000
set_option maxHeartbeats 1000000
namespace NF
open SL PM

variable {h l h2 l2 : List Int} {r r2 : Int} {m : Nat} {Q : T → Prop} {d dh dl dr : D}
theorem cut_mem {xs : List D} {lo hi : Option Int} : (∀ x ∈ cut xs lo hi, x ∈ xs) ∧ (cut xs lo hi).length ≤ xs.length := by
  unfold cut
  refine ⟨fun x hx => List.mem_of_mem_drop (List.mem_of_mem_take hx), ?_⟩
  simp only [List.length_take, List.length_drop]
  omega
theorem pick_thing {k : Int} (h0 : 0 ≤ k) (h1 : k < 5) : ∃ bd, ixF (.lst [.non, .int 7, .str "12", .dic [] [], .bl true]) (.int k) = some (.dt bd) ∧ (bd = .non ∨ bd = .int 7 ∨ bd = .str "12" ∨ bd = .dic [] [] ∨ bd = .bl true) := by
  have e : k = 0 ∨ k = 1 ∨ k = 2 ∨ k = 3 ∨ k = 4 := by omega
  rcases e with rfl | rfl | rfl | rfl | rfl
  · exact ⟨_, rfl, .inl rfl⟩
  · exact ⟨_, rfl, .inr (.inl rfl)⟩
  · exact ⟨_, rfl, .inr (.inr (.inl rfl))⟩
  · exact ⟨_, rfl, .inr (.inr (.inr (.inl rfl)))⟩
  · exact ⟨_, rfl, .inr (.inr (.inr (.inr rfl)))⟩
theorem pick_el {k i : Int} (h0 : 0 ≤ k) (h1 : k < 5) : ∃ bd, ixF (.lst [.bl true, .str "3", .non, .int i, .tup [.int 4]]) (.int k) = some (.dt bd) ∧ El bd := by
  have e : k = 0 ∨ k = 1 ∨ k = 2 ∨ k = 3 ∨ k = 4 := by omega
  rcases e with rfl | rfl | rfl | rfl | rfl
  · exact ⟨_, rfl, el_true⟩
  · exact ⟨_, rfl, el_str _⟩
  · exact ⟨_, rfl, el_non⟩
  · exact ⟨_, rfl, el_int _⟩
  · exact ⟨_, rfl, el_tup _⟩
theorem el_map {x : D} (hx : x ∈ l.map D.int) : El x := by
  obtain ⟨i, _, rfl⟩ := List.mem_map.mp hx
  exact el_int i
theorem kd_mid {a b : List D} {y : D} (ha : ∀ x ∈ a, x ∈ l.map D.int) (hb : ∀ x ∈ b, x ∈ l.map D.int) (hy : El y) (la : a.length ≤ l.length) (lb : b.length ≤ l.length) (hl : l.length ≤ 100) : ∃ o, Kd (.lst (a ++ [y] ++ b)) o := by
  refine kd_list (fun x hx => ?_) (by simp; omega)
  simp only [List.append_assoc, List.mem_append, List.mem_singleton] at hx
  rcases hx with hx | rfl | hx
  · exact el_map (ha x hx)
  · exact hy
  · exact el_map (hb x hx)
theorem w_spoilt {s : Sr} (hl : l.length ≤ 100) {Q : D → List D → Prop} (q : ∀ (d : D) (o : Option (List Int)) (s' : Sr), Kd d o → Q d (sD s')) : ClL (f__law_spoilt (.lst true (sD s)) [ti l]) Q := by
  unfold f__law_spoilt b__law_spoilt
  refine clL_body (by simp only [List.map_cons, List.map_nil, List.cons_append, List.nil_append, List.append_nil, rp0, rp1, rp2, rp3, rp4, rp5, rp6, rp7, rp8, rp9, rp10, rp11, rp12, rp13, rp14, rp15, rp16, rp17, rp18, rp19]; exact rfl) ?_
  and_intros
  refine w_pick (by decide) (by decide) (fun w s1 w0 infer_instance => ?_)
  and_intros
  refine br_ds (fun h0 => ?_) (fun h0 => ?_)
  · and_intros
    refine w_pick (by decide) (by decide) (fun k s2 k0 k1 => ?_)
    obtain ⟨bd, e, hb⟩ := pick_thing k0 k1
    and_intros
    refine op_dt e ?_
    and_intros
    exact q bd none s2 (kd_thing hb)
  · and_intros
    refine w_pick (by omega) (by omega) (fun p s2 p0 p1 => ?_)
    and_intros
    refine w_pick (by decide) (by decide) (fun e s3 e0 e1 => ?_)
    and_intros
    refine w_pick (by decide) (by decide) (fun b s4 b0 b1 => ?_)
    obtain ⟨bd, eb, hb⟩ := pick_el (i := -1 - e) b0 b1
    and_intros
    refine op_dt eb ?_
    obtain ⟨c1, c2⟩ := cut_mem (xs := l.map D.int) (lo := none) (hi := some p)
    obtain ⟨c3, c4⟩ := cut_mem (xs := l.map D.int) (lo := some p) (hi := none)
    rw [List.length_map] at c2 c4
    obtain ⟨oR, hR⟩ := kd_mid c1 c3 hb c2 c4 hl
    and_intros
    refine br_ds (fun h1 => ?_) (fun h1 => ?_)
    · and_intros
      refine br_ds (fun h2 => ?_) (fun h2 => ?_)
      · and_intros
        refine op_dt (z := .int (l.getD p.toNat 0)) ?_ ?_
        · show (L2.atI (l.map D.int) p).map Out.dt = _
          rw [at_i p0 h2]; rfl
        and_intros
        · simp only [List.length_append, List.length_cons, List.length_nil]; omega
        and_intros
        obtain ⟨o, ho⟩ := kd_mid c1 c3 (el_int (l.getD p.toNat 0 + 1)) c2 c4 hl
        exact q _ o s4 ho
      · and_intros
        refine br_df (by omega) ?_
        and_intros
        · simp only [List.length_append, List.length_cons, List.length_nil]; omega
        and_intros
        exact q _ oR s4 hR
    · and_intros
      refine br_ds (fun h2 => ?_) (fun h2 => ?_)
      · and_intros
        refine br_ds (fun h3 => ?_) (fun h3 => ?_)
        · have hlast : l[l.length - 1]? = some (l.getD (l.length - 1) 0) := by simp [List.getD, show l.length - 1 < l.length by omega]
          have kk : ∀ i : Int, ∃ o, Kd (.lst (l.map D.int ++ [.int i])) o := fun i => kd_list (fun x hx => by
            simp only [List.mem_append, List.mem_singleton] at hx
            rcases hx with hx | rfl
            · exact el_map hx
            · exact el_int i) (by simp; omega)
          and_intros
          refine op_ixlastT hlast ?_
          and_intros
          refine br_ds (fun h4 => ?_) (fun h4 => ?_)
          · and_intros
            refine op_ixlastT hlast ?_
            and_intros
            obtain ⟨o, ho⟩ := kk (l.getD (l.length - 1) 0 - 1)
            exact q _ o s4 ho
          · and_intros
            obtain ⟨o, ho⟩ := kk (-1)
            exact q _ o s4 ho
        · and_intros
          · simp only [List.length_append, List.length_cons, List.length_nil]; omega
          and_intros
          exact q _ oR s4 hR
      · and_intros
        · simp only [List.length_append, List.length_cons, List.length_nil]; omega
        and_intros
        exact q _ oR s4 hR
end NF

set_option Elab.async false
set_option linter.all false
set_option maxRecDepth 100000
set_option maxHeartbeats 1000000
namespace NF
open SL PM

variable {h l h2 l2 : List Int} {r r2 : Int} {m : Nat} {Q : T → Prop} {d dh dl dr : D}
theorem init_bad {w : PySem.Str} (h1 : f_checked_table [dh, dl, dr] = some (.exc (exT w))) : MkX (f_Table___init__ (.ins true "Table" [] []) [dh, dl, dr]) (fun x => x = exT w) := by
  unfold f_Table___init__ b_Table___init__
  refine mkx_body (by simp only [List.map_cons, List.map_nil, List.cons_append, List.nil_append, List.append_nil, rp0, rp1, rp2, rp3, rp4, rp5, rp6, rp7, rp8, rp9, rp10, rp11, rp12, rp13, rp14, rp15, rp16, rp17, rp18, rp19]; exact rfl) (wx_seq1 (wx_asg (wz_call ?_)))
  and_intros
  refine cx_of h1 ?_
  exact ⟨⟨_, _, _, rfl⟩, rfl⟩
theorem seen_ok (c : Oc dh dl dr) : ∃ d, f__law_seen [dh, dl, dr] = some (.ok (.dat d)) ∧ f__law_due [dh, dl, dr] = some (.ok (.dat d)) ∧ neF d d = some (.dt (.bl false)) ∧ (∀ h l r, Lk h dh → Lk l dl → dr = .int r → Val h l r → d = .non) := by
  cases c with
  | bad w hw h1 h2 =>
    refine ⟨.str w, ?_, h2, ?_, ?_⟩
    · unfold f__law_seen b__law_seen
      refine cl_eq (cl_body (by simp only [List.map_cons, List.map_nil, List.cons_append, List.nil_append, List.append_nil, rp0, rp1, rp2, rp3, rp4, rp5, rp6, rp7, rp8, rp9, rp10, rp11, rp12, rp13, rp14, rp15, rp16, rp17, rp18, rp19]; exact rfl) ?_)
      refine ws_seq (ws_tryE ?_)
      refine wx_drop (wz_makX ?_)
      and_intros
      obtain ⟨x, C, ns, fs, e, rfl⟩ := init_bad h1
      refine ⟨_, _, _, _, e, ?_⟩
      refine ⟨rfl, by simp, by simp, .ret (.dat (.str w)), [some (.dat dh), some (.dat dl), some (.dat dr), none], fun a dd => ?_, ?_⟩
      · simp only [List.set_cons_succ, List.set_cons_zero]
        and_intros
        refine ⟨_, _, _, rfl, rfl, ?_⟩
        and_intros
        trivial
      · and_intros
    · rcases hw with rfl | rfl | rfl <;> exact ne_self (by decide +kernel) (by simp [eqD, toP, PySem.PyData.eqv])
    · intro h l r a b e v
      subst e
      obtain ⟨H, L, R, pr, hp, _⟩ := plain_allP v
      rw [checked_ok v a b hp] at h1
      cases h1
  | good h l r a b e v h2 =>
    subst e
    refine ⟨.non, ?_, h2, rfl, fun _ _ _ _ _ _ _ => rfl⟩
    obtain ⟨H, L, R, pr, hp, _⟩ := plain_allP v
    unfold f__law_seen b__law_seen
    refine cl_eq (cl_body (by simp only [List.map_cons, List.map_nil, List.cons_append, List.nil_append, List.append_nil, rp0, rp1, rp2, rp3, rp4, rp5, rp6, rp7, rp8, rp9, rp10, rp11, rp12, rp13, rp14, rp15, rp16, rp17, rp18, rp19]; exact rfl) ?_)
    refine ws_seq (ws_try ?_)
    and_intros
    refine mk_of (init_ok (checked_ok v a b hp)) ?_
    and_intros
    refine ⟨trivial, ?_⟩
    and_intros
theorem call_bad {t : D} (hn : isNon d = false) (hd : f_is_count [d] = some (.ok (.dat (.bl false)))) : f_Table___call__ [t, d] = some (.exc ⟨"BadCount", ["thing"], [d]⟩) := by
  unfold f_Table___call__ b_Table___call__
  refine cx_eq (cx_body (by simp only [List.map_cons, List.map_nil, List.cons_append, List.nil_append, List.append_nil, rp0, rp1, rp2, rp3, rp4, rp5, rp6, rp7, rp8, rp9, rp10, rp11, rp12, rp13, rp14, rp15, rp16, rp17, rp18, rp19]; exact rfl) (wx_seq1 (wx_if ?_)))
  and_intros
  refine br_f hn ?_
  and_intros
  refine cl_d hd ?_
  and_intros
  refine wx_raise ?_
  and_intros
  exact ⟨_, rfl, rfl, rfl⟩
theorem refused_ok {ns : List PySem.Str} {fs : List D} (hn : isNon d = false) (hd : f_is_count [d] = some (.ok (.dat (.bl false)))) (he : eqF d d = some (.dt (.bl true))) : f__law_refused_value [.obj "Table" ns fs, d] = some (.ok (.dat (.bl true))) := by
  unfold f__law_refused_value b__law_refused_value
  refine cl_eq (cl_body (by simp only [List.map_cons, List.map_nil, List.cons_append, List.nil_append, List.append_nil, rp0, rp1, rp2, rp3, rp4, rp5, rp6, rp7, rp8, rp9, rp10, rp11, rp12, rp13, rp14, rp15, rp16, rp17, rp18, rp19]; exact rfl) ?_)
  refine ws_seq (ws_tryE ?_)
  refine wx_drop (wz_calX ?_)
  and_intros
  refine cx_of (call_bad hn hd) ?_
  refine ⟨rfl, by simp, by simp, .ret (.dat (.bl true)), [some (.dat (.obj "Table" ns fs)), some (.dat d), none], fun a dd => ?_, ?_⟩
  · simp only [List.set_cons_succ, List.set_cons_zero]
    and_intros
    refine ⟨_, _, _, rfl, rfl, ?_⟩
    and_intros
    refine op_dt he ?_
    and_intros
    trivial
  · and_intros
theorem shift_bad (hd : f_is_integer [d] = some (.ok (.dat (.bl false))) ∨ ∃ i : Int, d = .int i ∧ 5000 < if i < 0 then -i else i) : f_Table_shift [d] = some (.exc ⟨"BadCount", ["thing"], [d]⟩) := by
  unfold f_Table_shift b_Table_shift
  refine cx_eq (cx_body (by simp only [List.map_cons, List.map_nil, List.cons_append, List.nil_append, List.append_nil, rp0, rp1, rp2, rp3, rp4, rp5, rp6, rp7, rp8, rp9, rp10, rp11, rp12, rp13, rp14, rp15, rp16, rp17, rp18, rp19]; exact rfl) (wx_seq1 (wx_if ?_)))
  have fin : ∀ {ρ : Sl}, ρ = [some (.dat d)] → Wx (sRaise "BadCount" "thing" okT (aCons (eVar 0) (ret []))) ρ (fun y _ => y = ⟨"BadCount", ["thing"], [d]⟩) := fun e => by
    subst e
    refine wx_raise ?_
    and_intros
    exact ⟨_, rfl, rfl, rfl⟩
  rcases hd with hd | ⟨i, rfl, hi⟩
  · and_intros
    refine cl_d hd ?_
    and_intros
    exact fin rfl
  · and_intros
    refine cl_d (is_integer_ok i) ?_
    and_intros
    exact fin rfl
end NF

set_option Elab.async false
set_option linter.all false
set_option maxRecDepth 100000
set_option maxHeartbeats 1000000
namespace NF
open SL PM

variable {h l h2 l2 : List Int} {r r2 : Int} {m : Nat} {Q : T → Prop} {d dh dl dr : D}
theorem pick_k {b : Int} (h0 : 0 ≤ b) (h1 : b < 5) : ∃ k : Int, ixF (.lst [.int 5000, .int (-5000), .int 4999, .int (-1), .int 0]) (.int b) = some (.dt (.int k)) ∧ (-5000 ≤ k ∧ k ≤ 5000) := by
  have e : b = 0 ∨ b = 1 ∨ b = 2 ∨ b = 3 ∨ b = 4 := by omega
  rcases e with rfl | rfl | rfl | rfl | rfl
  · exact ⟨5000, rfl, by omega⟩
  · exact ⟨-5000, rfl, by omega⟩
  · exact ⟨4999, rfl, by omega⟩
  · exact ⟨-1, rfl, by omega⟩
  · exact ⟨0, rfl, by omega⟩
theorem eq_self' (hs : shp 40 d = true) (he : eqD d d = true) : eqF d d = some (.dt (.bl true)) := by
  unfold eqF
  rw [if_pos ⟨hs, hs⟩, he]
theorem pick_s {b : Int} (h0 : 0 ≤ b) (h1 : b < 6) : ∃ bd, ixF (.lst [.int 5001, .int (-5001), .str "1", .non, .bl true, .int 100000000000000000000]) (.int b) = some (.dt bd) ∧ (f_is_integer [bd] = some (.ok (.dat (.bl false))) ∨ ∃ i : Int, bd = .int i ∧ 5000 < if i < 0 then -i else i) ∧ eqF bd bd = some (.dt (.bl true)) := by
  have e : b = 0 ∨ b = 1 ∨ b = 2 ∨ b = 3 ∨ b = 4 ∨ b = 5 := by omega
  rcases e with rfl | rfl | rfl | rfl | rfl | rfl
  · exact ⟨.int 5001, rfl, .inr ⟨_, rfl, by decide⟩, eq_self' rfl rfl⟩
  · exact ⟨.int (-5001), rfl, .inr ⟨_, rfl, by decide⟩, eq_self' rfl rfl⟩
  · exact ⟨.str "1", rfl, .inl rfl, eq_self' (by decide +kernel) (by simp [eqD, toP, PySem.PyData.eqv])⟩
  · exact ⟨.non, rfl, .inl rfl, eq_self' rfl rfl⟩
  · exact ⟨.bl true, rfl, .inl rfl, eq_self' rfl rfl⟩
  · exact ⟨.int 100000000000000000000, rfl, .inr ⟨_, rfl, by decide⟩, eq_self' rfl rfl⟩
theorem told_ok (h l : List Int) (r : Int) : f__law_told [tab h l r] = some (.ok (.dat (raw h l r))) := by
  unfold f__law_told b__law_told
  refine cl_eq (cl_body (by simp only [List.map_cons, List.map_nil, List.cons_append, List.nil_append, List.append_nil, rp0, rp1, rp2, rp3, rp4, rp5, rp6, rp7, rp8, rp9, rp10, rp11, rp12, rp13, rp14, rp15, rp16, rp17, rp18, rp19]; exact rfl) ?_)
  and_intros
theorem w_shifts {s : Sr} {Q : D → List D → Prop} (q : ∀ s' : Sr, Q (.bl true) (sD s')) : ClL (f__law_shifts (.lst true (sD s)) []) Q := by
  unfold f__law_shifts b__law_shifts
  refine clL_body (by simp only [List.map_cons, List.map_nil, List.cons_append, List.nil_append, List.append_nil, rp0, rp1, rp2, rp3, rp4, rp5, rp6, rp7, rp8, rp9, rp10, rp11, rp12, rp13, rp14, rp15, rp16, rp17, rp18, rp19]; exact rfl) ?_
  and_intros
  refine w_pick (by decide) (by decide) (fun b s1 b0 b1 => ?_)
  obtain ⟨k, ek, hk⟩ := pick_k b0 b1
  and_intros
  refine op_dt ek ?_
  and_intros
  refine cl_i (shift_ok hk) ?_
  and_intros
  refine cl_d (told_ok _ _ _) ?_
  and_intros
  refine cl_d (law_shift_ok hk) ?_
  refine fd_d ?_
  refine op_dt (ne_self (sh_raw _ _ _) ?_) ?_
  · have := eq_raw (shH k) (shL k) 1 (shH k) (shL k) 1
    rw [eqR_self] at this
    unfold eqF at this
    split at this
    · cases h : eqD (raw (shH k) (shL k) 1) (raw (shH k) (shL k) 1) with
      | true => rfl
      | false => rw [h] at this; cases this
    · cases this
  and_intros
  refine w_pick (by decide) (by decide) (fun b2 s2 b20 b21 => ?_)
  obtain ⟨bd, e1, e2, e3⟩ := pick_s b20 b21
  and_intros
  refine op_dt e1 ?_
  infer_instance
  refine ws_seq (ws_tryE ?_)
  refine wx_drop (wz_call ?_)
  and_intros
  refine cx_of (shift_bad e2) ?_
  refine ⟨rfl, by simp, by simp, .ret (.dat (.bl true)), [some (.lst true (sD s2)), some (.dat (.int k)), some (.dat bd), none], fun a dd => ?_, ?_⟩
  · simp only [List.set_cons_succ, List.set_cons_zero]
    and_intros
    refine ⟨_, _, _, rfl, rfl, ?_⟩
    and_intros
    refine op_dt e3 ?_
    and_intros
    trivial
  · and_intros
    exact q s2
end NF

set_option Elab.async false
set_option linter.all false
set_option maxRecDepth 100000
set_option maxHeartbeats 1000000
namespace NF
open SL PM

variable {h l h2 l2 : List Int} {r r2 : Int} {m : Nat} {Q : T → Prop} {d dh dl dr : D}
theorem flat_zeros (n : Nat) : (List.replicate n [D.int 0]).flatten = (List.replicate n (0 : Int)).map .int := by
  induction n with
  | zero => rfl
  | succ n ih => rw [List.replicate_succ, List.flatten_cons, ih, List.replicate_succ]; rfl
theorem pick_r {b r : Int} (h0 : 0 ≤ b) (h1 : b < 6) (hr : -900 ≤ r ∧ r ≤ 900) : ∃ bd o, ixF (.lst [.int (r - 1), .int (-1), .bl true, .non, .str "2", .int 1]) (.int b) = some (.dt bd) ∧ Rd bd o := by
  have e : b = 0 ∨ b = 1 ∨ b = 2 ∨ b = 3 ∨ b = 4 ∨ b = 5 := by omega
  rcases e with rfl | rfl | rfl | rfl | rfl | rfl
  · exact ⟨_, _, rfl, rd_int (by omega)⟩
  · exact ⟨_, _, rfl, rd_int (r := -1) (by omega)⟩
  · exact ⟨_, _, rfl, rd_bad el_true rfl⟩
  · exact ⟨_, _, rfl, rd_bad el_non rfl⟩
  · exact ⟨_, _, rfl, rd_bad (el_str _) rfl⟩
  · exact ⟨_, _, rfl, rd_int (r := 1) (by omega)⟩
abbrev thL : List D := [.bl true, .str "1", .int (-1), .tup [.int 1], .int (-100000000000000000000)]
theorem th_ok (hd : d ∈ thL) : isNon d = false ∧ f_is_count [d] = some (.ok (.dat (.bl false))) ∧ eqF d d = some (.dt (.bl true)) := by
  simp only [List.mem_cons, List.not_mem_nil, or_false] at hd
  rcases hd with rfl | rfl | rfl | rfl | rfl
  · exact ⟨rfl, rfl, eq_self' rfl rfl⟩
  · exact ⟨rfl, rfl, eq_self' (by decide +kernel) (by simp [eqD, toP, PySem.PyData.eqv])⟩
  · exact ⟨rfl, rfl, eq_self' rfl rfl⟩
  · exact ⟨rfl, rfl, eq_self' rfl rfl⟩
  · exact ⟨rfl, rfl, eq_self' rfl rfl⟩
abbrev St2 (ns : List Int) (s : Sr) (h l : List Int) (r : Int) (x3 x4 x5 : D) (w : Int) : Sl := [some (.dat (.scr ns)), some (.lst false (sD s)), some (.dat (raw h l r)), some (.dat x3), some (.dat x4), some (.dat x5), some (.dat (.int w)), none, none, none]
theorem law_true (ns : List Int) (_ : ns.length ≤ 63) (hb : ∀ k ∈ ns, PySem.Builtin.Int.intBits k ≤ 1048576) : f_law [.scr ns] = some (.ok (.dat (.bl true))) := by
  unfold f_law b_law
  refine cl_eq (cl_body (by simp only [List.map_cons, List.map_nil, List.cons_append, List.nil_append, List.append_nil, rp0, rp1, rp2, rp3, rp4, rp5, rp6, rp7, rp8, rp9, rp10, rp11, rp12, rp13, rp14, rp15, rp16, rp17, rp18, rp19]; exact rfl) ?_)
  and_intros
  refine w_source hb 0 (by omega) (fun s0 => ?_)
  and_intros
  refine w_raw (fun h l r s1 v sm => ?_)
  have nr := sm.lh
  have nl := sm.ll
  have nv := sm.vr
  have r0 := v.r0
  and_intros
  refine w_pick (by decide) (by decide) (fun w s2 w0 infer_instance => ?_)
  have kh : Kd (ti h) (some h) := kd_ints .t (by omega)
  have kl : Kd (ti l) (some l) := kd_ints .t (by omega)
  have kr : Rd (.int r) (some r) := rd_int (by omega)
  infer_instance
  refine ws_seq (Ws.mono (P := fun fl ρ => fl = .next ∧ ∃ s d3 o3, Kd d3 o3 ∧ ρ = St2 ns s h l r d3 (ti l) (.int r) w) ?_ ?_)
  · and_intros
    refine br_s (fun _ => ?_) (fun _ => ?_)
    · and_intros
      refine w_spoilt (by omega) (fun d o s' hd => ?_)
      and_intros
      exact ⟨_, _, _, hd, rfl⟩
    · and_intros
      exact ⟨_, _, _, kh, rfl⟩
  rintro _ _ ⟨rfl, s3, d3, o3, k3, rfl⟩
  refine sq_next ?_
  refine ws_seq (Ws.mono (P := fun fl ρ => fl = .next ∧ ∃ s d4 o4, Kd d4 o4 ∧ ρ = St2 ns s h l r d3 d4 (.int r) w) ?_ ?_)
  · and_intros
    refine br_s (fun _ => ?_) (fun _ => ?_)
    · and_intros
      refine w_spoilt (by omega) (fun d o s' hd => ?_)
      and_intros
      exact ⟨_, _, _, hd, rfl⟩
    · and_intros
      exact ⟨_, _, _, kl, rfl⟩
  rintro _ _ ⟨rfl, s4, d4, o4, k4, rfl⟩
  refine sq_next ?_
  refine ws_seq (Ws.mono (P := fun fl ρ => fl = .next ∧ ∃ s d5 o5, Rd d5 o5 ∧ ρ = St2 ns s h l r d3 d4 d5 w) ?_ ?_)
  · and_intros
    refine br_s (fun _ => ?_) (fun _ => ?_)
    · and_intros
      refine w_pick (by decide) (by decide) (fun b s' b0 b1 => ?_)
      obtain ⟨bd, o, eb, hbd⟩ := pick_r (r := r) b0 b1 (by omega)
      and_intros
      refine op_dt eb ?_
      and_intros
      exact ⟨_, _, _, hbd, rfl⟩
    · and_intros
      exact ⟨_, _, _, kr, rfl⟩
  rintro _ _ ⟨rfl, s5, d5, o5, k5, rfl⟩
  refine sq_next ?_
  refine ws_seq (Ws.mono (P := fun fl ρ => fl = .next ∧ ∃ s d4 o4, Kd d4 o4 ∧ ρ = St2 ns s h l r d3 d4 d5 w) ?_ ?_)
  · and_intros
    refine br_ds (fun _ => ?_) (fun _ => ?_)
    · and_intros
      refine we_lcI (fun i acc ρ => ∃ (s : Sr) (is : List Int), acc = is.map .int ∧ ρ = St2 ns s h l r d3 d4 d5 w) ?_
      and_intros
      refine ⟨by simp; omega, ⟨s5, [], rfl, rfl⟩, ?_, ?_⟩
      · rintro i d acc ρ hd ⟨s, is, rfl, rfl⟩
        obtain ⟨x, rfl⟩ : ∃ x : Int, d = .int x := by
          rw [List.getElem?_map] at hd
          cases e : l[i]? with
          | none => rw [e] at hd; cases hd
          | some x => rw [e] at hd; cases hd; exact ⟨x, rfl⟩
        refine ⟨by simp, ?_⟩
        simp only [List.set_cons_succ, List.set_cons_zero]
        and_intros
        refine w_pick (by decide) (by decide) (fun b s' b0 b1 => ?_)
        and_intros
        exact ⟨s', is ++ [_], by simp; rfl, rfl⟩
      · rintro acc ρ ⟨s, is, rfl, rfl⟩ hlen
        simp only [List.length_map] at hlen
        and_intros
        exact ⟨s, _, some is, kd_ints .t (by omega), rfl⟩
    · and_intros
      exact ⟨s5, _, _, k4, rfl⟩
  rintro _ _ ⟨rfl, s6, e4, oe4, ke4, rfl⟩
  refine sq_next ?_
  refine ws_seq (Ws.mono (P := fun fl ρ => fl = .next ∧ ∃ e3 oe3, Kd e3 oe3 ∧ ρ = St2 ns s6 h l r e3 e4 d5 w) ?_ ?_)
  · and_intros
    refine br_ds (fun _ => ?_) (fun _ => ?_)
    · and_intros
      refine ⟨ti (List.replicate 300 0), some (List.replicate 300 0), kd_ints .t (by simp), ?_⟩
      show [_, _, _, some (T.dat (D.tup (List.replicate 300 [D.int 0]).flatten)), _, _, _, _, _, _] = _
      rw [flat_zeros]
    · and_intros
      exact ⟨_, _, k3, rfl⟩
  rintro _ _ ⟨rfl, e3, oe3, ke3, rfl⟩
  refine sq_next ?_
  obtain ⟨x, hx1, hx2, hx3, _⟩ := seen_ok (ocome ke3 ke4 k5)
  obtain ⟨y, hy1, hy2, hy3, hy4⟩ := seen_ok (ocome kh kl kr)
  have := hy4 h l r .t .t rfl v
  subst this
  and_intros
  refine cl_d hx1 ?_
  and_intros
  refine cl_d hx2 ?_
  refine fd_d ?_
  refine op_dt hx3 ?_
  and_intros
  refine cl_d hy1 ?_
  and_intros
  refine w_table v (fun A1 A2 A3 tA prA lA eA zA yA => ?_)
  infer_instance
  refine ws_seq ?_
  and_intros
  refine wf_inv (fun i ρ => ∃ x7 x8, ρ = [some (.dat (.scr ns)), some (.lst false (sD s6)), some (.dat (raw h l r)), some (.dat e3), some (.dat e4), some (.dat d5), some (.dat (.int w)), x7, x8, none] ∧ ((i = 0 ∧ x7 = some (ins A1 A2 A3)) ∨ x7 = some (.dat (tab A1 A2 A3)))) ⟨_, _, rfl, .inl ⟨rfl, rfl⟩⟩ ?_ ?_
  · rintro i d ρ hd ⟨x7, x8, rfl, hx⟩
    obtain ⟨t1, t2, t3⟩ := th_ok (List.mem_of_getElem? hd)
    rcases hx with ⟨_, rfl⟩ | rfl
    · and_intros
      refine cl_d (refused_ok t1 t2 t3) ?_
      and_intros
      exact ⟨_, _, rfl, .inr rfl⟩
    · and_intros
      refine cl_d (refused_ok t1 t2 t3) ?_
      and_intros
      exact ⟨_, _, rfl, .inr rfl⟩
  · rintro ρ ⟨x7, x8, rfl, hx⟩
    have hx : x7 = some (.dat (tab A1 A2 A3)) := by
      rcases hx with ⟨e, _⟩ | e
      · simp at e
      · exact e
    subst hx
    and_intros
    refine w_shifts (fun s' => ?_)
    and_intros
    refine cl_d (call_ok (by omega) tA.v.rs (by have := tA.v.bl; omega)) ?_
    rw [vat_z]
    dsimp only [oD]
    and_intros
    first | done | rfl
end NF

end
set_option Elab.async false
set_option linter.all false
set_option maxRecDepth 100000
set_option maxHeartbeats 0
open PySem PySem.W PySem.Calls PyProof.Rows
theorem PySem.Challenge.cw_needforth_k02_whole_bad_tables_holds : PySem.Challenge.rw_needforth_k02_whole_bad_tables.Holds := by
  w_on; o_law
  refine HandSHeadRun.head_any (r := OpenLaw.row PySem.Challenge.rw_needforth_k02_whole_bad_tables) (q := view (OpenLaw.row PySem.Challenge.rw_needforth_k02_whole_bad_tables).prog [55]) (H := NF.hk) (ob := NF.ob) (M := 6000) (loose := [PySem.Str.ofString "_wall", PySem.Str.ofString "NeedforthError", PySem.Str.ofString "WrongThing", PySem.Str.ofString "WrongWord", PySem.Str.ofString "TooMany", PySem.Str.ofString "BadCount", PySem.Str.ofString "BadTable", PySem.Str.ofString "is_integer", PySem.Str.ofString "is_count", PySem.Str.ofString "is_listed", PySem.Str.ofString "is_counts", PySem.Str.ofString "deep", PySem.Str.ofString "at_most", PySem.Str.ofString "greater_of", PySem.Str.ofString "lesser_of", PySem.Str.ofString "common_divisor", PySem.Str.ofString "common_multiple", PySem.Str.ofString "end_of", PySem.Str.ofString "value_at", PySem.Str.ofString "short_loop", PySem.Str.ofString "plain_form", PySem.Str.ofString "formed", PySem.Str.ofString "until_never", PySem.Str.ofString "first_beyond", PySem.Str.ofString "behind_raw", PySem.Str.ofString "later_start", PySem.Str.ofString "joined_values", PySem.Str.ofString "joined_raw", PySem.Str.ofString "counts_below", PySem.Str.ofString "turned_raw", PySem.Str.ofString "MOST_SHIFT", PySem.Str.ofString "is_rising", PySem.Str.ofString "checked_table", PySem.Str.ofString "Table", PySem.Str.ofString "table_from", PySem.Str.ofString "_law_source", PySem.Str.ofString "_law_pick", PySem.Str.ofString "_law_is_integer", PySem.Str.ofString "_law_is_count", PySem.Str.ofString "_law_rising", PySem.Str.ofString "_law_raw", PySem.Str.ofString "_law_shift", PySem.Str.ofString "_law_told", PySem.Str.ofString "_law_table", PySem.Str.ofString "_law_spoilt", PySem.Str.ofString "_law_good", PySem.Str.ofString "_law_due", PySem.Str.ofString "_law_seen", PySem.Str.ofString "_law_refused_value", PySem.Str.ofString "_law_shifts"]) (d := HandSHeadRun.topDef (OpenLaw.row PySem.Challenge.rw_needforth_k02_whole_bad_tables).prog 55) (kwd := []) NF.ob_eq
    (by kernel_rfl) (fun s => by kernel_rfl) NF.run (by kernel_rfl) (by kernel_rfl) (by kernel_rfl) (by rfl) (by first | assumption | decide +kernel) (by decide +kernel) ⟨rfl, rfl, rfl, rfl, rfl, by decide +kernel⟩ ?hw ?hc
  case hw => w_witness2
  case hc =>
    refine SL.walk_ofW (l := PySem.Challenge.rw_needforth_k02_whole_bad_tables) (n := 63) (k := 21) (x := "_law_script") (f := NF.f_law) rfl (by decide) (by kernel_rfl) ⟨rfl, by decide, by decide⟩ ?F NF.law_true
    intro w mg fa h Y G hmg0
    obtain ⟨K, KX, c⟩ := Y
    have hmg : mg ("law" : PySem.Str) = some (.ref fa) := by
      have e : (HandSHeadRun.topDef (OpenLaw.row PySem.Challenge.rw_needforth_k02_whole_bad_tables).prog 55).name = ("law" : PySem.Str) := by kernel_rfl
      rw [← e]
      exact hmg0
    obtain ⟨fd, hb, hF⟩ := NF.facts (P := PySem.Challenge.rw_needforth_k02_whole_bad_tables.prog) (w := w) KX G hmg c (by kernel_rfl) (by kernel_rfl)
    exact ⟨K, fd, KX, hb, hF⟩

