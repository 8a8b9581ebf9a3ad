import PyProof.Rows.All
import Wide.All
import OpenK.AllK
import Wide.FinOn
import HandS.ForMost
import HandS.ForExc
import HandS.ExcInit
import HandS.IsInst
import HandS.Zip
import HandS.Walk
import HandS.Gcd
import HandS.Wide
import HandS.TupAny
import HandS.Deep
import HandS.Style
import HandS.Defaults
import HandS.WordsExc
import HandS.CallLocal
import HandS.SortInts
import PyProof.Draws
import HandS.Ends
import HandS.More
import HandS.Words
import HandS.Head0
import HandS.Head1
import HandS.Head2
import HandS.HeadEnd
import HandS.HeadHook1
import HandS.HeadHook2
import HandS.ExcField
import PyProof.EnumMake
import HandS.ExcIs
import HandS.ExcOwn
import HandS.ExcValue
import KE.KExcIs
import PySem.Challenge.RW_keptform_k00_errors
import KE.KStateDown
import HandS.Head3
import Lean
set_option Elab.async false
set_option linter.all false
set_option maxRecDepth 100000
set_option maxHeartbeats 0
section
namespace KF
open PySem PySem.Spec PyProof.Rows L2

/-- data: what a value stands for -/
inductive D where
  | non | bl (b : Bool) | int (i : Int) | str (x : Str)
  | tup (xs : List D) | lst (xs : List D) | scr (xs : List D) | cell (n : Nat) | fn (x : Str)
  | exv (x f : Str) (d : D) | ex0 (x : Str)

/-- the module's names -/
structure Ct where
  K : PySem.W.Frag
  fa : Str → Addr

mutual
def Rep (T : Ct) (G : Hp) (c : List Addr) : D → V → Prop
  | .non, v => v = .non
  | .bl b, v => v = .bl b
  | .int i, v => v = .int i
  | .str x, v => v = .str x
  | .tup xs, v => xs.length ≤ sizeLine ∧ ∃ p vs, v = .ref p ∧ SqT T.K G p vs ∧ Reps T G c xs vs
  | .lst xs, v => xs.length ≤ sizeLine ∧ ∃ p vs, v = .ref p ∧ G p = some (.lst vs) ∧ Reps T G c xs vs
  | .scr xs, v => xs.length ≤ sizeLine ∧ ∃ p vs, v = .ref p ∧ SqL T.K G p vs ∧ Reps T G c xs vs
  | .cell n, v => ∃ p, v = .ref p ∧ c[n]? = some p
  | .fn x, v => v = .ref (T.fa x)
  | .exv x f d, v => ∃ a dx u, v = .ref a ∧ G a = some (exo a (T.fa x) (some dx)) ∧ G dx = some (exd dx [(f, u)]) ∧ Rep T G c d u
  | .ex0 x, v => ∃ a, v = .ref a ∧ G a = some (exo a (T.fa x) none)
def Reps (T : Ct) (G : Hp) (c : List Addr) : List D → List V → Prop
  | [], vs => vs = []
  | d :: ds, vs => ∃ v r, vs = v :: r ∧ Rep T G c d v ∧ Reps T G c ds r
end

abbrev Sto := List (List D)
structure Wf (T : Ct) (G H : Hp) (c : List Addr) (S : Sto) : Prop where
  sub : ∀ a o, G a = some o → H a = some o
  len : c.length = S.length
  cel : ∀ (n : Nat) (xs : List D) (p : Addr), S[n]? = some xs → c[n]? = some p → G p = none ∧ ∃ vs, H p = some (.lst vs) ∧ Reps T G c xs vs
  nd : c.Nodup
structure Le (G H : Hp) (c : List Addr) (G' H' : Hp) (c' : List Addr) : Prop where
  g : ∀ a o, G a = some o → G' a = some o
  cc : ∃ r, c' = c ++ r
  fr : ∀ a o, H a = some o → a ∉ c → G a = none → H' a = some o ∧ a ∉ c' ∧ G' a = none
  dom : ∀ a, H' a = none → H a = none

theorem Le.refl (G H : Hp) (c : List Addr) : Le G H c G H c := ⟨fun _ _ h => h, ⟨[], by simp⟩, fun _ _ h1 h2 h3 => ⟨h1, h2, h3⟩, fun _ h => h⟩
theorem Le.trans {G H G1 H1 G2 H2 : Hp} {c c1 c2 : List Addr} (a : Le G H c G1 H1 c1) (b : Le G1 H1 c1 G2 H2 c2) : Le G H c G2 H2 c2 := by
  refine ⟨fun x o h => b.g x o (a.g x o h), ?_, fun x o h1 h2 h3 => ?_, fun x h => a.dom x (b.dom x h)⟩
  · obtain ⟨r, e⟩ := a.cc
    obtain ⟨r', e'⟩ := b.cc
    exact ⟨r ++ r', by rw [e', e, List.append_assoc]⟩
  · obtain ⟨k1, k2, k3⟩ := a.fr x o h1 h2 h3
    exact b.fr x o k1 k2 k3
theorem Le.get {G H G' H' : Hp} {c c' : List Addr} (a : Le G H c G' H' c') {n : Nat} {p : Addr} (h : c[n]? = some p) : c'[n]? = some p := by
  obtain ⟨r, e⟩ := a.cc
  rw [e, List.getElem?_append_left (List.getElem?_eq_some_iff.mp h).1]
  exact h
theorem Le.mem {G H G' H' : Hp} {c c' : List Addr} (a : Le G H c G' H' c') {p : Addr} (h : p ∈ c) : p ∈ c' := by
  obtain ⟨r, e⟩ := a.cc
  rw [e]
  exact List.mem_append_left _ h

theorem upd_dom {H : Hp} {p : Addr} {o : HO} {a : Addr} (h : upd H p o a = none) : H a = none := by
  by_cases ha : a = p
  · subst ha; rw [upd_same] at h; cases h
  · rw [upd_ne ha] at h; exact h
theorem sqT_mono {K : PySem.W.Frag} {G G' : Hp} {p : Addr} {vs : List V} (g : ∀ a o, G a = some o → G' a = some o) (h : SqT K G p vs) : SqT K G' p vs := by
  rcases h with (h | ⟨o, h⟩) | h
  · exact .inl (.inl (g _ _ h))
  · exact .inl (.inr ⟨o, g _ _ h⟩)
  · exact .inr h
theorem sqL_mono {K : PySem.W.Frag} {G G' : Hp} {p : Addr} {vs : List V} (g : ∀ a o, G a = some o → G' a = some o) (h : SqL K G p vs) : SqL K G' p vs := by
  rcases h with (h | ⟨o, h⟩) | h
  · exact .inl (.inl (g _ _ h))
  · exact .inl (.inr ⟨o, g _ _ h⟩)
  · exact .inr h

section
variable {T : Ct} {G G' : Hp} {c c' : List Addr}
mutual
theorem Rep.mono0 (g : ∀ a o, G a = some o → G' a = some o) (hc : ∀ (n : Nat) (p : Addr), c[n]? = some p → c'[n]? = some p) : ∀ (d : D) (v : V), Rep T G c d v → Rep T G' c' d v
  | .non, _, h => by unfold Rep at h ⊢; exact h
  | .bl _, _, h => by unfold Rep at h ⊢; exact h
  | .int _, _, h => by unfold Rep at h ⊢; exact h
  | .str _, _, h => by unfold Rep at h ⊢; exact h
  | .tup xs, _, h => by
    unfold Rep at h ⊢
    obtain ⟨z, p, vs, e, s, r⟩ := h
    exact ⟨z, p, vs, e, sqT_mono g s, Reps.mono0 g hc xs vs r⟩
  | .lst xs, _, h => by
    unfold Rep at h ⊢
    obtain ⟨z, p, vs, e, s, r⟩ := h
    exact ⟨z, p, vs, e, g _ _ s, Reps.mono0 g hc xs vs r⟩
  | .scr xs, _, h => by
    unfold Rep at h ⊢
    obtain ⟨z, p, vs, e, s, r⟩ := h
    exact ⟨z, p, vs, e, sqL_mono g s, Reps.mono0 g hc xs vs r⟩
  | .cell n, _, h => by
    unfold Rep at h ⊢
    obtain ⟨p, e, k⟩ := h
    exact ⟨p, e, hc n p k⟩
  | .fn _, _, h => by unfold Rep at h ⊢; exact h
  | .exv x f d, _, h => by
    unfold Rep at h ⊢
    obtain ⟨a, dx, u, e, h1, h2, r⟩ := h
    exact ⟨a, dx, u, e, g _ _ h1, g _ _ h2, Rep.mono0 g hc d u r⟩
  | .ex0 _, _, h => by
    unfold Rep at h ⊢
    obtain ⟨a, e, h1⟩ := h
    exact ⟨a, e, g _ _ h1⟩
theorem Reps.mono0 (g : ∀ a o, G a = some o → G' a = some o) (hc : ∀ (n : Nat) (p : Addr), c[n]? = some p → c'[n]? = some p) : ∀ (ds : List D) (vs : List V), Reps T G c ds vs → Reps T G' c' ds vs
  | [], _, h => by unfold Reps at h ⊢; exact h
  | d :: ds, _, h => by
    unfold Reps at h ⊢
    obtain ⟨v, r, e, h1, h2⟩ := h
    exact ⟨v, r, e, Rep.mono0 g hc d v h1, Reps.mono0 g hc ds r h2⟩
end
end
section
variable {T : Ct} {G H G' H' : Hp} {c c' : List Addr} {d : D} {ds : List D} {v : V} {vs : List V}
theorem Rep.mono (l : Le G H c G' H' c') (h : Rep T G c d v) : Rep T G' c' d v := Rep.mono0 l.g (fun _ _ => l.get) d v h
theorem Reps.mono (l : Le G H c G' H' c') (h : Reps T G c ds vs) : Reps T G' c' ds vs := Reps.mono0 l.g (fun _ _ => l.get) ds vs h
theorem Reps.nil : Reps T G c [] [] := by unfold Reps; rfl
theorem Reps.cons (h : Rep T G c d v) (t : Reps T G c ds vs) : Reps T G c (d :: ds) (v :: vs) := by unfold Reps; exact ⟨v, vs, rfl, h, t⟩
theorem Reps.nil_inv (h : Reps T G c [] vs) : vs = [] := by unfold Reps at h; exact h
theorem Reps.cons_inv (h : Reps T G c (d :: ds) vs) : ∃ v r, vs = v :: r ∧ Rep T G c d v ∧ Reps T G c ds r := by unfold Reps at h; exact h
theorem Reps.length : ∀ {ds : List D} {vs : List V}, Reps T G c ds vs → ds.length = vs.length
  | [], _, h => by rw [h.nil_inv]; rfl
  | d :: ds, _, h => by
    obtain ⟨v, r, e, _, t⟩ := h.cons_inv
    rw [e, List.length_cons, List.length_cons, Reps.length t]
theorem Reps.get : ∀ {ds : List D} {vs : List V} {i : Nat} {d : D}, Reps T G c ds vs → ds[i]? = some d → ∃ v, vs[i]? = some v ∧ Rep T G c d v
  | [], _, _, _, _, e => by simp at e
  | d :: ds, _, 0, d', h, e => by
    obtain ⟨v, r, e1, h1, t⟩ := h.cons_inv
    simp at e; subst e
    exact ⟨v, by rw [e1]; rfl, h1⟩
  | d :: ds, _, i + 1, d', h, e => by
    obtain ⟨v, r, e1, h1, t⟩ := h.cons_inv
    obtain ⟨u, hu, ru⟩ := Reps.get (i := i) t (by simpa using e)
    exact ⟨u, by rw [e1]; simpa using hu, ru⟩
theorem Reps.getV : ∀ {ds : List D} {vs : List V} {i : Nat} {v : V}, Reps T G c ds vs → vs[i]? = some v → ∃ d, ds[i]? = some d ∧ Rep T G c d v := fun {ds vs i v} h e => by
  have hl := h.length
  have hi : i < vs.length := (List.getElem?_eq_some_iff.mp e).1
  have hd : ds[i]? = some (ds[i]'(by omega)) := List.getElem?_eq_getElem _
  obtain ⟨u, hu, r⟩ := h.get hd
  rw [e] at hu; cases hu
  exact ⟨_, hd, r⟩
theorem Reps.append : ∀ {ds : List D} {vs : List V} {es : List D} {ws : List V}, Reps T G c ds vs → Reps T G c es ws → Reps T G c (ds ++ es) (vs ++ ws)
  | [], _, _, _, h, k => by rw [h.nil_inv]; exact k
  | d :: ds, _, _, _, h, k => by
    obtain ⟨v, r, e, h1, t⟩ := h.cons_inv
    rw [e]
    exact Reps.cons h1 (Reps.append t k)
theorem Reps.set : ∀ {ds : List D} {vs : List V} {d : D} {v : V} (i : Nat), Reps T G c ds vs → Rep T G c d v → Reps T G c (ds.set i d) (vs.set i v)
  | [], _, _, _, _, h, k => by rw [h.nil_inv]; exact Reps.nil
  | d :: ds, _, _, _, 0, h, k => by
    obtain ⟨v, r, e, h1, t⟩ := h.cons_inv
    rw [e]
    exact Reps.cons k t
  | d :: ds, _, _, _, i + 1, h, k => by
    obtain ⟨v, r, e, h1, t⟩ := h.cons_inv
    rw [e]
    exact Reps.cons h1 (Reps.set i t k)
theorem Reps.take : ∀ {ds : List D} {vs : List V} (n : Nat), Reps T G c ds vs → Reps T G c (ds.take n) (vs.take n)
  | _, _, 0, _ => Reps.nil
  | [], _, n + 1, h => by rw [h.nil_inv]; exact Reps.nil
  | d :: ds, _, n + 1, h => by
    obtain ⟨v, r, e, h1, t⟩ := h.cons_inv
    rw [e]
    exact Reps.cons h1 (Reps.take n t)
theorem Reps.drop : ∀ {ds : List D} {vs : List V} (n : Nat), Reps T G c ds vs → Reps T G c (ds.drop n) (vs.drop n)
  | _, _, 0, h => h
  | [], _, n + 1, h => by rw [h.nil_inv]; exact Reps.nil
  | d :: ds, _, n + 1, h => by
    obtain ⟨v, r, e, h1, t⟩ := h.cons_inv
    rw [e]
    exact Reps.drop n t

/-- the ways a value is told -/
theorem rep_non : Rep T G c .non .non := by unfold Rep; rfl
theorem rep_bl {b : Bool} : Rep T G c (.bl b) (.bl b) := by unfold Rep; rfl
theorem rep_int {i : Int} : Rep T G c (.int i) (.int i) := by unfold Rep; rfl
theorem rep_str {x : Str} : Rep T G c (.str x) (.str x) := by unfold Rep; rfl
theorem rep_tup {xs : List D} {p : Addr} (z : xs.length ≤ sizeLine) (s : SqT T.K G p vs) (r : Reps T G c xs vs) : Rep T G c (.tup xs) (.ref p) := by unfold Rep; exact ⟨z, p, vs, rfl, s, r⟩
theorem rep_lst {xs : List D} {p : Addr} (z : xs.length ≤ sizeLine) (s : G p = some (.lst vs)) (r : Reps T G c xs vs) : Rep T G c (.lst xs) (.ref p) := by unfold Rep; exact ⟨z, p, vs, rfl, s, r⟩
theorem inv_non (h : Rep T G c .non v) : v = .non := by unfold Rep at h; exact h
theorem inv_bl {b : Bool} (h : Rep T G c (.bl b) v) : v = .bl b := by unfold Rep at h; exact h
theorem inv_int {i : Int} (h : Rep T G c (.int i) v) : v = .int i := by unfold Rep at h; exact h
theorem inv_str {x : Str} (h : Rep T G c (.str x) v) : v = .str x := by unfold Rep at h; exact h
theorem inv_tup {xs : List D} (h : Rep T G c (.tup xs) v) : xs.length ≤ sizeLine ∧ ∃ p vs, v = .ref p ∧ SqT T.K G p vs ∧ Reps T G c xs vs := by unfold Rep at h; exact h
theorem inv_lst {xs : List D} (h : Rep T G c (.lst xs) v) : xs.length ≤ sizeLine ∧ ∃ p vs, v = .ref p ∧ G p = some (.lst vs) ∧ Reps T G c xs vs := by unfold Rep at h; exact h
theorem rep_scr {xs : List D} {p : Addr} (z : xs.length ≤ sizeLine) (s : SqL T.K G p vs) (r : Reps T G c xs vs) : Rep T G c (.scr xs) (.ref p) := by unfold Rep; exact ⟨z, p, vs, rfl, s, r⟩
theorem inv_scr {xs : List D} (h : Rep T G c (.scr xs) v) : xs.length ≤ sizeLine ∧ ∃ p vs, v = .ref p ∧ SqL T.K G p vs ∧ Reps T G c xs vs := by unfold Rep at h; exact h
theorem inv_cell {n : Nat} (h : Rep T G c (.cell n) v) : ∃ p, v = .ref p ∧ c[n]? = some p := by unfold Rep at h; exact h
theorem inv_exv {x f : Str} {d : D} (h : Rep T G c (.exv x f d) v) : ∃ a dx u, v = .ref a ∧ G a = some (exo a (T.fa x) (some dx)) ∧ G dx = some (exd dx [(f, u)]) ∧ Rep T G c d u := by unfold Rep at h; exact h
theorem inv_ex0 {x : Str} (h : Rep T G c (.ex0 x) v) : ∃ a, v = .ref a ∧ G a = some (exo a (T.fa x) none) := by unfold Rep at h; exact h
theorem rep_exv {x f : Str} {d : D} {a dx : Addr} {u : V} (h1 : G a = some (exo a (T.fa x) (some dx))) (h2 : G dx = some (exd dx [(f, u)])) (r : Rep T G c d u) : Rep T G c (.exv x f d) (.ref a) := by unfold Rep; exact ⟨a, dx, u, rfl, h1, h2, r⟩
theorem rep_ex0 {x : Str} {a : Addr} (h1 : G a = some (exo a (T.fa x) none)) : Rep T G c (.ex0 x) (.ref a) := by unfold Rep; exact ⟨a, rfl, h1⟩
theorem inv_fn {x : Str} (h : Rep T G c (.fn x) v) : v = .ref (T.fa x) := by unfold Rep at h; exact h
end

/-! ### a new object laid; a cell written -/
section
variable {T : Ct} {G H : Hp} {c : List Addr} {S : Sto}
theorem Wf.inH (w : Wf T G H c S) {p : Addr} (h : H p = none) : G p = none := by
  cases q : G p with
  | none => rfl
  | some o => rw [w.sub p o q] at h; cases h
theorem Wf.cH (w : Wf T G H c S) {p : Addr} (h : p ∈ c) : ∃ vs, H p = some (.lst vs) := by
  obtain ⟨n, hn, e⟩ := List.mem_iff_getElem.mp h
  have hs : S[n]? = some (S[n]'(by have := w.len; omega)) := List.getElem?_eq_getElem _
  obtain ⟨_, vs, h1, _⟩ := w.cel n _ p hs (by rw [← e]; exact List.getElem?_eq_getElem hn)
  exact ⟨vs, h1⟩
theorem Wf.cN (w : Wf T G H c S) {p : Addr} (h : H p = none) : p ∉ c := fun hm => by
  obtain ⟨vs, e⟩ := w.cH hm
  rw [h] at e; cases e
theorem Wf.cG (w : Wf T G H c S) {p : Addr} (h : p ∈ c) : G p = none := by
  obtain ⟨n, hn, e⟩ := List.mem_iff_getElem.mp h
  have hs : S[n]? = some (S[n]'(by have := w.len; omega)) := List.getElem?_eq_getElem _
  exact (w.cel n _ p hs (by rw [← e]; exact List.getElem?_eq_getElem hn)).1
/-- laid and frozen -/
theorem Wf.laid (w : Wf T G H c S) {p : Addr} {o : HO} (hp : H p = none) : Wf T (upd G p o) (upd H p o) c S ∧ Le G H c (upd G p o) (upd H p o) c := by
  have hg := w.inH hp
  have hc := w.cN hp
  have g : ∀ a u, G a = some u → upd G p o a = some u := fun a u e => by rw [upd_ne (ne_of_none e hg)]; exact e
  refine ⟨⟨fun a u e => ?_, w.len, fun n xs q h1 h2 => ?_, w.nd⟩, g, ⟨[], by simp⟩, fun a u e h1 h2 => ?_, fun a h => upd_dom h⟩
  · by_cases ha : a = p
    · subst ha; rw [upd_same] at e ⊢; exact e
    · rw [upd_ne ha] at e ⊢; exact w.sub a u e
  · obtain ⟨k1, vs, k2, k3⟩ := w.cel n xs q h1 h2
    have hq : q ≠ p := fun e => hc (e ▸ List.mem_of_getElem? h2)
    exact ⟨by rw [upd_ne hq]; exact k1, vs, by rw [upd_ne hq]; exact k2, Reps.mono0 g (fun _ _ h => h) xs vs k3⟩
  · have ha : a ≠ p := ne_of_none e hp
    exact ⟨by rw [upd_ne ha]; exact e, h1, by rw [upd_ne ha]; exact h2⟩
/-- laid, not frozen -/
theorem Wf.laidN (w : Wf T G H c S) {p : Addr} {o : HO} (hp : H p = none) : Wf T G (upd H p o) c S ∧ Le G H c G (upd H p o) c := by
  have hg := w.inH hp
  have hc := w.cN hp
  refine ⟨⟨fun a u e => ?_, w.len, fun n xs q h1 h2 => ?_, w.nd⟩, fun _ _ h => h, ⟨[], by simp⟩, fun a u e h1 h2 => ?_, fun a h => upd_dom h⟩
  · rw [upd_ne (ne_of_none e hg)]; exact w.sub a u e
  · obtain ⟨k1, vs, k2, k3⟩ := w.cel n xs q h1 h2
    have hq : q ≠ p := fun e => hc (e ▸ List.mem_of_getElem? h2)
    exact ⟨k1, vs, by rw [upd_ne hq]; exact k2, k3⟩
  · have ha : a ≠ p := ne_of_none e hp
    exact ⟨by rw [upd_ne ha]; exact e, h1, h2⟩
/-- a list of one's own (no cell, not frozen) is written -/
theorem Wf.wrote (w : Wf T G H c S) {p : Addr} {o : HO} (hg : G p = none) (hc : p ∉ c) : Wf T G (upd H p o) c S := by
  refine ⟨fun a u e => ?_, w.len, fun n xs q h1 h2 => ?_, w.nd⟩
  · rw [upd_ne (ne_of_none e hg)]; exact w.sub a u e
  · obtain ⟨k1, vs, k2, k3⟩ := w.cel n xs q h1 h2
    have hq : q ≠ p := fun e => hc (e ▸ List.mem_of_getElem? h2)
    exact ⟨k1, vs, by rw [upd_ne hq]; exact k2, k3⟩
/-- one's own list is frozen -/
theorem Wf.froze (w : Wf T G H c S) {p : Addr} {o : HO} (hp : H p = some o) (hg : G p = none) (hc : p ∉ c) : Wf T (upd G p o) H c S := by
  have g : ∀ a u, G a = some u → upd G p o a = some u := fun a u e => by rw [upd_ne (ne_of_none e hg)]; exact e
  refine ⟨fun a u e => ?_, w.len, fun n xs q h1 h2 => ?_, w.nd⟩
  · by_cases ha : a = p
    · subst ha; rw [upd_same] at e; rw [hp]; exact e
    · rw [upd_ne ha] at e; exact w.sub a u e
  · obtain ⟨k1, vs, k2, k3⟩ := w.cel n xs q h1 h2
    have hq : q ≠ p := fun e => hc (e ▸ List.mem_of_getElem? h2)
    exact ⟨by rw [upd_ne hq]; exact k1, vs, k2, Reps.mono0 g (fun _ _ h => h) xs vs k3⟩
/-- a cell is written -/
theorem Wf.store (w : Wf T G H c S) {n : Nat} {p : Addr} {xs : List D} {vs : List V} (hn : c[n]? = some p) (r : Reps T G c xs vs) : Wf T G (upd H p (.lst vs)) c (S.set n xs) ∧ Le G H c G (upd H p (.lst vs)) c := by
  have hm : p ∈ c := List.mem_of_getElem? hn
  have hg := w.cG hm
  have hlt : n < c.length := (List.getElem?_eq_some_iff.mp hn).1
  refine ⟨⟨fun a u e => ?_, by rw [List.length_set]; exact w.len, fun k ys q h1 h2 => ?_, w.nd⟩, fun _ _ h => h, ⟨[], by simp⟩, fun a u e h1 h2 => ?_, fun a h => upd_dom h⟩
  · rw [upd_ne (ne_of_none e hg)]; exact w.sub a u e
  · by_cases hk : k = n
    · subst hk
      rw [hn] at h2; cases h2
      rw [List.getElem?_set_self (by rw [← w.len]; exact hlt)] at h1; cases h1
      exact ⟨hg, vs, upd_same, r⟩
    · rw [List.getElem?_set_ne (Ne.symm hk)] at h1
      obtain ⟨k1, ws, k2, k3⟩ := w.cel k ys q h1 h2
      have hq : q ≠ p := fun e => hk (by
        subst e
        have e1 := List.getElem?_eq_some_iff.mp h2
        have e2 := List.getElem?_eq_some_iff.mp hn
        exact (List.getElem_inj w.nd).mp (e1.2.trans e2.2.symm))
      exact ⟨k1, ws, by rw [upd_ne hq]; exact k2, k3⟩
  · have ha : a ≠ p := fun z => h1 (z ▸ hm)
    exact ⟨by rw [upd_ne ha]; exact e, h1, h2⟩
end

/-! ### slots -/
inductive Sl where
  | un | val (d : D) | own (xs : List D)
def SlOk (T : Ct) (G H : Hp) (c : List Addr) : Sl → Option V → Prop
  | .un, _ => True
  | .val d, o => ∃ v, o = some v ∧ Rep T G c d v
  | .own xs, o => xs.length ≤ sizeLine ∧ ∃ p vs, o = some (.ref p) ∧ H p = some (.lst vs) ∧ G p = none ∧ p ∉ c ∧ Reps T G c xs vs
structure SR (T : Ct) (G H : Hp) (c : List Addr) (ρ : List Sl) (σ : L2.St) : Prop where
  len : ρ.length = σ.length
  at_ : ∀ (i : Nat) (s : Sl), ρ[i]? = some s → ∃ o, σ[i]? = some o ∧ SlOk T G H c s o
  ap : ∀ (i j : Nat) (xs ys : List D) (p q : Addr), ρ[i]? = some (.own xs) → ρ[j]? = some (.own ys) → σ[i]? = some (some (.ref p)) → σ[j]? = some (some (.ref q)) → i ≠ j → p ≠ q
section
variable {T : Ct} {G H G' H' : Hp} {c c' : List Addr} {S S' : Sto} {ρ : List Sl} {σ : L2.St}
theorem SlOk.mono (l : Le G H c G' H' c') {s : Sl} {o : Option V} (h : SlOk T G H c s o) : SlOk T G' H' c' s o := by
  cases s with
  | un => trivial
  | val d => obtain ⟨v, e, r⟩ := h; exact ⟨v, e, r.mono l⟩
  | own xs =>
    obtain ⟨z, p, vs, e, h1, h2, h3, r⟩ := h
    obtain ⟨k1, k2, k3⟩ := l.fr p _ h1 h3 h2
    exact ⟨z, p, vs, e, k1, k3, k2, r.mono l⟩
theorem SR.mono (l : Le G H c G' H' c') (r : SR T G H c ρ σ) : SR T G' H' c' ρ σ :=
  ⟨r.len, fun i s e => let ⟨o, h1, h2⟩ := r.at_ i s e; ⟨o, h1, h2.mono l⟩, r.ap⟩
theorem SR.val (r : SR T G H c ρ σ) {i : Nat} {d : D} (h : ρ[i]? = some (.val d)) : ∃ v, σ[i]? = some (some v) ∧ Rep T G c d v := by
  obtain ⟨o, h1, v, e, rv⟩ := r.at_ i _ h
  subst e
  exact ⟨v, h1, rv⟩
theorem SR.own (r : SR T G H c ρ σ) {i : Nat} {xs : List D} (h : ρ[i]? = some (.own xs)) : xs.length ≤ sizeLine ∧ ∃ p vs, σ[i]? = some (some (.ref p)) ∧ H p = some (.lst vs) ∧ G p = none ∧ p ∉ c ∧ Reps T G c xs vs := by
  obtain ⟨o, h1, z, p, vs, e, k⟩ := r.at_ i _ h
  subst e
  exact ⟨z, p, vs, h1, k⟩
/-- a slot is stored -/
theorem SR.set (r : SR T G H c ρ σ) {i : Nat} {d : D} {v : V} (rv : Rep T G c d v) : SR T G H c (ρ.set i (.val d)) (σ.set i (some v)) := by
  refine ⟨by rw [List.length_set, List.length_set]; exact r.len, fun j s e => ?_, fun j k xs ys p q h1 h2 h3 h4 => ?_⟩
  · by_cases hj : i = j
    · subst hj
      have hi : i < ρ.length := by have := (List.getElem?_eq_some_iff.mp e).1; rwa [List.length_set] at this
      rw [List.getElem?_set_self hi] at e; cases e
      exact ⟨some v, List.getElem?_set_self (by rw [← r.len]; exact hi), v, rfl, rv⟩
    · rw [List.getElem?_set_ne hj] at e
      rw [List.getElem?_set_ne hj]
      exact r.at_ j s e
  · have g : ∀ (k : Nat) (zs : List D), (ρ.set i (.val d))[k]? = some (.own zs) → i ≠ k ∧ ρ[k]? = some (.own zs) := fun k zs e => by
      by_cases hk : i = k
      · subst hk
        have hi : i < ρ.length := by have := (List.getElem?_eq_some_iff.mp e).1; rwa [List.length_set] at this
        rw [List.getElem?_set_self hi] at e; cases e
      · rw [List.getElem?_set_ne hk] at e; exact ⟨hk, e⟩
    obtain ⟨n1, e1⟩ := g j xs h1
    obtain ⟨n2, e2⟩ := g k ys h2
    rw [List.getElem?_set_ne n1] at h3
    rw [List.getElem?_set_ne n2] at h4
    exact r.ap j k xs ys p q e1 e2 h3 h4
/-- slots forgotten -/
theorem SR.unset (r : SR T G H c ρ σ) {i : Nat} {o : Option V} : SR T G H c (ρ.set i .un) (σ.set i o) := by
  refine ⟨by rw [List.length_set, List.length_set]; exact r.len, fun j s e => ?_, fun j k xs ys p q h1 h2 h3 h4 => ?_⟩
  · by_cases hj : i = j
    · subst hj
      have hi : i < ρ.length := by have := (List.getElem?_eq_some_iff.mp e).1; rwa [List.length_set] at this
      rw [List.getElem?_set_self hi] at e; cases e
      exact ⟨o, List.getElem?_set_self (by rw [← r.len]; exact hi), trivial⟩
    · rw [List.getElem?_set_ne hj] at e
      rw [List.getElem?_set_ne hj]
      exact r.at_ j s e
  · have g : ∀ (k : Nat) (zs : List D), (ρ.set i .un)[k]? = some (.own zs) → i ≠ k ∧ ρ[k]? = some (.own zs) := fun k zs e => by
      by_cases hk : i = k
      · subst hk
        have hi : i < ρ.length := by have := (List.getElem?_eq_some_iff.mp e).1; rwa [List.length_set] at this
        rw [List.getElem?_set_self hi] at e; cases e
      · rw [List.getElem?_set_ne hk] at e; exact ⟨hk, e⟩
    obtain ⟨n1, e1⟩ := g j xs h1
    obtain ⟨n2, e2⟩ := g k ys h2
    rw [List.getElem?_set_ne n1] at h3
    rw [List.getElem?_set_ne n2] at h4
    exact r.ap j k xs ys p q e1 e2 h3 h4
/-- a new list of one's own at p, new -/
theorem SR.setOwn (r : SR T G H c ρ σ) (l : Le G H c G' H' c') {i : Nat} {p : Addr} {xs : List D} {vs : List V} (hp : H p = none) (hp' : H' p = some (.lst vs)) (hg : G' p = none) (hc : p ∉ c') (z : xs.length ≤ sizeLine) (rs : Reps T G' c' xs vs) :
    SR T G' H' c' (ρ.set i (.own xs)) (σ.set i (some (.ref p))) := by
  have r' := r.mono l
  refine ⟨by rw [List.length_set, List.length_set]; exact r.len, fun j s e => ?_, fun j k xs ys q1 q2 h1 h2 h3 h4 hjk => ?_⟩
  · by_cases hj : i = j
    · subst hj
      have hi : i < ρ.length := by have := (List.getElem?_eq_some_iff.mp e).1; rwa [List.length_set] at this
      rw [List.getElem?_set_self hi] at e; cases e
      exact ⟨_, List.getElem?_set_self (by rw [← r.len]; exact hi), z, p, vs, rfl, hp', hg, hc, rs⟩
    · rw [List.getElem?_set_ne hj] at e
      rw [List.getElem?_set_ne hj]
      exact r'.at_ j s e
  · have old : ∀ (k : Nat) (zs : List D) (q : Addr), i ≠ k → ρ[k]? = some (.own zs) → σ[k]? = some (some (.ref q)) → q ≠ p := fun k zs q _ e1 e2 z => by
      obtain ⟨_, p', vs', e3, e4, _⟩ := r.own e1
      rw [e2] at e3
      injection e3 with e3; injection e3 with e3; injection e3 with e3
      rw [← e3, z, hp] at e4; cases e4
    by_cases hj : i = j
    · subst hj
      have hi : i < ρ.length := by have := (List.getElem?_eq_some_iff.mp h1).1; rwa [List.length_set] at this
      rw [List.getElem?_set_self (by rw [← r.len]; exact hi)] at h3
      rw [List.getElem?_set_ne hjk] at h2 h4
      injection h3 with h3; injection h3 with h3; injection h3 with h3
      exact fun z => old k ys q2 hjk h2 h4 (by rw [← z, ← h3])
    · rw [List.getElem?_set_ne hj] at h1 h3
      by_cases hk : i = k
      · subst hk
        have hi : i < ρ.length := by have := (List.getElem?_eq_some_iff.mp h2).1; rwa [List.length_set] at this
        rw [List.getElem?_set_self (by rw [← r.len]; exact hi)] at h4
        injection h4 with h4; injection h4 with h4; injection h4 with h4
        exact fun z => old j xs q1 hj h1 h3 (by rw [z, ← h4])
      · rw [List.getElem?_set_ne hk] at h2 h4
        exact r.ap j k xs ys q1 q2 h1 h2 h3 h4 hjk
/-- one's own list written -/
theorem SR.wrote (r : SR T G H c ρ σ) {i : Nat} {p : Addr} {xs ys : List D} {vs : List V} (hi : ρ[i]? = some (.own xs)) (hp : σ[i]? = some (some (.ref p))) (z : ys.length ≤ sizeLine) (rs : Reps T G c ys vs) : SR T G (upd H p (.lst vs)) c (ρ.set i (.own ys)) σ := by
  have hil : i < ρ.length := (List.getElem?_eq_some_iff.mp hi).1
  have g : ∀ (k : Nat) (zs : List D), (ρ.set i (.own ys))[k]? = some (.own zs) → ∃ us, ρ[k]? = some (.own us) := fun k zs e => by
    by_cases hk : i = k
    · subst hk; exact ⟨_, hi⟩
    · rw [List.getElem?_set_ne hk] at e; exact ⟨_, e⟩
  refine ⟨by rw [List.length_set]; exact r.len, fun j s e => ?_, fun j k zs us q1 q2 h1 h2 h3 h4 hjk => ?_⟩
  · by_cases hj : i = j
    · subst hj
      rw [List.getElem?_set_self hil] at e; cases e
      obtain ⟨_, p', vs', e1, e2, e3, e4, _⟩ := r.own hi
      rw [hp] at e1; cases e1
      exact ⟨_, hp, z, p, vs, rfl, upd_same, e3, e4, rs⟩
    · rw [List.getElem?_set_ne hj] at e
      obtain ⟨o, e1, k⟩ := r.at_ j s e
      refine ⟨o, e1, ?_⟩
      cases s with
      | un => trivial
      | val d => exact k
      | own zs =>
        obtain ⟨z0, q, ws, z1, z2, z3⟩ := k
        subst z1
        have hq : q ≠ p := Ne.symm (r.ap i j xs zs p q hi e hp e1 hj)
        exact ⟨z0, q, ws, rfl, by rw [upd_ne hq]; exact z2, z3⟩
  · obtain ⟨zs', e1⟩ := g j zs h1
    obtain ⟨us', e2⟩ := g k us h2
    exact r.ap j k zs' us' q1 q2 e1 e2 h3 h4 hjk
/-- one's own list frozen -/
theorem SR.froze (r : SR T G H c ρ σ) (w : Wf T G H c S) {i : Nat} {p : Addr} {xs : List D} {vs : List V} (hi : ρ[i]? = some (.own xs)) (hp : σ[i]? = some (some (.ref p))) (hv : H p = some (.lst vs)) : SR T (upd G p (.lst vs)) H c (ρ.set i (.val (.lst xs))) σ := by
  have hil : i < ρ.length := (List.getElem?_eq_some_iff.mp hi).1
  obtain ⟨z0, p', vs', e1, e2, e3, e4, e5⟩ := r.own hi
  rw [hp] at e1; cases e1
  rw [hv] at e2; cases e2
  have gm : ∀ a u, G a = some u → upd G p (.lst vs) a = some u := fun a u e => by rw [upd_ne (ne_of_none e e3)]; exact e
  have g : ∀ (k : Nat) (zs : List D), (ρ.set i (.val (.lst xs)))[k]? = some (.own zs) → i ≠ k ∧ ρ[k]? = some (.own zs) := fun k zs e => by
    by_cases hk : i = k
    · subst hk
      rw [List.getElem?_set_self hil] at e; cases e
    · rw [List.getElem?_set_ne hk] at e; exact ⟨hk, e⟩
  refine ⟨by rw [List.length_set]; exact r.len, fun j s e => ?_, fun j k zs us q1 q2 h1 h2 h3 h4 hjk => ?_⟩
  · by_cases hj : i = j
    · subst hj
      rw [List.getElem?_set_self hil] at e; cases e
      exact ⟨_, hp, _, rfl, rep_lst (vs := vs) z0 upd_same (Reps.mono0 gm (fun _ _ h => h) xs vs e5)⟩
    · rw [List.getElem?_set_ne hj] at e
      obtain ⟨o, k1, k2⟩ := r.at_ j s e
      refine ⟨o, k1, ?_⟩
      cases s with
      | un => trivial
      | val d => obtain ⟨v, z, rv⟩ := k2; exact ⟨v, z, Rep.mono0 gm (fun _ _ h => h) d v rv⟩
      | own zs =>
        obtain ⟨z0', q, ws, z1, z2, z3, z4, z5⟩ := k2
        subst z1
        have hq : q ≠ p := Ne.symm (r.ap i j xs zs p q hi e hp k1 hj)
        exact ⟨z0', q, ws, rfl, z2, by rw [upd_ne hq]; exact z3, z4, Reps.mono0 gm (fun _ _ h => h) zs ws z5⟩
  · obtain ⟨n1, e1'⟩ := g j zs h1
    obtain ⟨n2, e2'⟩ := g k us h2
    exact r.ap j k zs us q1 q2 e1' e2' h3 h4 hjk
end
end KF
end

section
namespace KF
open PySem PySem.Spec PyProof.Rows L2

/-! ### what a piece of syntax means -/
inductive Rs (α : Type) where
  | ok (a : α) (S : Sto) | exc (C : Str) (f : Option (Str × D)) (S : Sto) | bad
def Rs.bind {α β : Type} (r : Rs α) (k : α → Sto → Rs β) : Rs β := match r with
  | .ok a S => k a S
  | .exc C f S => .exc C f S
  | .bad => .bad
abbrev Env := List Sl
abbrev ME := Env → Sto → Rs D
abbrev MA := Env → Sto → Rs (List D)
/-- an exception's fields -/
def XRep (T : Ct) (G H : Hp) (c : List Addr) : Option (Str × D) → Option Addr → Prop
  | none, e => e = none
  | some (x, d), e => ∃ a v, e = some a ∧ H a = some (.xd [(x, v)]) ∧ Rep T G c d v
/-- how an end is borne out -/
def Out {α β : Type} (T : Ct) (W : WX) (σ : L2.St) (G H : Hp) (c : List Addr) (R : Hp → List Addr → α → β → Prop) (Q : β → Hp → Prop) : Rs α → Prop
  | .ok a S => ∀ v G' H' c', Wf T G' H' c' S → Le G H c G' H' c' → R G' c' a v → Q v H'
  | .exc C f S => ∀ e G' H' c', Wf T G' H' c' S → Le G H c G' H' c' → XRep T G' H' c' f e → W (.ref (T.fa C)) e σ H'
  | .bad => False
theorem Out.le {α β : Type} {T : Ct} {W : WX} {σ : L2.St} {G H G' H' : Hp} {c c' : List Addr} {R : Hp → List Addr → α → β → Prop} {Q : β → Hp → Prop} {r : Rs α} (h : Out T W σ G H c R Q r) (l : Le G H c G' H' c') : Out T W σ G' H' c' R Q r := by
  cases r with
  | ok a S => exact fun v G2 H2 c2 w l2 rv => h v G2 H2 c2 w (l.trans l2) rv
  | exc C f S => exact fun e G2 H2 c2 w l2 rv => h e G2 H2 c2 w (l.trans l2) rv
  | bad => exact h
theorem Out.bind {α β γ δ : Type} {T : Ct} {W : WX} {σ : L2.St} {G H : Hp} {c : List Addr} {R : Hp → List Addr → α → β → Prop} {R' : Hp → List Addr → γ → δ → Prop} {Q : δ → Hp → Prop} {r : Rs α} {k : α → Sto → Rs γ}
    (h : Out T W σ G H c R' Q (r.bind k)) : Out T W σ G H c R (fun v H1 => ∃ G1 c1 a S1, Wf T G1 H1 c1 S1 ∧ Le G H c G1 H1 c1 ∧ R G1 c1 a v ∧ Out T W σ G1 H1 c1 R' Q (k a S1)) r := by
  cases r with
  | ok a S => exact fun v G1 H1 c1 w l rv => ⟨G1, c1, a, S, w, l, rv, Out.le (r := k a S) h l⟩
  | exc C f S => exact h
  | bad => exact h
theorem Out.imp {α β : Type} {T : Ct} {W : WX} {σ : L2.St} {G H : Hp} {c : List Addr} {R : Hp → List Addr → α → β → Prop} {Q Q' : β → Hp → Prop} {r : Rs α} (h : Out T W σ G H c R Q r) (i : ∀ v H', Q v H' → Q' v H') : Out T W σ G H c R Q' r := by
  cases r with
  | ok a S => exact fun v G2 H2 c2 w l2 rv => i _ _ (h v G2 H2 c2 w l2 rv)
  | exc C f S => exact h
  | bad => exact h

def tM {α β : Type} (T : Ct) (W : WX) (R : Hp → List Addr → α → β → Prop) (m : Env → Sto → Rs α) : L2.St → Hp → (β → Hp → Prop) → Prop :=
  fun σ H Q => ∃ G c S ρ, Wf T G H c S ∧ SR T G H c ρ σ ∧ Out T W σ G H c R Q (m ρ S)
abbrev tE (T : Ct) (W : WX) (m : ME) : TE := tM T W (Rep T) m
abbrev tA (T : Ct) (W : WX) (m : MA) : TA := tM T W (Reps T) m
/-- an expression means m -/
structure SE (X : Cx) (T : Ct) (W : WX) (e : Expr) (m : ME) : Prop where
  pe : X.K = T.K → PE X e (tE T W m)
/-- .. as a test -/
structure SC (X : Cx) (T : Ct) (W : WX) (e : Expr) (m : ME) : Prop where
  pt : X.K = T.K → PT X e (tB (tE T W m))
structure SA (X : Cx) (T : Ct) (W : WX) (es : List Expr) (m : MA) : Prop where
  pa : X.K = T.K → PA X es (tA T W m)

theorem PE.imp {X : Cx} {e : Expr} {t t' : TE} (h : PE X e t) (i : ∀ σ H Q, t' σ H Q → t σ H Q) : PE X e t' := ⟨fun pins s σ H Q I hq => h.run pins s σ H Q I (i σ H Q hq)⟩
theorem PT.imp {X : Cx} {e : Expr} {t t' : TT} (h : PT X e t) (i : ∀ σ H Q, t' σ H Q → t σ H Q) : PT X e t' := ⟨fun pins s σ H Q I hq => h.run pins s σ H Q I (i σ H Q hq)⟩
theorem PA.imp {X : Cx} {e : List Expr} {t t' : TA} (h : PA X e t) (i : ∀ σ H Q, t' σ H Q → t σ H Q) : PA X e t' := ⟨fun pos pins s σ H Q I hq => h.run pos pins s σ H Q I (i σ H Q hq)⟩
theorem PS.imp {X : Cx} {e : Stmt} {t t' : TS} (h : PS X e t) (i : ∀ D σ H, t' D σ H → t D σ H) : PS X e t' := ⟨fun pins s σ H Q I hq => h.run pins s σ H Q I (i Q σ H hq)⟩
theorem PSs.imp {X : Cx} {e : List Stmt} {t t' : TS} (h : PSs X e t) (i : ∀ D σ H, t' D σ H → t D σ H) : PSs X e t' := ⟨fun pins s σ H Q I hq => h.run pins s σ H Q I (i Q σ H hq)⟩

/-- from the meaning of a pair in a row to the reading -/
theorem tM.bind {α β γ δ : Type} {T : Ct} {W : WX} {R : Hp → List Addr → α → β → Prop} {R' : Hp → List Addr → γ → δ → Prop} {m : Env → Sto → Rs α} {k : Env → α → Sto → Rs γ} {σ : L2.St} {H : Hp} {Q : δ → Hp → Prop}
    (h : tM T W R' (fun ρ S => (m ρ S).bind (k ρ)) σ H Q) : tM T W R m σ H (fun v H1 => ∃ G1 c1 a S1 ρ, Wf T G1 H1 c1 S1 ∧ SR T G1 H1 c1 ρ σ ∧ R G1 c1 a v ∧ Out T W σ G1 H1 c1 R' Q (k ρ a S1)) := by
  obtain ⟨G, c, S, ρ, w, sr, o⟩ := h
  refine ⟨G, c, S, ρ, w, sr, (Out.bind o).imp ?_⟩
  rintro v H' ⟨G1, c1, a, S1, w1, l, rv, o1⟩
  exact ⟨G1, c1, a, S1, ρ, w1, sr.mono l, rv, o1⟩

section
variable {X : Cx} {T : Ct} {W : WX} {e a b : Expr} {es : List Expr} {m m1 m2 m3 : ME} {ma : MA} {pos : Pos}

/-! ### names, constants -/
def eVar (i : Nat) : ME := fun ρ S => match ρ[i]? with
  | some (.val d) => .ok d S
  | _ => .bad
def eC (d : D) : ME := fun _ S => .ok d S
theorem se_var (i : Nat) {x : Str} (hN : X.N[i]? = some x := by rfl) (hv : Vis X.env.scope x := by first | exact Or.inl rfl | exact Or.inr (Or.inl rfl) | exact Or.inr (Or.inr rfl)) (hd : (x == ("__debug__" : Str)) = false := by decide)
    (hcd : (x == ("__classdict__" : Str)) = false := by decide) : SE X T W (.Name x pos) (eVar i) := by
  refine ⟨fun hK => PE.imp (pe_var hN hv hd hcd) fun σ H Q h => ?_⟩
  obtain ⟨G, c, S, ρ, w, sr, o⟩ := h
  unfold eVar at o
  cases q : ρ[i]? with
  | none => rw [q] at o; exact o.elim
  | some s =>
    rw [q] at o
    cases s with
    | val d =>
      obtain ⟨v, e, r⟩ := sr.val q
      exact ⟨v, e, o v G H c w (Le.refl G H c) r⟩
    | un => exact o.elim
    | own xs => exact o.elim
/-- a constant meaning -/
theorem out_const {σ : L2.St} {G H : Hp} {c : List Addr} {S : Sto} {d : D} {v : V} {Q : VK} (w : Wf T G H c S) (o : Out T W σ G H c (Rep T) Q (.ok d S)) (r : Rep T G c d v) : Q v H := o v G H c w (Le.refl G H c) r
theorem se_int {i : Int} {j : Nat} : SE X T W (.Constant (.int i) j pos) (eC (.int i)) := ⟨fun _ => PE.imp pe_int fun _ _ _ ⟨_, _, _, _, w, _, o⟩ => out_const w o rep_int⟩
theorem se_bl {i : Bool} {j : Nat} : SE X T W (.Constant (.bool i) j pos) (eC (.bl i)) := ⟨fun _ => PE.imp pe_bl fun _ _ _ ⟨_, _, _, _, w, _, o⟩ => out_const w o rep_bl⟩
theorem se_non {j : Nat} : SE X T W (.Constant .none j pos) (eC .non) := ⟨fun _ => PE.imp pe_non fun _ _ _ ⟨_, _, _, _, w, _, o⟩ => out_const w o rep_non⟩
theorem se_str {x : Str} {j : Nat} : SE X T W (.Constant (.str x) j pos) (eC (.str x)) := ⟨fun _ => PE.imp pe_str fun _ _ _ ⟨_, _, _, _, w, _, o⟩ => out_const w o rep_str⟩
/-- a name of the module: its datum, in every heap -/
def GloM (mg : Str → Option Value) (T : Ct) (x : Str) (d : D) : Prop := ∃ v u, mg x = some u ∧ RelV v u ∧ ∀ G c, Rep T G c d v
abbrev GloD (X : Cx) (T : Ct) (x : Str) (d : D) : Prop := GloM X.mg T x d
theorem se_glob {x : Str} {d : D} (hm : GloD X T x d) (hg : Gl X x := by rfl) (hd : (x == ("__debug__" : Str)) = false := by decide) : SE X T W (.Name x pos) (eC d) := by
  obtain ⟨v, u, e, r, rp⟩ := hm
  exact ⟨fun _ => PE.imp (pe_glob hg e r hd) fun _ _ _ ⟨_, _, _, _, w, _, o⟩ => out_const w o (rp _ _)⟩

/-! ### two operands -/
abbrev G2 := D → D → Sto → Option D
def rG (T : Ct) (g : G2) : R2 := fun x y H Q => ∃ G c S d1 d2 d, Wf T G H c S ∧ Rep T G c d1 x ∧ Rep T G c d2 y ∧ g d1 d2 S = some d ∧ ∀ v G' H', Wf T G' H' c S → Le G H c G' H' c → Rep T G' c d v → Q v H'
def OpS (X : Cx) (T : Ct) (f : Value → Value → Sem Value) (g : G2) : Prop := X.K = T.K → OpR X f (rG T g)
def op2 (g : G2) (d1 d2 : D) (S : Sto) : Rs D := match g d1 d2 S with
  | some d => .ok d S
  | none => .bad
def eBin (g : G2) (m1 m2 : ME) : ME := fun ρ S => (m1 ρ S).bind fun d1 S1 => (m2 ρ S1).bind fun d2 S2 => op2 g d1 d2 S2
theorem bin_read {g : G2} {σ : L2.St} {H : Hp} {Q : VK} (h : tE T W (eBin g m1 m2) σ H Q) : tOp (rG T g) (tE T W m1) (tE T W m2) σ H Q := by
  obtain ⟨G, c, S, ρ, w, sr, o⟩ := h
  refine ⟨G, c, S, ρ, w, sr, (Out.bind o).imp ?_⟩
  rintro x H1 ⟨G1, c1, d1, S1, w1, l1, r1, o1⟩
  refine ⟨G1, c1, S1, ρ, w1, sr.mono l1, (Out.bind o1).imp ?_⟩
  rintro y H2 ⟨G2, c2, d2, S2, w2, l2, r2, o2⟩
  unfold op2 at o2
  cases q : g d1 d2 S2 with
  | none => rw [q] at o2; exact o2.elim
  | some d =>
    rw [q] at o2
    exact ⟨G2, c2, S2, d1, d2, d, w2, r1.mono l2, r2, q, fun v G' H' w' l' r' => o2 v G' H' c2 w' l' r'⟩
theorem se_bin {op : Operator} {g : G2} (ho : OpS X T (binaryOp op) g) (ha : SE X T W a m1) (hb : SE X T W b m2) : SE X T W (.BinOp a op b pos) (eBin g m1 m2) :=
  ⟨fun hK => PE.imp (pe_op (ho hK) (ha.pe hK) (hb.pe hK)) fun _ _ _ h => bin_read h⟩
theorem se_cmp {op : CmpOp} {g : G2} (ho : OpS X T (compareOp op) g) (ha : SE X T W a m1) (hb : SE X T W b m2) (hm : behindInMarks op b = false := by first | exact nomark _ | rfl) : SE X T W (.Compare a [op] [b] pos) (eBin g m1 m2) :=
  ⟨fun hK => PE.imp (pe_cmpR (ho hK) (ha.pe hK) (hb.pe hK) hm) fun _ _ _ h => bin_read h⟩
theorem sc_cmp {op : CmpOp} {g : G2} (ho : OpS X T (compareOp op) g) (ha : SE X T W a m1) (hb : SE X T W b m2) (hm : behindInMarks op b = false := by first | exact nomark _ | rfl) : SC X T W (.Compare a [op] [b] pos) (eBin g m1 m2) :=
  ⟨fun hK => PT.imp (pt_cmpR (ho hK) (ha.pe hK) (hb.pe hK) hm) fun _ _ _ h => bin_read h⟩
/-- a op b op' c -/
def isBl : D → Option Bool
  | .bl b => some b
  | _ => none
def eChain (g g' : G2) (m1 m2 m3 : ME) : ME := fun ρ S => (m1 ρ S).bind fun d1 S1 => (m2 ρ S1).bind fun d2 S2 => match g d1 d2 S2 with
  | some (.bl true) => (m3 ρ S2).bind fun d3 S3 => op2 g' d2 d3 S3
  | some (.bl false) => .ok (.bl false) S2
  | _ => .bad
theorem chain_read {g g' : G2} {σ : L2.St} {H : Hp} {Q : VK} (h : tE T W (eChain g g' m1 m2 m3) σ H Q) : tChain (rG T g) (rG T g') (tE T W m1) (tE T W m2) (tE T W m3) σ H Q := by
  obtain ⟨G, c, S, ρ, w, sr, o⟩ := h
  refine ⟨G, c, S, ρ, w, sr, (Out.bind o).imp ?_⟩
  rintro x H1 ⟨G1, c1, d1, S1, w1, l1, r1, o1⟩
  refine ⟨G1, c1, S1, ρ, w1, sr.mono l1, (Out.bind o1).imp ?_⟩
  rintro y H2 ⟨G2, c2, d2, S2, w2, l2, r2, o2⟩
  cases q : g d1 d2 S2 with
  | none => rw [q] at o2; exact o2.elim
  | some d =>
    rw [q] at o2
    refine ⟨G2, c2, S2, d1, d2, d, w2, r1.mono l2, r2, q, fun v G' H' w' l' r' => ?_⟩
    cases d with
    | bl k =>
      obtain rfl := inv_bl r'
      refine ⟨k, rfl, ?_⟩
      cases k with
      | false => exact iteF (o2 _ G' H' c2 w' l' rep_bl)
      | true =>
        refine iteT ⟨G', c2, S2, ρ, w', (sr.mono (l1.trans l2)).mono l', ((Out.bind o2).le l').imp ?_⟩
        rintro z H3 ⟨G3, c3, d3, S3, w3, l3, r3, o3⟩
        unfold op2 at o3
        cases q3 : g' d2 d3 S3 with
        | none => rw [q3] at o3; exact o3.elim
        | some d' =>
          rw [q3] at o3
          exact ⟨G3, c3, S3, d2, d3, d', w3, r2.mono l3, r3, q3, fun v G' H' w' l' r' => o3 v G' H' c3 w' l' r'⟩
    | _ => exact o2.elim
theorem se_chain {op op' : CmpOp} {g g' : G2} {c : Expr} (ho : OpS X T (compareOp op) g) (ho' : OpS X T (compareOp op') g') (ha : SE X T W a m1) (hb : SE X T W b m2) (hc : SE X T W c m3) (hm : lastMarks [op, op'] [b, c] = false := by with_unfolding_all rfl) :
    SE X T W (.Compare a [op, op'] [b, c] pos) (eChain g g' m1 m2 m3) :=
  ⟨fun hK => PE.imp (pe_chain (ho hK) (ho' hK) (ha.pe hK) (hb.pe hK) (hc.pe hK) hm) fun _ _ _ h => chain_read h⟩
theorem sc_chain {op op' : CmpOp} {g g' : G2} {c : Expr} (ho : OpS X T (compareOp op) g) (ho' : OpS X T (compareOp op') g') (ha : SE X T W a m1) (hb : SE X T W b m2) (hc : SE X T W c m3) (hm : lastMarks [op, op'] [b, c] = false := by with_unfolding_all rfl) :
    SC X T W (.Compare a [op, op'] [b, c] pos) (eChain g g' m1 m2 m3) :=
  ⟨fun hK => PT.imp (pt_chain (ho hK) (ho' hK) (ha.pe hK) (hb.pe hK) (hc.pe hK) hm) fun _ _ _ h => chain_read h⟩

/-! ### one operand -/
abbrev G1 := D → Option D
def op1 (g : G1) (d : D) (S : Sto) : Rs D := match g d with
  | some d => .ok d S
  | none => .bad
def eUn (g : G1) (m : ME) : ME := fun ρ S => (m ρ S).bind fun d S1 => op1 g d S1
def gNeg : G1
  | .int i => some (.int (-i))
  | _ => none
theorem se_neg (ha : SE X T W a m) : SE X T W (.UnaryOp .USub a pos) (eUn gNeg m) := by
  refine ⟨fun hK => PE.imp (pe_un un_neg (ha.pe hK)) fun σ H Q h => ?_⟩
  obtain ⟨G, c, S, ρ, w, sr, o⟩ := h
  refine ⟨G, c, S, ρ, w, sr, (Out.bind o).imp ?_⟩
  rintro x H1 ⟨G1, c1, d1, S1, w1, l1, r1, o1⟩
  unfold op1 gNeg at o1
  cases d1 with
  | int i =>
    obtain rfl := inv_int r1
    exact ⟨i, rfl, o1 _ G1 H1 c1 w1 (Le.refl _ _ _) rep_int⟩
  | _ => exact o1.elim
def eNot (m : ME) : ME := fun ρ S => (m ρ S).bind fun d S1 => match d with
  | .bl b => .ok (.bl (!b)) S1
  | _ => .bad
theorem not_read {σ : L2.St} {H : Hp} {Q : VK} (h : tE T W (eNot m) σ H Q) : tE T W m σ H fun x H1 => ∃ c, x = .bl c ∧ Q (.bl (!c)) H1 := by
  obtain ⟨G, c, S, ρ, w, sr, o⟩ := h
  refine ⟨G, c, S, ρ, w, sr, (Out.bind o).imp ?_⟩
  rintro x H1 ⟨G1, c1, d1, S1, w1, l1, r1, o1⟩
  cases d1 with
  | bl b =>
    obtain rfl := inv_bl r1
    exact ⟨b, rfl, o1 _ G1 H1 c1 w1 (Le.refl _ _ _) rep_bl⟩
  | _ => exact o1.elim
/-- from values to tests -/
theorem sc_val (ha : SE X T W a m) (he : ∀ whole, isTrue a X.env whole = (do let v ← whole; standAt a.pos; holding [v] (truthy v)) := by intro _; rfl) : SC X T W a m := ⟨fun hK => pt_val (ha.pe hK) he⟩
theorem se_not (ha : SE X T W a m) : SE X T W (.UnaryOp .Not a pos) (eNot m) := ⟨fun hK => PE.imp (pe_not (ha.pe hK)) fun _ _ _ h => not_read h⟩
theorem sc_not (ha : SC X T W a m) : SC X T W (.UnaryOp .Not a pos) (eNot m) := by
  refine ⟨fun hK => PT.imp (pt_not (ha.pt hK)) fun σ H Q h => ?_⟩
  obtain ⟨G, c, S, ρ, w, sr, o⟩ := not_read h
  refine ⟨G, c, S, ρ, w, sr, o.imp ?_⟩
  rintro v H' ⟨b, rfl, b', e, q⟩
  cases e
  exact ⟨b, rfl, q⟩

/-! ### and, or -/
def eAnd (m1 m2 : ME) : ME := fun ρ S => (m1 ρ S).bind fun d S1 => match d with
  | .bl true => m2 ρ S1
  | .bl false => .ok (.bl false) S1
  | _ => .bad
def eOr (m1 m2 : ME) : ME := fun ρ S => (m1 ρ S).bind fun d S1 => match d with
  | .bl true => .ok (.bl true) S1
  | .bl false => m2 ρ S1
  | _ => .bad
theorem and_read {σ : L2.St} {H : Hp} {Q : VK} (h : tE T W (eAnd m1 m2) σ H Q) : tAndV (tE T W m1) (tE T W m2) σ H Q := by
  obtain ⟨G, c, S, ρ, w, sr, o⟩ := h
  refine ⟨G, c, S, ρ, w, sr, (Out.bind o).imp ?_⟩
  rintro x H1 ⟨G1, c1, d1, S1, w1, l1, r1, o1⟩
  cases d1 with
  | bl b =>
    obtain rfl := inv_bl r1
    refine ⟨b, rfl, ?_⟩
    cases b with
    | true => exact iteT ⟨G1, c1, S1, ρ, w1, sr.mono l1, o1⟩
    | false => exact iteF (o1 _ G1 H1 c1 w1 (Le.refl _ _ _) rep_bl)
  | _ => exact o1.elim
theorem or_read {σ : L2.St} {H : Hp} {Q : VK} (h : tE T W (eOr m1 m2) σ H Q) : tOrV (tE T W m1) (tE T W m2) σ H Q := by
  obtain ⟨G, c, S, ρ, w, sr, o⟩ := h
  refine ⟨G, c, S, ρ, w, sr, (Out.bind o).imp ?_⟩
  rintro x H1 ⟨G1, c1, d1, S1, w1, l1, r1, o1⟩
  cases d1 with
  | bl b =>
    obtain rfl := inv_bl r1
    refine ⟨b, rfl, ?_⟩
    cases b with
    | false => exact iteF ⟨G1, c1, S1, ρ, w1, sr.mono l1, o1⟩
    | true => exact iteT (o1 _ G1 H1 c1 w1 (Le.refl _ _ _) rep_bl)
  | _ => exact o1.elim
theorem se_one {op} (ha : SE X T W a m) : SE X T W (.BoolOp op [a] pos) m := ⟨fun hK => pe_one (ha.pe hK)⟩
theorem se_and {rest : List Expr} (ha : SE X T W a m1) (hb : SE X T W (.BoolOp .And (b :: rest) pos) m2) : SE X T W (.BoolOp .And (a :: b :: rest) pos) (eAnd m1 m2) := ⟨fun hK => PE.imp (pe_and (ha.pe hK) (hb.pe hK)) fun _ _ _ h => and_read h⟩
theorem se_or {rest : List Expr} (ha : SE X T W a m1) (hb : SE X T W (.BoolOp .Or (b :: rest) pos) m2) : SE X T W (.BoolOp .Or (a :: b :: rest) pos) (eOr m1 m2) := ⟨fun hK => PE.imp (pe_or (ha.pe hK) (hb.pe hK)) fun _ _ _ h => or_read h⟩
structure SW (X : Cx) (T : Ct) (W : WX) (e : Expr) (m : ME) : Prop where
  pw : X.K = T.K → PW X e (tB (tE T W m))
theorem PW.imp {X : Cx} {e : Expr} {t t' : TT} (h : PW X e t) (i : ∀ σ H Q, t' σ H Q → t σ H Q) : PW X e t' := ⟨fun wh pins s σ H Q I hq => h.run wh pins s σ H Q I (i σ H Q hq)⟩
theorem sw_and1 (ha : SC X T W a m) : SW X T W (.BoolOp .And [a] pos) m := ⟨fun hK => pw_and1 (ha.pt hK)⟩
theorem sw_or1 (ha : SC X T W a m) : SW X T W (.BoolOp .Or [a] pos) m := ⟨fun hK => pw_or1 (ha.pt hK)⟩
theorem sw_and {rest : List Expr} (ha : SC X T W a m1) (hb : SW X T W (.BoolOp .And (b :: rest) pos) m2) : SW X T W (.BoolOp .And (a :: b :: rest) pos) (eAnd m1 m2) := by
  refine ⟨fun hK => PW.imp (pw_and (ha.pt hK) (hb.pw hK)) fun σ H Q h => ?_⟩
  obtain ⟨G, c, S, ρ, w, sr, o⟩ := and_read h
  refine ⟨G, c, S, ρ, w, sr, o.imp ?_⟩
  rintro v H' ⟨b, rfl, k⟩
  refine ⟨b, rfl, ?_⟩
  cases b with
  | true => exact k
  | false =>
    have k' := k
    rw [if_neg Bool.false_ne_true] at k' ⊢
    obtain ⟨c, e, q⟩ := k'
    cases e
    exact q
theorem sw_or {rest : List Expr} (ha : SC X T W a m1) (hb : SW X T W (.BoolOp .Or (b :: rest) pos) m2) : SW X T W (.BoolOp .Or (a :: b :: rest) pos) (eOr m1 m2) := by
  refine ⟨fun hK => PW.imp (pw_or (ha.pt hK) (hb.pw hK)) fun σ H Q h => ?_⟩
  obtain ⟨G, c, S, ρ, w, sr, o⟩ := or_read h
  refine ⟨G, c, S, ρ, w, sr, o.imp ?_⟩
  rintro v H' ⟨b, rfl, k⟩
  refine ⟨b, rfl, ?_⟩
  cases b with
  | false => exact k
  | true =>
    have k' := k
    rw [if_pos rfl] at k' ⊢
    obtain ⟨c, e, q⟩ := k'
    cases e
    exact q
theorem sc_bool (h : SW X T W a m) : SC X T W a m := ⟨fun hK => (h.pw hK).pt⟩
/-- a if t else b -/
def eIf (m m1 m2 : ME) : ME := fun ρ S => (m ρ S).bind fun d S1 => match d with
  | .bl true => m1 ρ S1
  | .bl false => m2 ρ S1
  | _ => .bad
theorem se_if {c : Expr} (hc : SC X T W c m) (ha : SE X T W a m1) (hb : SE X T W b m2) : SE X T W (.IfExp c a b pos) (eIf m m1 m2) := by
  refine ⟨fun hK => PE.imp (pe_ifExp (hc.pt hK) (ha.pe hK) (hb.pe hK)) fun σ H Q h => ?_⟩
  obtain ⟨G, c, S, ρ, w, sr, o⟩ := h
  refine ⟨G, c, S, ρ, w, sr, (Out.bind o).imp ?_⟩
  rintro x H1 ⟨G1, c1, d1, S1, w1, l1, r1, o1⟩
  cases d1 with
  | bl b =>
    obtain rfl := inv_bl r1
    refine ⟨b, rfl, ?_⟩
    cases b with
    | true => exact iteT ⟨G1, c1, S1, ρ, w1, sr.mono l1, o1⟩
    | false => exact iteF ⟨G1, c1, S1, ρ, w1, sr.mono l1, o1⟩
  | _ => exact o1.elim

/-! ### rows of expressions; tuples and lists written out -/
def aNil : MA := fun _ S => .ok [] S
def aCons (m : ME) (ma : MA) : MA := fun ρ S => (m ρ S).bind fun d S1 => (ma ρ S1).bind fun ds S2 => .ok (d :: ds) S2
theorem sa_nil : SA X T W [] aNil := by
  refine ⟨fun hK => PA.imp pa_nil fun σ H Q h => ?_⟩
  obtain ⟨G, c, S, ρ, w, sr, o⟩ := h
  exact o _ G H c w (Le.refl _ _ _) Reps.nil
theorem sa_cons (ha : SE X T W e m) (hr : SA X T W es ma) (hs : starEach (e :: es) X.env = (false, eval e X.env) :: starEach es X.env := by rfl) : SA X T W (e :: es) (aCons m ma) := by
  refine ⟨fun hK => PA.imp (pa_cons (ha.pe hK) (hr.pa hK) hs) fun σ H Q h => ?_⟩
  obtain ⟨G, c, S, ρ, w, sr, o⟩ := h
  refine ⟨G, c, S, ρ, w, sr, (Out.bind o).imp ?_⟩
  rintro x H1 ⟨G1, c1, d1, S1, w1, l1, r1, o1⟩
  refine ⟨G1, c1, S1, ρ, w1, sr.mono l1, (Out.bind o1).imp ?_⟩
  rintro xs H2 ⟨G2, c2, ds, S2, w2, l2, r2, o2⟩
  exact o2 _ G2 H2 c2 w2 (Le.refl _ _ _) (Reps.cons (r1.mono l2) r2)
def eTup (ma : MA) : ME := fun ρ S => (ma ρ S).bind fun ds S1 => if ds.length ≤ 1000 then .ok (.tup ds) S1 else .bad
theorem se_tup {x1} (h : SA X T W es ma) : SE X T W (.Tuple es x1 pos) (eTup ma) := by
  refine ⟨fun hK => PE.imp (pe_tup (h.pa hK)) fun σ H Q h => ?_⟩
  obtain ⟨G, c, S, ρ, w, sr, o⟩ := h
  refine ⟨G, c, S, ρ, w, sr, (Out.bind o).imp ?_⟩
  rintro xs H1 ⟨G1, c1, ds, S1, w1, l1, r1, o1⟩
  by_cases hz : ds.length ≤ 1000
  · rw [if_pos hz] at o1
    have hl := r1.length
    have z1 : ds.length ≤ sizeLine := Nat.le_of_lt (small1000 hz)
    refine ⟨by rw [← hl]; exact z1, fun p hp => ?_⟩
    obtain ⟨w2, l2⟩ := w1.laid (o := .tup xs) hp
    exact o1 _ _ _ c1 w2 l2 (rep_tup z1 (SqT.of upd_same) (r1.mono l2))
  · rw [if_neg hz] at o1
    exact o1.elim

/-! ### lists that are new: an expression whose list nobody else holds -/
/-- the new list is at p, not frozen -/
def RNew (T : Ct) (G0 H0 : Hp) (c0 : List Addr) (Q : VK) (xs : List D) (S : Sto) : Prop :=
  ∀ p G' H' c' vs, Wf T G' H' c' S → Le G0 H0 c0 G' H' c' → H0 p = none → H' p = some (.lst vs) → G' p = none → p ∉ c' → xs.length ≤ sizeLine → Reps T G' c' xs vs → Q (.ref p) H'
def OutN (T : Ct) (W : WX) (σ : L2.St) (G H : Hp) (c : List Addr) (Q : VK) : Rs (List D) → Prop
  | .ok xs S => RNew T G H c Q xs S
  | .exc C f S => ∀ e G' H' c', Wf T G' H' c' S → Le G H c G' H' c' → XRep T G' H' c' f e → W (.ref (T.fa C)) e σ H'
  | .bad => False
def tN (T : Ct) (W : WX) (m : MA) : TE := fun σ H Q => ∃ G c S ρ, Wf T G H c S ∧ SR T G H c ρ σ ∧ OutN T W σ G H c Q (m ρ S)
structure SN (X : Cx) (T : Ct) (W : WX) (e : Expr) (m : MA) : Prop where
  pe : X.K = T.K → PE X e (tN T W m)
theorem OutN.le {σ : L2.St} {G H G' H' : Hp} {c c' : List Addr} {Q : VK} {r : Rs (List D)} (h : OutN T W σ G H c Q r) (l : Le G H c G' H' c') : OutN T W σ G' H' c' Q r := by
  cases r with
  | ok a S => exact fun p G2 H2 c2 vs w l2 h1 h2 h3 h4 h5 h6 => h p G2 H2 c2 vs w (l.trans l2) (l.dom p h1) h2 h3 h4 h5 h6
  | exc C f S => exact fun e G2 H2 c2 w l2 rv => h e G2 H2 c2 w (l.trans l2) rv
  | bad => exact h
def eLst (ma : MA) : ME := fun ρ S => (ma ρ S).bind fun ds S1 => .ok (.lst ds) S1
/-- a list that is made, as a value -/
theorem new_read {σ : L2.St} {H : Hp} {Q : VK} (h : tE T W (eLst ma) σ H Q) : tN T W ma σ H Q := by
  obtain ⟨G, c, S, ρ, w, sr, o⟩ := h
  refine ⟨G, c, S, ρ, w, sr, ?_⟩
  unfold eLst at o
  cases q : ma ρ S with
  | ok xs S1 =>
    rw [q] at o
    intro p G' H' c' vs w' l' h1 h2 h3 h4 h5 h6
    have gm : ∀ a u, G' a = some u → upd G' p (.lst vs) a = some u := fun a u e => by rw [upd_ne (ne_of_none e h3)]; exact e
    refine o _ (upd G' p (.lst vs)) H' c' (w'.froze h2 h3 h4) ⟨fun a u e => gm a u (l'.g a u e), l'.cc, fun a u e1 e2 e3 => ?_, l'.dom⟩ (rep_lst h5 upd_same (Reps.mono0 gm (fun _ _ h => h) xs vs h6))
    obtain ⟨k1, k2, k3⟩ := l'.fr a u e1 e2 e3
    exact ⟨k1, k2, by rw [upd_ne (ne_of_none e1 h1)]; exact k3⟩
  | exc C f S1 => rw [q] at o; exact o
  | bad => rw [q] at o; exact o.elim
theorem se_new (h : SN X T W e ma) : SE X T W e (eLst ma) := ⟨fun hK => PE.imp (h.pe hK) fun _ _ _ q => new_read q⟩
def aSmall (ma : MA) : MA := fun ρ S => (ma ρ S).bind fun ds S1 => if ds.length ≤ 1000 then .ok ds S1 else .bad
/-- from an argument row to a new list -/
theorem OutN.bind {σ : L2.St} {G H : Hp} {c : List Addr} {Q : VK} {α β : Type} {R : Hp → List Addr → α → β → Prop} {r : Rs α} {k : α → Sto → Rs (List D)} (h : OutN T W σ G H c Q (r.bind k)) :
    Out T W σ G H c R (fun v H1 => ∃ G1 c1 a S1, Wf T G1 H1 c1 S1 ∧ Le G H c G1 H1 c1 ∧ R G1 c1 a v ∧ OutN T W σ G H c Q (k a S1)) r := by
  cases r with
  | ok a S => exact fun v G1 H1 c1 w l rv => ⟨G1, c1, a, S, w, l, rv, h⟩
  | exc C f S => exact h
  | bad => exact h
theorem sn_lst (h : SA X T W es ma) : SN X T W (.List es pos) (aSmall ma) := by
  refine ⟨fun hK => PE.imp (pe_lst (h.pa hK)) fun σ H Q h => ?_⟩
  obtain ⟨G, c, S, ρ, w, sr, o⟩ := h
  refine ⟨G, c, S, ρ, w, sr, (OutN.bind o).imp ?_⟩
  rintro xs H1 ⟨G1, c1, ds, S1, w1, l1, r1, o1⟩
  by_cases hz : ds.length ≤ 1000
  · rw [if_pos hz] at o1
    have hl := r1.length
    have z1 : ds.length ≤ sizeLine := Nat.le_of_lt (small1000 hz)
    refine ⟨by rw [← hl]; exact z1, fun p hp => ?_⟩
    obtain ⟨w2, l2⟩ := w1.laidN (o := .lst xs) hp
    have hp0 : H p = none := l1.dom p hp
    exact o1 p _ _ c1 xs w2 (l1.trans l2) hp0 upd_same (w1.inH hp) (w1.cN hp) z1 (r1.mono l2)
  · rw [if_neg hz] at o1
    exact o1.elim
end
end KF
namespace L2
open PySem
theorem Room.u65 {k : Nat} {A : Around} (r : Room k A) : A.units + 65 < cLine := by have := r.un; omega
end L2
end

section
namespace KF
open PySem PySem.Spec PyProof.Rows L2
/-! ### operators -/
section
variable {X : Cx} {T : Ct}
/-- the frame of an operator's proof: both data are told -/
theorem ops_by {f : Value → Value → Sem Value} {g : G2} (h : ∀ (pins : List (Addr × Obj)) (s : Shared) (σ : L2.St) (H : Hp) (x y : V) (v u : Value) (Q : VK) (G : Hp) (c : List Addr) (S : Sto) (d1 d2 d : D), X.K = T.K → Inv X pins σ H s → RelV x v → RelV y u →
    Wf T G H c S → Rep T G c d1 x → Rep T G c d2 y → g d1 d2 S = some d → (∀ v G' H', Wf T G' H' c S → Le G H c G' H' c → Rep T G' c d v → Q v H') → wpAny (model X.prog X.w) X.A (f v u) (EP X pins σ Q) X.xe s) : OpS X T f g :=
  fun hK pins s σ H x y v u Q I rx ry ⟨G, c, S, d1, d2, d, w, r1, r2, e, q⟩ => h pins s σ H x y v u Q G c S d1 d2 d hK I rx ry w r1 r2 e q
/-- a scalar answer -/
theorem ans {G H : Hp} {c : List Addr} {S : Sto} {d : D} {v : V} {Q : VK} (w : Wf T G H c S) (q : ∀ v G' H', Wf T G' H' c S → Le G H c G' H' c → Rep T G' c d v → Q v H') (r : Rep T G c d v) : Q v H := q v G H w (Le.refl _ _ _) r
def gI2 (f : Int → Int → D) : G2
  | .int i, .int j, _ => some (f i j)
  | _, _, _ => none
def gSub : G2 := gI2 fun i j => .int (i - j)
theorem os_sub : OpS X T (binaryOp .Sub) gSub := ops_by fun pins s σ H x y v u Q G c S d1 d2 d hK I rx ry w r1 r2 e q => by
  cases d1 with
  | int i =>
    cases d2 with
    | int j =>
      obtain rfl := inv_int r1
      obtain rfl := inv_int r2
      have e' : D.int (i - j) = d := Option.some.inj e
      subst e'
      exact op_sub pins s σ H _ _ v u Q I rx ry ⟨i, j, rfl, rfl, ans w q rep_int⟩
    | _ => cases e
  | _ => cases e
/-- + of ints, texts, tuples, lists (a new one) -/
def gAdd : G2
  | .int i, .int j, _ => some (.int (i + j))
  | .str x, .str y, _ => if x.length + y.length ≤ sizeLine then some (.str (x ++ y)) else none
  | .tup xs, .tup ys, _ => if xs.length + ys.length ≤ sizeLine then some (.tup (xs ++ ys)) else none
  | .lst xs, .lst ys, _ => if xs.length + ys.length ≤ sizeLine then some (.lst (xs ++ ys)) else none
  | _, _, _ => none
theorem os_add : OpS X T (binaryOp .Add) gAdd := ops_by fun pins s σ H x y v u Q G c S d1 d2 d hK I rx ry w r1 r2 e q => by
  cases d1 with
  | int i =>
    cases d2 with
    | int j =>
      obtain rfl := inv_int r1
      obtain rfl := inv_int r2
      have e' : D.int (i + j) = d := Option.some.inj e
      subst e'
      exact op_add pins s σ H _ _ v u Q I rx ry ⟨i, j, rfl, rfl, ans w q rep_int⟩
    | _ => cases e
  | str x' =>
    cases d2 with
    | str y' =>
      obtain rfl := inv_str r1
      obtain rfl := inv_str r2
      have e0 : (if x'.length + y'.length ≤ sizeLine then some (D.str (x' ++ y')) else none) = some d := e
      split at e0
      · next hz =>
        cases e0
        exact op_add_str pins s σ H _ _ v u Q I rx ry ⟨x', y', rfl, rfl, hz, ans w q rep_str⟩
      · cases e0
    | _ => cases e
  | tup xs =>
    cases d2 with
    | tup ys =>
      obtain ⟨z1, p, vs, rfl, s1, t1⟩ := inv_tup r1
      obtain ⟨z2, p', us, rfl, s2, t2⟩ := inv_tup r2
      have e0 : (if xs.length + ys.length ≤ sizeLine then some (D.tup (xs ++ ys)) else none) = some d := e
      split at e0
      · next hz =>
        cases e0
        have hz' : vs.length + us.length ≤ sizeLine := by rw [← t1.length, ← t2.length]; exact hz
        have sH1 : SqT X.K H p vs := by rw [hK]; exact sqT_mono w.sub s1
        have sH2 : SqT X.K H p' us := by rw [hK]; exact sqT_mono w.sub s2
        refine op_catA pins s σ H _ _ v u Q I rx ry ⟨p, p', vs, us, rfl, rfl, sH1, sH2, hz', fun hx => ?_, fun _ hy => ?_, fun _ _ q' hq => ?_⟩
        · subst hx
          have : xs = [] := List.length_eq_zero_iff.mp (by rw [t1.length]; rfl)
          subst this
          exact q _ G H w (Le.refl _ _ _) r2
        · subst hy
          have : ys = [] := List.length_eq_zero_iff.mp (by rw [t2.length]; rfl)
          subst this
          rw [List.append_nil] at q
          exact q _ G H w (Le.refl _ _ _) r1
        · obtain ⟨w2, l2⟩ := w.laid (o := .tup (vs ++ us)) hq
          exact q _ _ _ w2 l2 (rep_tup (by rw [List.length_append]; exact hz) (SqT.of upd_same) ((t1.mono l2).append (t2.mono l2)))
      · cases e0
    | _ => cases e
  | lst xs =>
    cases d2 with
    | lst ys =>
      obtain ⟨z1, p, vs, rfl, s1, t1⟩ := inv_lst r1
      obtain ⟨z2, p', us, rfl, s2, t2⟩ := inv_lst r2
      have e0 : (if xs.length + ys.length ≤ sizeLine then some (D.lst (xs ++ ys)) else none) = some d := e
      split at e0
      · next hz =>
        cases e0
        have hz' : vs.length + us.length ≤ sizeLine := by rw [← t1.length, ← t2.length]; exact hz
        refine op_cat pins s σ H _ _ v u Q I rx ry ⟨p, p', vs, us, rfl, rfl, w.sub _ _ s1, w.sub _ _ s2, hz', fun q' hq => ?_⟩
        obtain ⟨w2, l2⟩ := w.laid (o := .lst (vs ++ us)) hq
        exact q _ _ _ w2 l2 (rep_lst (by rw [List.length_append]; exact hz) upd_same ((t1.mono l2).append (t2.mono l2)))
      · cases e0
    | _ => cases e
  | _ => cases e
/-- * of ints of a size; of a list and an int -/
def gMul : G2
  | .int i, .int j, _ => if (i.natAbs < 2 ^ 64 ∨ j.natAbs < 2 ^ 64) ∨ i.natAbs.log2 + j.natAbs.log2 < 1000000 then some (.int (i * j)) else none
  | .lst xs, .int k, _ => if 0 ≤ k ∧ k ≤ 1000 ∧ xs.length ≤ 1000 then some (.lst (List.replicate k.toNat xs).flatten) else none
  | _, _, _ => none
theorem mulOk {i j : Int} (h : (i.natAbs < 2 ^ 64 ∨ j.natAbs < 2 ^ 64) ∨ i.natAbs.log2 + j.natAbs.log2 < 1000000) : IntMulOk i j := by
  rcases h with (h | h) | h
  · exact .of_left (intBits_le_64 (by omega) (by omega))
  · exact .of_right (intBits_le_64 (by omega) (by omega))
  · exact CMulW.ok h
theorem Reps.rep {G : Hp} {c : List Addr} {xs : List D} {vs : List V} (h : Reps T G c xs vs) : ∀ k : Nat, Reps T G c (List.replicate k xs).flatten (List.replicate k vs).flatten
  | 0 => Reps.nil
  | k + 1 => by
    rw [List.replicate_succ, List.replicate_succ, List.flatten_cons, List.flatten_cons]
    exact h.append (Reps.rep h k)
theorem os_mul : OpS X T (binaryOp .Mult) gMul := ops_by fun pins s σ H x y v u Q G c S d1 d2 d hK I rx ry w r1 r2 e q => by
  cases d1 with
  | int i =>
    cases d2 with
    | int j =>
      obtain rfl := inv_int r1
      obtain rfl := inv_int r2
      have e0 : (if (i.natAbs < 2 ^ 64 ∨ j.natAbs < 2 ^ 64) ∨ i.natAbs.log2 + j.natAbs.log2 < 1000000 then some (D.int (i * j)) else none) = some d := e
      split at e0
      · next hz =>
        cases e0
        obtain ⟨t, rfl⟩ := rx
        obtain ⟨t', rfl⟩ := ry
        exact mul_int ⟨.int (i * j), H, I.tok _, ⟨_, rfl⟩, ans w q rep_int⟩ (mulOk hz)
      · cases e0
    | _ => cases e
  | lst xs =>
    cases d2 with
    | int k =>
      obtain ⟨z1, p, vs, rfl, s1, t1⟩ := inv_lst r1
      obtain rfl := inv_int r2
      have e0 : (if 0 ≤ k ∧ k ≤ 1000 ∧ xs.length ≤ 1000 then some (D.lst (List.replicate k.toNat xs).flatten) else none) = some d := e
      split at e0
      · next hz =>
        cases e0
        obtain ⟨h1, h2, h3⟩ := hz
        have hl : (List.replicate k.toNat xs).flatten.length ≤ sizeLine := by
          rw [List.length_flatten, List.map_replicate, List.sum_replicate_nat]
          have : k.toNat * xs.length ≤ 1000 * 1000 := Nat.mul_le_mul (by omega) h3
          have : (1000 * 1000 : Nat) ≤ sizeLine := by decide
          omega
        refine op_rep pins s σ H _ _ v u Q I rx ry ⟨p, k, vs, rfl, rfl, w.sub _ _ s1, by omega, by omega, ?_, fun q' hq => ?_⟩
        · have hle : vs.length * k.toNat ≤ 1000 * 1000 := Nat.mul_le_mul (by rw [← t1.length]; exact h3) (by omega)
          have : (1000 * 1000 : Nat) ≤ sizeLine := by decide
          omega
        · obtain ⟨w2, l2⟩ := w.laid (o := .lst (List.replicate k.toNat vs).flatten) hq
          exact q _ _ _ w2 l2 (rep_lst hl upd_same ((t1.mono l2).rep _))
      · cases e0
    | _ => cases e
  | _ => cases e
def gDiv : G2
  | .int i, .int j, _ => if j ≠ 0 ∧ j.natAbs.log2 < 9000 then some (.int (i.fdiv j)) else none
  | _, _, _ => none
theorem os_div : OpS X T (binaryOp .FloorDiv) gDiv := ops_by fun pins s σ H x y v u Q G c S d1 d2 d hK I rx ry w r1 r2 e q => by
  cases d1 with
  | int i =>
    cases d2 with
    | int j =>
      obtain rfl := inv_int r1
      obtain rfl := inv_int r2
      have e0 : (if j ≠ 0 ∧ j.natAbs.log2 < 9000 then some (D.int (i.fdiv j)) else none) = some d := e
      split at e0
      · next hz =>
        cases e0
        obtain ⟨t, rfl⟩ := rx
        obtain ⟨t', rfl⟩ := ry
        exact floordiv_int hz.1 ⟨.int (i.fdiv j), H, I.tok _, ⟨_, rfl⟩, ans w q rep_int⟩ (.inl (PyProof.noPylong_of_log2 hz.2))
      · cases e0
    | _ => cases e
  | _ => cases e
def gMod : G2
  | .int i, .int j, _ => if j ≠ 0 then some (.int (i.fmod j)) else none
  | _, _, _ => none
theorem os_mod : OpS X T (binaryOp .Mod) gMod := ops_by fun pins s σ H x y v u Q G c S d1 d2 d hK I rx ry w r1 r2 e q => by
  cases d1 with
  | int i =>
    cases d2 with
    | int j =>
      obtain rfl := inv_int r1
      obtain rfl := inv_int r2
      have e0 : (if j ≠ 0 then some (D.int (i.fmod j)) else none) = some d := e
      split at e0
      · next hz =>
        cases e0
        exact op_modN pins s σ H _ _ v u Q I rx ry ⟨i, j, rfl, rfl, hz, ans w q rep_int⟩
      · cases e0
    | _ => cases e
  | _ => cases e
def gPow : G2
  | .int i, .int j, _ => if 0 ≤ j ∧ j ≤ 1000 ∧ i.natAbs < 2 ^ 64 then some (.int (i ^ j.toNat)) else none
  | _, _, _ => none
theorem os_pow : OpS X T (binaryOp .Pow) gPow := ops_by fun pins s σ H x y v u Q G c S d1 d2 d hK I rx ry w r1 r2 e q => by
  cases d1 with
  | int i =>
    cases d2 with
    | int j =>
      obtain rfl := inv_int r1
      obtain rfl := inv_int r2
      have e0 : (if 0 ≤ j ∧ j ≤ 1000 ∧ i.natAbs < 2 ^ 64 then some (D.int (i ^ j.toNat)) else none) = some d := e
      split at e0
      · next hz =>
        cases e0
        exact op_pow pins s σ H _ _ v u Q I rx ry ⟨i, j, rfl, rfl, ⟨hz.1, by omega, hz.2.2⟩, ans w q rep_int⟩
      · cases e0
    | _ => cases e
  | _ => cases e
/-- the order of ints, of texts -/
def gCmp (p : Int → Int → Bool) : G2
  | .int i, .int j, _ => some (.bl (p i j))
  | _, _, _ => none
theorem cmp_ints {op : CmpOp} {p : Int → Int → Bool} (ho : OpR X (compareOp op) (rI0 fun i j => .bl (p i j))) : OpS X T (compareOp op) (gCmp p) := ops_by fun pins s σ H x y v u Q G c S d1 d2 d hK I rx ry w r1 r2 e q => by
  cases d1 with
  | int i =>
    cases d2 with
    | int j =>
      obtain rfl := inv_int r1
      obtain rfl := inv_int r2
      have e' : D.bl (p i j) = d := Option.some.inj e
      subst e'
      exact ho pins s σ H _ _ v u Q I rx ry ⟨i, j, rfl, rfl, ans w q rep_bl⟩
    | _ => cases e
  | _ => cases e
def gLt : G2 := gCmp fun i j => decide (i < j)
def gLe : G2
  | .int i, .int j, _ => some (.bl (decide (i ≤ j)))
  | .str x, .str y, _ => some (.bl (!decide (y.cps.toList < x.cps.toList)))
  | _, _, _ => none
def gGt : G2 := gCmp fun i j => decide (j < i)
def gGe : G2 := gCmp fun i j => decide (j ≤ i)
theorem os_lt : OpS X T (compareOp .Lt) gLt := cmp_ints op_lt
theorem os_gt : OpS X T (compareOp .Gt) gGt := cmp_ints op_gt
theorem os_ge : OpS X T (compareOp .GtE) gGe := cmp_ints op_ge
theorem os_le : OpS X T (compareOp .LtE) gLe := ops_by fun pins s σ H x y v u Q G c S d1 d2 d hK I rx ry w r1 r2 e q => by
  cases d1 with
  | int i =>
    cases d2 with
    | int j =>
      obtain rfl := inv_int r1
      obtain rfl := inv_int r2
      have e' : D.bl (decide (i ≤ j)) = d := Option.some.inj e
      subst e'
      exact op_le pins s σ H _ _ v u Q I rx ry ⟨i, j, rfl, rfl, ans w q rep_bl⟩
    | _ => cases e
  | str a =>
    cases d2 with
    | str b =>
      obtain rfl := inv_str r1
      obtain rfl := inv_str r2
      have e' : D.bl (!decide (b.cps.toList < a.cps.toList)) = d := Option.some.inj e
      subst e'
      exact op_le_str pins s σ H _ _ v u Q I rx ry ⟨a, b, rfl, rfl, ans w q rep_bl⟩
    | _ => cases e
  | _ => cases e
/-! ### equal data -/
mutual
def toP : D → Option PyData
  | .non => some .none
  | .bl b => some (.bool b)
  | .int i => some (.int i)
  | .str x => some (.str x)
  | .tup xs => (toPs xs).map .tuple
  | .lst xs => (toPs xs).map .list
  | _ => none
def toPs : List D → Option (List PyData)
  | [] => some []
  | d :: ds => match toP d with
    | some p => (toPs ds).map (p :: ·)
    | none => none
end
mutual
theorem dp_of {G H : Hp} {c : List Addr} (sub : ∀ a o, G a = some o → H a = some o) : ∀ (d : D) (v : V) (p : PyData), Rep T G c d v → toP d = some p → Dp T.K H v p
  | .non, v, p, r, e => by obtain rfl := inv_non r; unfold toP at e; cases e; exact .non
  | .bl b, v, p, r, e => by obtain rfl := inv_bl r; unfold toP at e; cases e; exact .bl b
  | .int b, v, p, r, e => by obtain rfl := inv_int r; unfold toP at e; cases e; exact .int b
  | .str b, v, p, r, e => by obtain rfl := inv_str r; unfold toP at e; cases e; exact .str b
  | .tup xs, v, p, r, e => by
    obtain ⟨_, a, vs, rfl, s, t⟩ := inv_tup r
    unfold toP at e
    cases q : toPs xs with
    | none => rw [q] at e; cases e
    | some ps => rw [q] at e; cases e; exact .tup (sqT_mono sub s) (dps_of sub xs vs ps t q)
  | .lst xs, v, p, r, e => by
    obtain ⟨_, a, vs, rfl, s, t⟩ := inv_lst r
    unfold toP at e
    cases q : toPs xs with
    | none => rw [q] at e; cases e
    | some ps => rw [q] at e; cases e; exact .lst (SqL.of (sub _ _ s)) (dps_of sub xs vs ps t q)
  | .scr _, _, _, _, e => by unfold toP at e; cases e
  | .cell _, _, _, _, e => by unfold toP at e; cases e
  | .fn _, _, _, _, e => by unfold toP at e; cases e
  | .exv _ _ _, _, _, _, e => by unfold toP at e; cases e
  | .ex0 _, _, _, _, e => by unfold toP at e; cases e
theorem dps_of {G H : Hp} {c : List Addr} (sub : ∀ a o, G a = some o → H a = some o) : ∀ (ds : List D) (vs : List V) (ps : List PyData), Reps T G c ds vs → toPs ds = some ps → DpAll T.K H vs ps
  | [], vs, ps, r, e => by rw [r.nil_inv]; unfold toPs at e; cases e; exact .nil
  | d :: ds, vs, ps, r, e => by
    obtain ⟨v, us, rfl, r1, r2⟩ := r.cons_inv
    unfold toPs at e
    cases q : toP d with
    | none => rw [q] at e; cases e
    | some p =>
      rw [q] at e
      cases q2 : toPs ds with
      | none => rw [q2] at e; cases e
      | some ps' => rw [q2] at e; cases e; exact .cons (dp_of sub d v p r1 q) (dps_of sub ds us ps' r2 q2)
end
def eqG (neg : Bool) : G2 := fun d1 d2 _ => match toP d1, toP d2 with
  | some p, some q => if SeqAt.shaped p = true ∧ SeqAt.shaped q = true then some (.bl (PyData.eqv p q ^^ neg)) else none
  | _, _ => none
def gEq : G2 := eqG false
def gNe : G2 := eqG true
theorem eqG_inv {neg : Bool} {d1 d2 d : D} {S : Sto} (e : eqG neg d1 d2 S = some d) : ∃ p q, toP d1 = some p ∧ toP d2 = some q ∧ SeqAt.shaped p = true ∧ SeqAt.shaped q = true ∧ d = .bl (PyData.eqv p q ^^ neg) := by
  unfold eqG at e
  cases h1 : toP d1 with
  | none => rw [h1] at e; cases e
  | some p =>
    cases h2 : toP d2 with
    | none => rw [h1, h2] at e; cases e
    | some q =>
      rw [h1, h2] at e
      have e0 : (if SeqAt.shaped p = true ∧ SeqAt.shaped q = true then some (D.bl (PyData.eqv p q ^^ neg)) else none) = some d := e
      split at e0
      · next hz => cases e0; exact ⟨p, q, rfl, rfl, hz.1, hz.2, rfl⟩
      · cases e0
theorem os_eq (hu : X.A.units + 64 < cLine) : OpS X T (compareOp .Eq) gEq := ops_by fun pins s σ H x y v u Q G c S d1 d2 d hK I rx ry w r1 r2 e q => by
  obtain ⟨a, b, h1, h2, h3, h4, rfl⟩ := eqG_inv e
  refine op_eqD hu pins s σ H _ _ v u Q I rx ry ⟨a, b, by rw [hK]; exact dp_of w.sub _ _ _ r1 h1, by rw [hK]; exact dp_of w.sub _ _ _ r2 h2, h3, h4, ?_⟩
  refine ans w q ?_
  rw [Bool.xor_false]
  exact rep_bl
theorem os_ne (hu : X.A.units + 64 < cLine) : OpS X T (compareOp .NotEq) gNe := ops_by fun pins s σ H x y v u Q G c S d1 d2 d hK I rx ry w r1 r2 e q => by
  obtain ⟨a, b, h1, h2, h3, h4, rfl⟩ := eqG_inv e
  refine op_neD hu pins s σ H _ _ v u Q I rx ry ⟨a, b, by rw [hK]; exact dp_of w.sub _ _ _ r1 h1, by rw [hK]; exact dp_of w.sub _ _ _ r2 h2, h3, h4, ?_⟩
  refine ans w q ?_
  rw [Bool.xor_true]
  exact rep_bl
/-- x is None, x is not None -/
def isNon : D → Bool
  | .non => true
  | _ => false
def gIs (neg : Bool) : G2 := fun d1 d2 _ => match d2 with
  | .non => some (.bl (isNon d1 ^^ neg))
  | _ => none
theorem isNon_dec {G : Hp} {c : List Addr} {d : D} {v : V} (r : Rep T G c d v) : decide (v = .non) = isNon d := by
  cases d with
  | non => obtain rfl := inv_non r; rfl
  | bl b => obtain rfl := inv_bl r; rfl
  | int b => obtain rfl := inv_int r; rfl
  | str b => obtain rfl := inv_str r; rfl
  | tup xs => obtain ⟨_, p, vs, rfl, _⟩ := inv_tup r; rfl
  | lst xs => obtain ⟨_, p, vs, rfl, _⟩ := inv_lst r; rfl
  | scr xs => obtain ⟨_, p, vs, rfl, _⟩ := inv_scr r; rfl
  | cell n => obtain ⟨p, rfl, _⟩ := inv_cell r; rfl
  | fn x => obtain rfl := inv_fn r; rfl
  | exv x f d => obtain ⟨a, dx, u, rfl, _⟩ := inv_exv r; rfl
  | ex0 x => obtain ⟨a, rfl, _⟩ := inv_ex0 r; rfl
theorem os_is : OpS X T (compareOp .Is) (gIs false) := ops_by fun pins s σ H x y v u Q G c S d1 d2 d hK I rx ry w r1 r2 e q => by
  cases d2 with
  | non =>
    obtain rfl := inv_non r2
    have e' : D.bl (isNon d1 ^^ false) = d := Option.some.inj e
    subst e'
    refine op_isN pins s σ H _ _ v u Q I rx ry ⟨rfl, ?_⟩
    rw [isNon_dec r1]
    exact ans w q (by rw [Bool.xor_false]; exact rep_bl)
  | _ => cases e
theorem os_isnot : OpS X T (compareOp .IsNot) (gIs true) := ops_by fun pins s σ H x y v u Q G c S d1 d2 d hK I rx ry w r1 r2 e q => by
  cases d2 with
  | non =>
    obtain rfl := inv_non r2
    have e' : D.bl (isNon d1 ^^ true) = d := Option.some.inj e
    subst e'
    refine op_notN pins s σ H _ _ v u Q I rx ry ⟨rfl, ?_⟩
    rw [isNon_dec r1]
    exact ans w q (by rw [Bool.xor_true]; exact rep_bl)
  | _ => cases e
end
end KF
end

section
namespace KF
open PySem PySem.Spec PyProof.Rows L2
section
variable {X : Cx} {T : Ct}
/-! ### in, not in -/
def flatD : D → Bool
  | .non => true
  | .bl _ => true
  | .int _ => true
  | .str _ => true
  | _ => false
def eqF : D → D → Bool
  | .non, .non => true
  | .bl a, .bl b => a == b
  | .bl a, .int b => (if a then 1 else 0) == b
  | .int a, .bl b => a == (if b then 1 else 0)
  | .int a, .int b => a == b
  | .str a, .str b => a == b
  | _, _ => false
theorem flat_of {G : Hp} {c : List Addr} {d : D} {v : V} (r : Rep T G c d v) (h : flatD d = true) : flatV v = true := by
  cases d with
  | non => obtain rfl := inv_non r; rfl
  | bl b => obtain rfl := inv_bl r; rfl
  | int b => obtain rfl := inv_int r; rfl
  | str b => obtain rfl := inv_str r; rfl
  | _ => cases h
theorem eqF_of {G : Hp} {c : List Addr} {d e : D} {v u : V} (r : Rep T G c d v) (r' : Rep T G c e u) (h : flatD d = true) (h' : flatD e = true) : eqV v u = eqF d e := by
  cases d with
  | non =>
    obtain rfl := inv_non r
    cases e with
    | non => obtain rfl := inv_non r'; rfl
    | bl b => obtain rfl := inv_bl r'; rfl
    | int b => obtain rfl := inv_int r'; rfl
    | str b => obtain rfl := inv_str r'; rfl
    | _ => cases h'
  | bl b =>
    obtain rfl := inv_bl r
    cases e with
    | non => obtain rfl := inv_non r'; rfl
    | bl b => obtain rfl := inv_bl r'; rfl
    | int b => obtain rfl := inv_int r'; rfl
    | str b => obtain rfl := inv_str r'; rfl
    | _ => cases h'
  | int b =>
    obtain rfl := inv_int r
    cases e with
    | non => obtain rfl := inv_non r'; rfl
    | bl b => obtain rfl := inv_bl r'; rfl
    | int b => obtain rfl := inv_int r'; rfl
    | str b => obtain rfl := inv_str r'; rfl
    | _ => cases h'
  | str b =>
    obtain rfl := inv_str r
    cases e with
    | non => obtain rfl := inv_non r'; rfl
    | bl b => obtain rfl := inv_bl r'; rfl
    | int b => obtain rfl := inv_int r'; rfl
    | str b => obtain rfl := inv_str r'; rfl
    | _ => cases h'
  | _ => cases h
theorem flats_of {G : Hp} {c : List Addr} : ∀ {ds : List D} {vs : List V}, Reps T G c ds vs → ds.all flatD = true → vs.all flatV = true
  | [], _, r, _ => by rw [r.nil_inv]; rfl
  | d :: ds, _, r, h => by
    obtain ⟨v, us, rfl, r1, r2⟩ := r.cons_inv
    rw [List.all_cons, Bool.and_eq_true] at h
    rw [List.all_cons, flat_of r1 h.1, flats_of r2 h.2]
    rfl
theorem inF_of {G : Hp} {c : List Addr} {e : D} {u : V} (r' : Rep T G c e u) (h' : flatD e = true) : ∀ {ds : List D} {vs : List V}, Reps T G c ds vs → ds.all flatD = true → inV u vs = ds.any fun y => eqF y e
  | [], _, r, _ => by rw [r.nil_inv]; rfl
  | d :: ds, _, r, h => by
    obtain ⟨v, us, rfl, r1, r2⟩ := r.cons_inv
    rw [List.all_cons, Bool.and_eq_true] at h
    have ih := inF_of r' h' r2 h.2
    unfold inV at ih ⊢
    rw [List.any_cons, List.any_cons, ih, eqF_of r1 r' h.1 h']
def inG (neg : Bool) : G2 := fun d1 d2 _ => match d2 with
  | .tup ys => if flatD d1 = true ∧ ys.all flatD = true then some (.bl ((ys.any fun y => eqF y d1) ^^ neg)) else none
  | .lst ys => (match toP d1, toPs ys with
    | some p, some ps => if SeqAt.shaped p = true ∧ SeqAt.shaped (.list ps) = true then some (.bl ((ps.any fun z => PyData.eqv z p) ^^ neg)) else none
    | _, _ => none)
  | .str b => (match d1 with
    | .str a => (match a.cps.toList with
      | [k] => some (.bl (decide (k ∈ b.cps.toList) ^^ neg))
      | _ => none)
    | _ => none)
  | _ => none
def gIn : G2 := inG false
def gNotIn : G2 := inG true
theorem str_one {a : Str} {k : Nat} (h : a.cps.toList = [k]) : a = ⟨#[k]⟩ := by
  obtain ⟨cps⟩ := a
  have : cps = #[k] := by
    rw [← Array.toList_inj]
    exact h
  rw [this]
theorem os_inG {op : CmpOp} {neg : Bool} (h1 : OpR X (compareOp op) (rIn X.K neg))
    (h2 : OpR X (compareOp op) (fun x y H Q => ∃ d ds, Dp X.K H x d ∧ Dp X.K H y (.list ds) ∧ SeqAt.shaped d = true ∧ SeqAt.shaped (.list ds) = true ∧ Q (.bl ((ds.any fun z => PyData.eqv z d) ^^ neg)) H))
    (h3 : OpR X (compareOp op) (fun x y H Q => ∃ (c : Nat) (z : Str), x = .str ⟨#[c]⟩ ∧ y = .str z ∧ Q (.bl (decide (c ∈ z.cps.toList) ^^ neg)) H)) : OpS X T (compareOp op) (inG neg) :=
  ops_by fun pins s σ H x y v u Q G c S d1 d2 d hK I rx ry w r1 r2 e q => by
  cases d2 with
  | tup ys =>
    have e0 : (if flatD d1 = true ∧ ys.all flatD = true then some (D.bl ((ys.any fun y => eqF y d1) ^^ neg)) else none) = some d := e
    split at e0
    · next hz =>
      cases e0
      obtain ⟨_, p, vs, rfl, s2, t2⟩ := inv_tup r2
      refine h1 pins s σ H _ _ v u Q I rx ry ⟨p, vs, rfl, .inr (by rw [hK]; exact sqT_mono w.sub s2), flat_of r1 hz.1, flats_of t2 hz.2, ?_⟩
      refine ans w q ?_
      have e1 : (if neg = true then !inV x vs else inV x vs) = ((ys.any fun y => eqF y d1) ^^ neg) := by
        rw [inF_of r1 hz.1 t2 hz.2]
        cases neg <;> simp
      rw [e1]
      exact rep_bl
    · cases e0
  | lst ys =>
    have e0 : (match toP d1, toPs ys with
      | some p, some ps => if SeqAt.shaped p = true ∧ SeqAt.shaped (.list ps) = true then some (D.bl ((ps.any fun z => PyData.eqv z p) ^^ neg)) else none
      | _, _ => none) = some d := e
    cases q1 : toP d1 with
    | none => rw [q1] at e0; cases e0
    | some p =>
      cases q2 : toPs ys with
      | none => rw [q1, q2] at e0; cases e0
      | some ps =>
        rw [q1, q2] at e0
        have e1 : (if SeqAt.shaped p = true ∧ SeqAt.shaped (.list ps) = true then some (D.bl ((ps.any fun z => PyData.eqv z p) ^^ neg)) else none) = some d := e0
        split at e1
        · next hz =>
          cases e1
          have e2 : toP (.lst ys) = some (.list ps) := by unfold toP; rw [q2]; rfl
          refine h2 pins s σ H _ _ v u Q I rx ry ⟨p, ps, by rw [hK]; exact dp_of w.sub _ _ _ r1 q1, by rw [hK]; exact dp_of w.sub _ _ _ r2 e2, hz.1, hz.2, ?_⟩
          exact ans w q rep_bl
        · cases e1
  | str b =>
    cases d1 with
    | str a =>
      have e0 : (match a.cps.toList with
        | [k] => some (D.bl (decide (k ∈ b.cps.toList) ^^ neg))
        | _ => none) = some d := e
      split at e0
      · next k hk =>
        cases e0
        obtain rfl := inv_str r1
        obtain rfl := inv_str r2
        rw [str_one hk] at rx
        exact h3 pins s σ H _ _ v u Q I rx ry ⟨k, b, rfl, rfl, ans w q rep_bl⟩
      · cases e0
    | _ => cases e
  | _ => cases e
theorem os_in (hu : X.A.units + 65 < cLine) : OpS X T (compareOp .In) gIn := os_inG op_in_seq
  (fun pins s σ H x y v u Q I rx ry ⟨d, ds, a1, a2, a3, a4, q⟩ => op_inD hu pins s σ H x y v u Q I rx ry ⟨d, ds, a1, a2, a3, a4, by rw [Bool.xor_false] at q; exact q⟩)
  (fun pins s σ H x y v u Q I rx ry ⟨d, ds, a1, a2, q⟩ => op_in_sign pins s σ H x y v u Q I rx ry ⟨d, ds, a1, a2, by rw [Bool.xor_false] at q; exact q⟩)
theorem os_notin (hu : X.A.units + 65 < cLine) : OpS X T (compareOp .NotIn) gNotIn := os_inG op_notIn_seq
  (fun pins s σ H x y v u Q I rx ry ⟨d, ds, a1, a2, a3, a4, q⟩ => op_notInD hu pins s σ H x y v u Q I rx ry ⟨d, ds, a1, a2, a3, a4, by rw [Bool.xor_true] at q; exact q⟩)
  (fun pins s σ H x y v u Q I rx ry ⟨d, ds, a1, a2, q⟩ => op_notIn_sign pins s σ H x y v u Q I rx ry ⟨d, ds, a1, a2, by rw [Bool.xor_true] at q; exact q⟩)

/-! ### calls of what is built in -/
abbrev GL := List D → Sto → Option D
def rGL (T : Ct) (g : GL) : List V → Hp → VK → Prop := fun vs H Q => ∃ G c S ds d, Wf T G H c S ∧ Reps T G c ds vs ∧ g ds S = some d ∧ ∀ v G' H', Wf T G' H' c S → Le G H c G' H' c → Rep T G' c d v → Q v H'
def CallS (X : Cx) (T : Ct) (f : Value) (g : GL) : Prop := X.K = T.K → CallR X f (rGL T g)
def opL (g : GL) (ds : List D) (S : Sto) : Rs D := match g ds S with
  | some d => .ok d S
  | none => .bad
def eCB (g : GL) (ma : MA) : ME := fun ρ S => (ma ρ S).bind fun ds S1 => opL g ds S1
variable {W : WX} {e : Expr} {es : List Expr} {m m1 m2 : ME} {ma : MA} {x : Str} {p pos : Pos}
theorem cb_read {g : GL} {σ : L2.St} {H : Hp} {Q : VK} (h : tE T W (eCB g ma) σ H Q) : tCB (rGL T g) (tA T W ma) σ H Q := by
  obtain ⟨G, c, S, ρ, w, sr, o⟩ := h
  refine ⟨G, c, S, ρ, w, sr, (Out.bind o).imp ?_⟩
  rintro xs H1 ⟨G1, c1, ds, S1, w1, l1, r1, o1⟩
  unfold opL at o1
  cases q : g ds S1 with
  | none => rw [q] at o1; exact o1.elim
  | some d =>
    rw [q] at o1
    exact ⟨G1, c1, S1, ds, d, w1, r1, q, fun v G' H' w' l' r' => o1 v G' H' c1 w' l' r'⟩
theorem se_callB {id : String} {g : GL} (hc : CallS X T (.builtin id) g) (hm : X.mg x = none) (hv : bootBuiltins x = some (.builtin id)) (ha : SA X T W (e :: es) ma) (hg : Gl X x := by rfl) (hn : x ≠ "__name__" := by decide) (hdb : (x == ("__debug__" : Str)) = false := by decide)
    (he : starEach (e :: es) X.env = (false, eval e X.env) :: starEach es X.env := by rfl) (hpl : (backTo pos (starEach es X.env)).any (·.1) = false := by rfl) : SE X T W (.Call (.Name x p) (e :: es) [] pos) (eCB g ma) :=
  ⟨fun hK => PE.imp (pe_callB (hc hK) hg hm hv (ha.pa hK) hn hdb he hpl) fun _ _ _ h => cb_read h⟩
theorem se_callTy {t : String} {g : GL} (hc : CallS X T (.type t) g) (hm : X.mg x = none) (hv : bootBuiltins x = some (.type t)) (ha : SA X T W (e :: es) ma) (hg : Gl X x := by rfl) (hn : x ≠ "__name__" := by decide) (hdb : (x == ("__debug__" : Str)) = false := by decide)
    (he : starEach (e :: es) X.env = (false, eval e X.env) :: starEach es X.env := by rfl) (hpl : (backTo pos (starEach es X.env)).any (·.1) = false := by rfl) : SE X T W (.Call (.Name x p) (e :: es) [] pos) (eCB g ma) :=
  ⟨fun hK => PE.imp (pe_callTy (hc hK) hg hm hv (ha.pa hK) hn hdb he hpl) fun _ _ _ h => cb_read h⟩
theorem se_callBf {id : String} {g : GL} (hc : CallS X T (.builtin id) g) (hm : X.mg x = some (.builtin id)) (ha : SA X T W (e :: es) ma) (hg : Gl X x := by rfl) (hdb : (x == ("__debug__" : Str)) = false := by decide)
    (he : starEach (e :: es) X.env = (false, eval e X.env) :: starEach es X.env := by rfl) (hpl : (backTo pos (starEach es X.env)).any (·.1) = false := by rfl) : SE X T W (.Call (.Name x p) (e :: es) [] pos) (eCB g ma) :=
  ⟨fun hK => PE.imp (pe_callBfun (hc hK) hg hm (ha.pa hK) hdb he hpl) fun _ _ _ h => cb_read h⟩

theorem cs_by {f : Value} {g : GL} {r : List V → Hp → VK → Prop} (hr : CallR X f r) (h : ∀ (vs : List V) (H : Hp) (Q : VK) (G : Hp) (c : List Addr) (S : Sto) (ds : List D) (d : D), X.K = T.K → Wf T G H c S → Reps T G c ds vs → g ds S = some d →
    (∀ v G' H', Wf T G' H' c S → Le G H c G' H' c → Rep T G' c d v → Q v H') → r vs H Q) : CallS X T f g :=
  fun hK pins s σ H xs us Q I rr ⟨G, c, S, ds, d, w, rs, e, q⟩ => hr pins s σ H xs us Q I rr (h xs H Q G c S ds d hK w rs e q)
/-- what a cell holds, a list, a tuple: the items -/
def seqOf : D → Sto → Option (List D)
  | .tup xs, _ => some xs
  | .lst xs, _ => some xs
  | .scr xs, _ => some xs
  | .cell n, S => S[n]?
  | _, _ => none
theorem seq_of {G H : Hp} {c : List Addr} {S : Sto} {d : D} {v : V} {xs : List D} (w : Wf T G H c S) (r : Rep T G c d v) (e : seqOf d S = some xs) : ∃ a vs, v = .ref a ∧ (SqL T.K H a vs ∨ (SqT T.K H a vs ∧ d = .tup xs)) ∧ Reps T G c xs vs := by
  cases d with
  | tup ys => cases e; obtain ⟨_, p, vs, rfl, s, t⟩ := inv_tup r; exact ⟨p, vs, rfl, .inr ⟨sqT_mono w.sub s, rfl⟩, t⟩
  | lst ys => cases e; obtain ⟨_, p, vs, rfl, s, t⟩ := inv_lst r; exact ⟨p, vs, rfl, .inl (SqL.of (w.sub _ _ s)), t⟩
  | scr ys => cases e; obtain ⟨_, p, vs, rfl, s, t⟩ := inv_scr r; exact ⟨p, vs, rfl, .inl (sqL_mono w.sub s), t⟩
  | cell n =>
    obtain ⟨p, rfl, hp⟩ := inv_cell r
    obtain ⟨_, vs, h1, h2⟩ := w.cel n xs p e hp
    exact ⟨p, vs, rfl, .inl (SqL.of h1), h2⟩
  | _ => cases e
def gLen : GL := fun ds S => match ds with
  | [.str z] => if z.length ≤ sizeLine then some (.int z.length) else none
  | [d] => (match seqOf d S with
    | some xs => some (.int xs.length)
    | none => none)
  | _ => none
theorem cs_len : CallS X T (.builtin "len") gLen := cs_by call_len fun vs H Q G c S ds d hK w rs e q => by
  obtain ⟨d1, rfl⟩ : ∃ d1, ds = [d1] := by
    cases ds with
    | nil => cases e
    | cons d1 r =>
      cases r with
      | nil => exact ⟨d1, rfl⟩
      | cons d2 r => cases d1 <;> cases e
  · obtain ⟨v, us, rfl, r1, r2⟩ := rs.cons_inv
    obtain rfl := r2.nil_inv
    have go : ∀ xs : List D, seqOf d1 S = some xs → some (D.int xs.length) = some d → ∃ x n, [v] = [x] ∧ LenV X.K x H n ∧ Q (.int n) H := fun xs h1 h2 => by
      cases h2
      obtain ⟨a, ws, rfl, hs, t⟩ := seq_of w r1 h1
      refine ⟨_, ws.length, rfl, ?_, ?_⟩
      · rw [hK]
        rcases hs with hs | ⟨hs, _⟩
        · exact .inl ⟨ws, hs, rfl⟩
        · exact .inr ⟨ws, hs, rfl⟩
      · rw [← t.length]
        exact ans w q rep_int
    cases d1 with
    | str z =>
      have e0 : (if z.length ≤ sizeLine then some (D.int z.length) else none) = some d := e
      split at e0
      · next hz =>
        cases e0
        obtain rfl := inv_str r1
        exact ⟨_, z.length, rfl, ⟨hz, rfl⟩, ans w q rep_int⟩
      · cases e0
    | tup xs => exact go xs rfl e
    | lst xs => exact go xs rfl e
    | scr xs => exact go xs rfl e
    | cell n =>
      cases h : S[n]? with
      | none =>
        have e0 : (match S[n]? with
          | some xs => some (D.int xs.length)
          | none => none) = some d := e
        rw [h] at e0
        cases e0
      | some xs =>
        have e0 : (match S[n]? with
          | some xs => some (D.int xs.length)
          | none => none) = some d := e
        rw [h] at e0
        exact go xs h e0
    | _ => cases e
/-- tuple(x) -/
def gTuple : GL := fun ds S => match ds with
  | [d] => (match seqOf d S with
    | some xs => if xs.length ≤ sizeLine then some (.tup xs) else none
    | none => none)
  | _ => none
theorem one_of {g : GL} {ds : List D} {S : Sto} {d : D} (h0 : g [] S = none) (h2 : ∀ a b r, g (a :: b :: r) S = none) (e : g ds S = some d) : ∃ d1, ds = [d1] := by
  cases ds with
  | nil => rw [h0] at e; cases e
  | cons d1 r =>
    cases r with
    | nil => exact ⟨d1, rfl⟩
    | cons d2 r => rw [h2] at e; cases e
theorem cs_tuple : CallS X T (.type "tuple") gTuple := cs_by call_tuple_of fun vs H Q G c S ds d hK w rs e q => by
  obtain ⟨d1, rfl⟩ := one_of (by rfl) (fun _ _ _ => by rfl) e
  obtain ⟨v, us, rfl, r1, r2⟩ := rs.cons_inv
  obtain rfl := r2.nil_inv
  have e0 : (match seqOf d1 S with
    | some xs => if xs.length ≤ sizeLine then some (D.tup xs) else none
    | none => none) = some d := e
  cases h : seqOf d1 S with
  | none => rw [h] at e0; cases e0
  | some xs =>
    rw [h] at e0
    have e1 : (if xs.length ≤ sizeLine then some (D.tup xs) else none) = some d := e0
    split at e1
    · next hz =>
      cases e1
      obtain ⟨a, ws, rfl, hs, t⟩ := seq_of w r1 h
      rcases hs with hs | ⟨hs, rfl⟩
      · refine ⟨a, ws, rfl, .inl ⟨by rw [hK]; exact hs, fun l hl => ?_⟩⟩
        obtain ⟨w2, l2⟩ := w.laid (o := .tup ws) hl
        exact q _ _ _ w2 l2 (rep_tup hz (SqT.of upd_same) (t.mono l2))
      · exact ⟨a, ws, rfl, .inr ⟨by rw [hK]; exact hs, q _ G H w (Le.refl _ _ _) r1⟩⟩
    · cases e1
/-- int(n), int(flag); bool(n); abs(n); str(n) -/
def gInt : GL := fun ds _ => match ds with
  | [.int i] => some (.int i)
  | [.bl b] => some (.int (if b then 1 else 0))
  | _ => none
theorem cs_int : CallS X T (.type "int") gInt := cs_by call_int1 fun vs H Q G c S ds d hK w rs e q => by
  obtain ⟨d1, rfl⟩ := one_of (by rfl) (fun a _ _ => by cases a <;> rfl) e
  obtain ⟨v, us, rfl, r1, r2⟩ := rs.cons_inv
  obtain rfl := r2.nil_inv
  cases d1 with
  | int i => cases e; obtain rfl := inv_int r1; exact .inl ⟨i, rfl, ans w q rep_int⟩
  | bl b => cases e; obtain rfl := inv_bl r1; exact .inr ⟨b, rfl, ans w q rep_int⟩
  | _ => cases e
def gAbs : GL := fun ds _ => match ds with
  | [.int i] => some (.int (if i < 0 then -i else i))
  | _ => none
def gStr : GL := fun ds _ => match ds with
  | [.int i] => if i.natAbs < 2 ^ 60 then some (.str (toString i)) else none
  | _ => none
theorem cs_abs : CallS X T (.builtin "abs") gAbs := cs_by call_abs fun vs H Q G c S ds d hK w rs e q => by
  obtain ⟨d1, rfl⟩ := one_of (by rfl) (fun a _ _ => by cases a <;> rfl) e
  obtain ⟨v, us, rfl, r1, r2⟩ := rs.cons_inv
  obtain rfl := r2.nil_inv
  cases d1 with
  | int i => cases e; obtain rfl := inv_int r1; exact ⟨i, rfl, ans w q rep_int⟩
  | _ => cases e
theorem cs_str : CallS X T (.type "str") gStr := cs_by call_str_int fun vs H Q G c S ds d hK w rs e q => by
  obtain ⟨d1, rfl⟩ := one_of (by rfl) (fun a _ _ => by cases a <;> rfl) e
  obtain ⟨v, us, rfl, r1, r2⟩ := rs.cons_inv
  obtain rfl := r2.nil_inv
  cases d1 with
  | int i =>
    have e0 : (if i.natAbs < 2 ^ 60 then some (D.str (toString i)) else none) = some d := e
    split at e0
    · next hz =>
      cases e0
      obtain rfl := inv_int r1
      exact ⟨i, rfl, Nat.lt_of_lt_of_le (PySem.Flt.log2_lt_of (by decide) hz) (by decide), ans w q rep_str⟩
    · cases e0
  | _ => cases e
def gMax2 : GL := fun ds _ => match ds with
  | [.int i, .int j] => some (.int (if j > i then j else i))
  | _ => none
def gMin2 : GL := fun ds _ => match ds with
  | [.int i, .int j] => some (.int (if j < i then j else i))
  | _ => none
theorem ints2 {G : Hp} {c : List Addr} {i j : Int} {vs : List V} (rs : Reps T G c [.int i, .int j] vs) : vs = [.int i, .int j] := by
  obtain ⟨v, us, rfl, r1, r2⟩ := rs.cons_inv
  obtain ⟨v', us', rfl, r3, r4⟩ := r2.cons_inv
  obtain rfl := r4.nil_inv
  obtain rfl := inv_int r1
  obtain rfl := inv_int r3
  rfl
end
end KF
end

section
namespace KF
open PySem PySem.Spec PyProof.Rows L2
section
variable {X : Cx} {T : Ct} {W : WX} {e : Expr} {es : List Expr} {m m1 m2 : ME} {ma : MA} {x : Str} {p pos : Pos}
theorem reps_ints {G : Hp} {c : List Addr} : ∀ {ns : List Int} {vs : List V}, Reps T G c (ns.map D.int) vs → vs = ns.map V.int
  | [], _, r => r.nil_inv
  | n :: ns, _, r => by
    obtain ⟨v, us, rfl, r1, r2⟩ := r.cons_inv
    rw [inv_int r1, reps_ints r2]
    rfl
theorem reps_bls {G : Hp} {c : List Addr} : ∀ {ns : List Bool} {vs : List V}, Reps T G c (ns.map D.bl) vs → vs = ns.map V.bl
  | [], _, r => r.nil_inv
  | n :: ns, _, r => by
    obtain ⟨v, us, rfl, r1, r2⟩ := r.cons_inv
    rw [inv_bl r1, reps_bls r2]
    rfl
theorem reps_strs {G : Hp} {c : List Addr} : ∀ {ns : List Str} {vs : List V}, Reps T G c (ns.map D.str) vs → vs = ns.map V.str
  | [], _, r => r.nil_inv
  | n :: ns, _, r => by
    obtain ⟨v, us, rfl, r1, r2⟩ := r.cons_inv
    rw [inv_str r1, reps_strs r2]
    rfl
/-- the intsD, bools, texts of a row -/
def intsD : List D → Option (List Int)
  | [] => some []
  | .int i :: r => (intsD r).map (i :: ·)
  | _ => none
def blsD : List D → Option (List Bool)
  | [] => some []
  | .bl i :: r => (blsD r).map (i :: ·)
  | _ => none
def strsD : List D → Option (List Str)
  | [] => some []
  | .str i :: r => (strsD r).map (i :: ·)
  | _ => none
theorem ints_eq : ∀ {ds : List D} {ns : List Int}, intsD ds = some ns → ds = ns.map D.int
  | [], _, h => by cases h; rfl
  | .int i :: r, ns, h => by
    unfold intsD at h
    cases q : intsD r with
    | none => rw [q] at h; cases h
    | some k => rw [q] at h; cases h; rw [ints_eq q]; rfl
  | .non :: _, _, h => by cases h
  | .bl _ :: _, _, h => by cases h
  | .str _ :: _, _, h => by cases h
  | .tup _ :: _, _, h => by cases h
  | .lst _ :: _, _, h => by cases h
  | .scr _ :: _, _, h => by cases h
  | .cell _ :: _, _, h => by cases h
  | .fn _ :: _, _, h => by cases h
  | .exv _ _ _ :: _, _, h => by cases h
  | .ex0 _ :: _, _, h => by cases h
theorem bls_eq : ∀ {ds : List D} {ns : List Bool}, blsD ds = some ns → ds = ns.map D.bl
  | [], _, h => by cases h; rfl
  | .bl i :: r, ns, h => by
    unfold blsD at h
    cases q : blsD r with
    | none => rw [q] at h; cases h
    | some k => rw [q] at h; cases h; rw [bls_eq q]; rfl
  | .non :: _, _, h => by cases h
  | .int _ :: _, _, h => by cases h
  | .str _ :: _, _, h => by cases h
  | .tup _ :: _, _, h => by cases h
  | .lst _ :: _, _, h => by cases h
  | .scr _ :: _, _, h => by cases h
  | .cell _ :: _, _, h => by cases h
  | .fn _ :: _, _, h => by cases h
  | .exv _ _ _ :: _, _, h => by cases h
  | .ex0 _ :: _, _, h => by cases h
theorem strs_eq : ∀ {ds : List D} {ns : List Str}, strsD ds = some ns → ds = ns.map D.str
  | [], _, h => by cases h; rfl
  | .str i :: r, ns, h => by
    unfold strsD at h
    cases q : strsD r with
    | none => rw [q] at h; cases h
    | some k => rw [q] at h; cases h; rw [strs_eq q]; rfl
  | .non :: _, _, h => by cases h
  | .int _ :: _, _, h => by cases h
  | .bl _ :: _, _, h => by cases h
  | .tup _ :: _, _, h => by cases h
  | .lst _ :: _, _, h => by cases h
  | .scr _ :: _, _, h => by cases h
  | .cell _ :: _, _, h => by cases h
  | .fn _ :: _, _, h => by cases h
  | .exv _ _ _ :: _, _, h => by cases h
  | .ex0 _ :: _, _, h => by cases h
theorem ints_map : ∀ ns : List Int, intsD (ns.map D.int) = some ns
  | [] => rfl
  | n :: r => by show (intsD (r.map D.int)).map _ = _; rw [ints_map r]; rfl
theorem bls_map : ∀ ns : List Bool, blsD (ns.map D.bl) = some ns
  | [] => rfl
  | n :: r => by show (blsD (r.map D.bl)).map _ = _; rw [bls_map r]; rfl
theorem strs_map : ∀ ns : List Str, strsD (ns.map D.str) = some ns
  | [] => rfl
  | n :: r => by show (strsD (r.map D.str)).map _ = _; rw [strs_map r]; rfl
/-- a built-in over one list -/
theorem cs_list1 {id : String} {g : GL} {r : List V → Hp → VK → Prop} {h : List D → Option D} (hr : CallR X (.builtin id) r) (hg : ∀ ds S, g ds S = match ds with
    | [.lst xs] => h xs
    | _ => none) (k : ∀ (a : Addr) (xs : List D) (vs : List V) (G H : Hp) (c : List Addr) (S : Sto) (Q : VK) (d : D), Wf T G H c S → H a = some (.lst vs) → Reps T G c xs vs → h xs = some d → (∀ v, Rep T G c d v → Q v H) → X.K = T.K → r [.ref a] H Q) : CallS X T (.builtin id) g :=
  cs_by hr fun vs H Q G c S ds d hK w rs e q => by
  rw [hg] at e
  cases ds with
  | nil => cases e
  | cons d1 rr =>
    cases rr with
    | cons d2 r2 => cases d1 <;> cases e
    | nil =>
      cases d1 with
      | lst xs =>
        obtain ⟨v, us, rfl, r1, r2⟩ := rs.cons_inv
        obtain rfl := r2.nil_inv
        obtain ⟨_, a, ws, rfl, s, t⟩ := inv_lst r1
        exact k a xs ws G H c S Q d w (w.sub _ _ s) t e (fun v rv => q v G H w (Le.refl _ _ _) rv) hK
      | _ => cases e
def g1 (h : List D → Option D) : GL := fun ds _ => match ds with
  | [.lst xs] => h xs
  | _ => none
def hSum : List D → Option D := fun xs => (intsD xs).map fun ns => .int ns.sum
def hAll : List D → Option D := fun xs => (blsD xs).map fun ns => .bl (ns.all id)
def hAny : List D → Option D := fun xs => (blsD xs).map fun ns => .bl (ns.any id)
theorem cs_sum (hc : X.calm = true) : CallS X T (.builtin "sum") (g1 hSum) := cs_list1 (cr_sum hc) (fun _ _ => rfl) fun a xs vs G H c S Q d w hl t e q hK => by
  unfold hSum at e
  cases h : intsD xs with
  | none => rw [h] at e; cases e
  | some ns =>
    rw [h] at e; cases e
    rw [ints_eq h] at t
    rw [reps_ints t] at hl
    exact ⟨a, ns, rfl, SqL.of hl, q _ rep_int⟩
theorem cs_all (hc : X.calm = true) : CallS X T (.builtin "all") (g1 hAll) := cs_list1 (cr_all hc) (fun _ _ => rfl) fun a xs vs G H c S Q d w hl t e q hK => by
  unfold hAll at e
  cases h : blsD xs with
  | none => rw [h] at e; cases e
  | some ns =>
    rw [h] at e; cases e
    rw [bls_eq h] at t
    rw [reps_bls t] at hl
    exact ⟨a, ns, rfl, SqL.of hl, q _ rep_bl⟩
theorem cs_any (hc : X.calm = true) : CallS X T (.builtin "any") (g1 hAny) := cs_list1 (cr_any hc) (fun _ _ => rfl) fun a xs vs G H c S Q d w hl t e q hK => by
  unfold hAny at e
  cases h : blsD xs with
  | none => rw [h] at e; cases e
  | some ns =>
    rw [h] at e; cases e
    rw [bls_eq h] at t
    rw [reps_bls t] at hl
    exact ⟨a, ns, rfl, SqL.of hl, q _ rep_bl⟩
/-- min, max: of a list of intsD, or of two -/
def least (n : Int) (ns : List Int) : Int := ns.foldl (fun a b => if b < a then b else a) n
def most (n : Int) (ns : List Int) : Int := ns.foldl (fun a b => if b > a then b else a) n
theorem least_spec : ∀ (ns : List Int) (n : Int), least n ns ∈ n :: ns ∧ ∀ y ∈ n :: ns, least n ns ≤ y
  | [], n => ⟨List.mem_cons_self, fun y hy => by rw [List.mem_singleton.mp hy]; exact Int.le_refl _⟩
  | b :: r, n => by
    obtain ⟨h1, h2⟩ := least_spec r (if b < n then b else n)
    have e : least n (b :: r) = least (if b < n then b else n) r := rfl
    rw [e]
    refine ⟨?_, fun y hy => ?_⟩
    · rcases List.mem_cons.mp h1 with h | h
      · rw [h]; split <;> simp
      · exact List.mem_cons_of_mem _ (List.mem_cons_of_mem _ h)
    · have h0 := h2 _ List.mem_cons_self
      rcases List.mem_cons.mp hy with rfl | hy
      · refine Int.le_trans h0 ?_
        split <;> omega
      · rcases List.mem_cons.mp hy with rfl | hy
        · refine Int.le_trans h0 ?_
          split <;> omega
        · exact h2 y (List.mem_cons_of_mem _ hy)
theorem most_spec : ∀ (ns : List Int) (n : Int), most n ns ∈ n :: ns ∧ ∀ y ∈ n :: ns, y ≤ most n ns
  | [], n => ⟨List.mem_cons_self, fun y hy => by rw [List.mem_singleton.mp hy]; exact Int.le_refl _⟩
  | b :: r, n => by
    obtain ⟨h1, h2⟩ := most_spec r (if b > n then b else n)
    have e : most n (b :: r) = most (if b > n then b else n) r := rfl
    rw [e]
    refine ⟨?_, fun y hy => ?_⟩
    · rcases List.mem_cons.mp h1 with h | h
      · rw [h]; split <;> simp
      · exact List.mem_cons_of_mem _ (List.mem_cons_of_mem _ h)
    · have h0 := h2 _ List.mem_cons_self
      rcases List.mem_cons.mp hy with rfl | hy
      · refine Int.le_trans ?_ h0
        split <;> omega
      · rcases List.mem_cons.mp hy with rfl | hy
        · refine Int.le_trans ?_ h0
          split <;> omega
        · exact h2 y (List.mem_cons_of_mem _ hy)
def hMin : List D → Option D := fun xs => match intsD xs with
  | some (n :: ns) => some (.int (least n ns))
  | _ => none
def hMax : List D → Option D := fun xs => match intsD xs with
  | some (n :: ns) => some (.int (most n ns))
  | _ => none
theorem cs_minL (hc : X.calm = true) : CallS X T (.builtin "min") (g1 hMin) := cs_list1 (cr_min hc) (fun _ _ => rfl) fun a xs vs G H c S Q d w hl t e q hK => by
  unfold hMin at e
  cases h : intsD xs with
  | none => rw [h] at e; cases e
  | some ns =>
    rw [h] at e
    cases ns with
    | nil => cases e
    | cons n ns =>
      cases e
      rw [ints_eq h] at t
      rw [reps_ints t] at hl
      refine ⟨a, n :: ns, rfl, SqL.of hl, Nat.succ_pos _, fun k hk hle => ?_⟩
      obtain ⟨h1, h2⟩ := least_spec ns n
      have : k = least n ns := by have := hle _ h1; have := h2 k hk; omega
      subst this
      exact q _ rep_int
theorem cs_maxL (hc : X.calm = true) : CallS X T (.builtin "max") (g1 hMax) := cs_list1 (cr_max hc) (fun _ _ => rfl) fun a xs vs G H c S Q d w hl t e q hK => by
  unfold hMax at e
  cases h : intsD xs with
  | none => rw [h] at e; cases e
  | some ns =>
    rw [h] at e
    cases ns with
    | nil => cases e
    | cons n ns =>
      cases e
      rw [ints_eq h] at t
      rw [reps_ints t] at hl
      refine ⟨a, n :: ns, rfl, SqL.of hl, Nat.succ_pos _, fun k hk hle => ?_⟩
      obtain ⟨h1, h2⟩ := most_spec ns n
      have : k = most n ns := by have := hle _ h1; have := h2 k hk; omega
      subst this
      exact q _ rep_int
theorem two_of {g : GL} {ds : List D} {S : Sto} {d : D} (h0 : g [] S = none) (h1 : ∀ a, g [a] S = none) (h3 : ∀ a b c r, g (a :: b :: c :: r) S = none) (e : g ds S = some d) : ∃ d1 d2, ds = [d1, d2] := by
  cases ds with
  | nil => rw [h0] at e; cases e
  | cons d1 r =>
    cases r with
    | nil => rw [h1] at e; cases e
    | cons d2 r =>
      cases r with
      | nil => exact ⟨d1, d2, rfl⟩
      | cons d3 r => rw [h3] at e; cases e
theorem cs_max2 (hc : X.calm = true) : CallS X T (.builtin "max") gMax2 := cs_by (call_max2 hc) fun vs H Q G c S ds d hK w rs e q => by
  obtain ⟨d1, d2, rfl⟩ := two_of (by rfl) (fun a => by cases a <;> rfl) (fun a b _ _ => by cases a <;> cases b <;> rfl) e
  cases d1 with
  | int i =>
    cases d2 with
    | int j => cases e; obtain rfl := ints2 rs; exact ⟨i, j, rfl, ans w q rep_int⟩
    | _ => cases e
  | _ => cases e
theorem cs_min2 (hc : X.calm = true) : CallS X T (.builtin "min") gMin2 := cs_by (call_min2 hc) fun vs H Q G c S ds d hK w rs e q => by
  obtain ⟨d1, d2, rfl⟩ := two_of (by rfl) (fun a => by cases a <;> rfl) (fun a b _ _ => by cases a <;> cases b <;> rfl) e
  cases d1 with
  | int i =>
    cases d2 with
    | int j => cases e; obtain rfl := ints2 rs; exact ⟨i, j, rfl, ans w q rep_int⟩
    | _ => cases e
  | _ => cases e
def gGcd : GL := fun ds _ => match ds with
  | [.int i, .int j] => some (.int ((Nat.gcd i.natAbs j.natAbs : Nat) : Int))
  | _ => none
theorem cs_gcd : CallS X T (.builtin "math.gcd") gGcd := cs_by cr_gcd fun vs H Q G c S ds d hK w rs e q => by
  obtain ⟨d1, d2, rfl⟩ := two_of (by rfl) (fun a => by cases a <;> rfl) (fun a b _ _ => by cases a <;> cases b <;> rfl) e
  cases d1 with
  | int i =>
    cases d2 with
    | int j => cases e; obtain rfl := ints2 rs; exact ⟨i, j, rfl, ans w q rep_int⟩
    | _ => cases e
  | _ => cases e

/-! ### isinstance, by built-in classes -/
inductive Ty where
  | non | bl | int | str | tup | lst
def Ty.name : Ty → String
  | .non => "NoneType" | .bl => "bool" | .int => "int" | .str => "str" | .tup => "tuple" | .lst => "list"
def isi : Ty → Ty → Bool
  | .non, .non => true | .bl, .bl => true | .bl, .int => true | .int, .int => true | .str, .str => true | .tup, .tup => true | .lst, .lst => true
  | _, _ => false
def tyD : D → Option Ty
  | .non => some .non | .bl _ => some .bl | .int _ => some .int | .str _ => some .str | .tup _ => some .tup | .lst _ => some .lst | .scr _ => some .lst | .cell _ => some .lst
  | .fn _ => none
  | .exv _ _ _ => none
  | .ex0 _ => none
theorem kit_isi (t n : Ty) : kitB t.name n.name = some (isi t n) := by cases t <;> cases n <;> decide +kernel
theorem tyx_of {G H : Hp} {c : List Addr} {S : Sto} {d : D} {v : V} {t : Ty} (w : Wf T G H c S) (r : Rep T G c d v) (e : tyD d = some t) : TyX T.K H v (.type t.name) := by
  cases d with
  | non => cases e; obtain rfl := inv_non r; exact .base .non
  | bl b => cases e; obtain rfl := inv_bl r; exact .base (.bl _)
  | int b => cases e; obtain rfl := inv_int r; exact .base (.int _)
  | str b => cases e; obtain rfl := inv_str r; exact .base (.str _)
  | tup xs =>
    cases e
    obtain ⟨_, p, vs, rfl, s, _⟩ := inv_tup r
    rcases sqT_mono w.sub s with (s | ⟨o, s⟩) | ⟨o, its, n, h1, h2, _⟩
    · exact .base (.tup s)
    · exact .fTuple s
    · exact .kTuple h1 h2
  | lst xs => cases e; obtain ⟨_, p, vs, rfl, s, _⟩ := inv_lst r; exact .base (.lst (w.sub _ _ s))
  | scr xs =>
    cases e
    obtain ⟨_, p, vs, rfl, s, _⟩ := inv_scr r
    rcases sqL_mono w.sub s with (s | ⟨o, s⟩) | ⟨o, its, n, h1, h2, _⟩
    · exact .base (.lst s)
    · exact .base (.frz s)
    · exact .kList h1 h2
  | cell n =>
    cases e
    obtain ⟨p, rfl, hp⟩ := inv_cell r
    have hn : n < S.length := by rw [← w.len]; exact (List.getElem?_eq_some_iff.mp hp).1
    obtain ⟨_, vs, h1, _⟩ := w.cel n _ p (List.getElem?_eq_getElem hn) hp
    exact .base (.lst h1)
  | fn x => cases e
  | exv x f d => cases e
  | ex0 x => cases e
def gIsi (ts : List Ty) : G1 := fun d => (tyD d).map fun t => .bl (ts.any (isi t))
theorem se_isi1 {y : Str} (n : Ty) {py : Pos} (ha : SE X T W e m) (hm : X.mg "isinstance" = none) (hm2 : X.mg y = none) (hy : bootBuiltins y = some (.type n.name)) (hg : Gl X "isinstance" := by rfl) (hgy : Gl X y := by rfl) (hn : y ≠ "__name__" := by decide)
    (hdb : (y == ("__debug__" : Str)) = false := by decide) (s1 : starEach [e, .Name y py] X.env = (false, eval e X.env) :: starEach [.Name y py] X.env := by rfl) (s2 : starEach [.Name y py] X.env = (false, eval (.Name y py) X.env) :: starEach [] X.env := by rfl)
    (hpl : (backTo pos (starEach [.Name y py] X.env)).any (·.1) = false := by rfl) : SE X T W (.Call (.Name "isinstance" p) [e, .Name y py] [] pos) (eUn (gIsi [n]) m) := by
  refine ⟨fun hK => PE.imp (pe_callB call_isi hg hm PyProof.Rows.boot_isinstance (pa_cons (ha.pe hK) (pa_cons (pe_bltn (v := .ty n.name) hgy hm2 hy rfl hn hdb) pa_nil s2) s1) (by decide) (by decide) s1 hpl) fun σ H Q h => ?_⟩
  obtain ⟨G, c, S, ρ, w, sr, o⟩ := h
  refine ⟨G, c, S, ρ, w, sr, (Out.bind o).imp ?_⟩
  rintro x H1 ⟨G1, c1, d1, S1, w1, l1, r1, o1⟩
  unfold op1 gIsi at o1
  cases q : tyD d1 with
  | none => rw [q] at o1; exact o1.elim
  | some t =>
    rw [q] at o1
    refine ⟨x, .ty n.name, .type t.name, .type n.name, isi t n, rfl, .ty _, by rw [hK]; exact tyx_of w1 r1 q, kit_ty (kit_isi t n), ?_⟩
    refine o1 _ G1 H1 c1 w1 (Le.refl _ _ _) ?_
    show Rep T G1 c1 (.bl ([n].any (isi t))) _
    rw [List.any_cons, List.any_nil, Bool.or_false]
    exact rep_bl
theorem se_isi2 {y z : Str} (n k : Ty) {py pz pt : Pos} {kt : Nat} (ha : SE X T W e m) (hm : X.mg "isinstance" = none) (hm2 : X.mg y = none) (hy : bootBuiltins y = some (.type n.name)) (hm3 : X.mg z = none) (hz : bootBuiltins z = some (.type k.name)) (hg : Gl X "isinstance" := by rfl) (hgy : Gl X y := by rfl) (hgz : Gl X z := by rfl)
    (hn : y ≠ "__name__" := by decide) (hn2 : z ≠ "__name__" := by decide) (hdb : (y == ("__debug__" : Str)) = false := by decide) (hdb2 : (z == ("__debug__" : Str)) = false := by decide)
    (t1 : starEach [.Name y py, .Name z pz] X.env = (false, eval (.Name y py) X.env) :: starEach [.Name z pz] X.env := by rfl) (t2 : starEach [.Name z pz] X.env = (false, eval (.Name z pz) X.env) :: starEach [] X.env := by rfl)
    (s1 : starEach [e, .Tuple [.Name y py, .Name z pz] kt pt] X.env = (false, eval e X.env) :: starEach [.Tuple [.Name y py, .Name z pz] kt pt] X.env := by rfl)
    (s2 : starEach [.Tuple [.Name y py, .Name z pz] kt pt] X.env = (false, eval (.Tuple [.Name y py, .Name z pz] kt pt) X.env) :: starEach [] X.env := by rfl)
    (hpl : (backTo pos (starEach [.Tuple [.Name y py, .Name z pz] kt pt] X.env)).any (·.1) = false := by rfl) :
    SE X T W (.Call (.Name "isinstance" p) [e, .Tuple [.Name y py, .Name z pz] kt pt] [] pos) (eUn (gIsi [n, k]) m) := by
  refine ⟨fun hK => PE.imp (pe_callB call_isiT hg hm PyProof.Rows.boot_isinstance (pa_cons (ha.pe hK) (pa_cons (pe_tup (pa_cons (pe_bltn (v := .ty n.name) hgy hm2 hy rfl hn hdb) (pa_cons (pe_bltn (v := .ty k.name) hgz hm3 hz rfl hn2 hdb2) pa_nil t2) t1)) pa_nil s2) s1) (by decide) (by decide) s1 hpl) fun σ H Q h => ?_⟩
  obtain ⟨G, c, S, ρ, w, sr, o⟩ := h
  refine ⟨G, c, S, ρ, w, sr, (Out.bind o).imp ?_⟩
  rintro x H1 ⟨G1, c1, d1, S1, w1, l1, r1, o1⟩
  unfold op1 gIsi at o1
  cases q : tyD d1 with
  | none => rw [q] at o1; exact o1.elim
  | some t =>
    rw [q] at o1
    refine ⟨by show 2 ≤ sizeLine; decide, fun tp htp => ?_⟩
    obtain ⟨w2, l2⟩ := w1.laid (o := .tup [.ty n.name, .ty k.name]) htp
    refine ⟨x, tp, [.ty n.name, .ty k.name], .type t.name, [.type n.name, .type k.name], isi t n || isi t k, rfl, upd_same, .cons (.ty _) (.cons (.ty _) .nil), by rw [hK]; exact tyx_of w2 (r1.mono l2) q, ?_, ?_⟩
    · exact kitAny_cons (kit_ty (kit_isi t n)) (fun h => by rw [h, Bool.false_or]; exact kitAny_cons (kit_ty (kit_isi t k)) (fun h2 => by rw [h2]; exact kitAny_nil) (fun h2 => h2)) (fun h => by rw [h]; rfl)
    · refine o1 _ _ _ c1 w2 l2 ?_
      show Rep T _ c1 (.bl ([n, k].any (isi t))) _
      rw [List.any_cons, List.any_cons, List.any_nil, Bool.or_false]
      exact rep_bl

/-! ### subscripts -/
def ixStr (d : D) (k : Int) : Option D := match d with
  | .str z => if z.length ≤ sizeLine then (atI z.cps.toList k).map fun c => .str ⟨#[c]⟩ else none
  | _ => none
def gIx : G2 := fun d i S => match i with
  | .int k => (match seqOf d S with
    | some xs => atI xs k
    | none => ixStr d k)
  | _ => none
def IxS (X : Cx) (T : Ct) (g : G2) : Prop := X.K = T.K → IxR X (rG T g)
theorem atI_rep {G : Hp} {c : List Addr} {xs : List D} {vs : List V} {k : Int} {d : D} (r : Reps T G c xs vs) (h : atI xs k = some d) : ∃ v, atI vs k = some v ∧ Rep T G c d v := by
  unfold atI at h ⊢
  rw [← r.length]
  cases q : ixN xs.length k with
  | none => rw [q] at h; cases h
  | some j =>
    rw [q] at h
    obtain ⟨v, e, rv⟩ := r.get (show xs[j]? = some d from h)
    exact ⟨v, e, rv⟩
theorem ix_all : IxS X T gIx := fun hK value slice pins s σ H x y v u Q I rx ry ⟨G, c, S, d1, d2, d, w, r1, r2, e, q⟩ hs => by
  cases d2 with
  | int k =>
    obtain rfl := inv_int r2
    have e0 : (match seqOf d1 S with
      | some xs => atI xs k
      | none => ixStr d1 k) = some d := e
    cases h : seqOf d1 S with
    | some xs =>
      rw [h] at e0
      obtain ⟨a, vs, rfl, hq, t⟩ := seq_of w r1 h
      obtain ⟨v', hv, rv⟩ := atI_rep t e0
      rcases hq with hq | ⟨hq, _⟩
      · exact ix_list value slice pins s σ H _ _ v u Q I rx ry ⟨a, vs, k, v', rfl, rfl, by rw [hK]; exact hq, hv, ans w q rv⟩ hs
      · exact ix_tup value slice pins s σ H _ _ v u Q I rx ry ⟨a, vs, k, v', rfl, rfl, by rw [hK]; exact hq, hv, ans w q rv⟩ hs
    | none =>
      rw [h] at e0
      cases d1 with
      | str z =>
        have e1 : (if z.length ≤ sizeLine then (atI z.cps.toList k).map fun c => D.str ⟨#[c]⟩ else none) = some d := e0
        split at e1
        · next hz =>
          obtain rfl := inv_str r1
          cases h2 : atI z.cps.toList k with
          | none => rw [h2] at e1; cases e1
          | some n =>
            rw [h2] at e1
            cases e1
            exact ix_str value slice pins s σ H _ _ v u Q I rx ry ⟨z, k, n, rfl, rfl, hz, h2, ans w q rep_str⟩ hs
        · cases e1
      | _ => cases e0
  | _ => cases e
theorem se_ix {a b : Expr} (ha : SE X T W a m1) (hb : SE X T W b m2) (hs : PlainIx b := by exact fun _ _ => rfl) : SE X T W (.Subscript a b pos) (eBin gIx m1 m2) :=
  ⟨fun hK => PE.imp (pe_ix (ix_all hK) (ha.pe hK) (hb.pe hK) hs) fun _ _ _ h => bin_read h⟩
/-- an item of one's own list -/
def gAt (xs : List D) : G1 := fun d => match d with
  | .int k => atI xs k
  | _ => none
def eIxOwn (i : Nat) (m : ME) : ME := fun ρ S => match ρ[i]? with
  | some (.own xs) => (m ρ S).bind fun d S1 => op1 (gAt xs) d S1
  | _ => .bad
theorem se_ixOwn (i : Nat) {y : Str} {b : Expr} {py : Pos} (hb : SE X T W b m) (hN : X.N[i]? = some y := by rfl) (hv : Vis X.env.scope y := by first | exact Or.inl rfl | exact Or.inr (Or.inl rfl) | exact Or.inr (Or.inr rfl)) (hd : (y == ("__debug__" : Str)) = false := by decide)
    (hcd : (y == ("__classdict__" : Str)) = false := by decide) (hs : PlainIx b := by exact fun _ _ => rfl) : SE X T W (.Subscript (.Name y py) b pos) (eIxOwn i m) := by
  refine ⟨fun hK => PE.imp (pe_ix ix_list (pe_var hN hv hd hcd) (hb.pe hK) hs) fun σ H Q h => ?_⟩
  obtain ⟨G, c, S, ρ, w, sr, o⟩ := h
  unfold eIxOwn at o
  cases q : ρ[i]? with
  | none => rw [q] at o; exact o.elim
  | some s =>
    rw [q] at o
    cases s with
    | un => exact o.elim
    | val d => exact o.elim
    | own xs =>
      obtain ⟨z, a, vs, e1, e2, e3, e4, t⟩ := sr.own q
      refine ⟨_, e1, G, c, S, ρ, w, sr, (Out.bind o).imp ?_⟩
      rintro x H1 ⟨G1, c1, d1, S1, w1, l1, r1, o1⟩
      unfold op1 gAt at o1
      cases d1 with
      | int k =>
        obtain rfl := inv_int r1
        have o2 : Out T W σ G1 H1 c1 (Rep T) Q (match atI xs k with
          | some d => Rs.ok d S1
          | none => Rs.bad) := o1
        cases h2 : atI xs k with
        | none => rw [h2] at o2; exact o2.elim
        | some d =>
          rw [h2] at o2
          obtain ⟨v', hv', rv⟩ := atI_rep (t.mono l1) h2
          obtain ⟨k1, k2, k3⟩ := l1.fr a _ e2 e4 e3
          exact ⟨a, vs, k, v', rfl, rfl, SqL.of k1, hv', o2 _ G1 H1 c1 w1 (Le.refl _ _ _) rv⟩
      | _ => exact o1.elim
/-- len of one's own list -/
def eLenOwn (i : Nat) : ME := fun ρ S => match ρ[i]? with
  | some (.own xs) => .ok (.int xs.length) S
  | _ => .bad
theorem se_lenOwn (i : Nat) {y : Str} {py : Pos} (hm : X.mg "len" = none) (hN : X.N[i]? = some y := by rfl) (hv : Vis X.env.scope y := by first | exact Or.inl rfl | exact Or.inr (Or.inl rfl) | exact Or.inr (Or.inr rfl)) (hd : (y == ("__debug__" : Str)) = false := by decide)
    (hcd : (y == ("__classdict__" : Str)) = false := by decide) (hg : Gl X "len" := by rfl) (hs : starEach [.Name y py] X.env = (false, eval (.Name y py) X.env) :: starEach [] X.env := by rfl) (hpl : (backTo pos (starEach [] X.env)).any (·.1) = false := by rfl) :
    SE X T W (.Call (.Name "len" p) [.Name y py] [] pos) (eLenOwn i) := by
  refine ⟨fun hK => PE.imp (pe_callB call_len_seq hg hm PySem.boot_len (pa_cons (pe_var hN hv hd hcd) pa_nil hs) (by decide) (by decide) hs hpl) fun σ H Q h => ?_⟩
  obtain ⟨G, c, S, ρ, w, sr, o⟩ := h
  unfold eLenOwn at o
  cases q : ρ[i]? with
  | none => rw [q] at o; exact o.elim
  | some s =>
    rw [q] at o
    cases s with
    | un => exact o.elim
    | val d => exact o.elim
    | own xs =>
      obtain ⟨z, a, vs, e1, e2, e3, e4, t⟩ := sr.own q
      refine ⟨_, e1, a, vs, rfl, .inl (SqL.of e2), ?_⟩
      rw [← t.length]
      exact o _ G H c w (Le.refl _ _ _) rep_int
end
end KF
end

section
namespace KF
open PySem PySem.Spec PyProof.Rows L2
section
variable {X : Cx} {T : Ct} {W : WX} {e : Expr} {es : List Expr} {m m1 m2 ml mh : ME} {ma : MA} {x : Str} {p pos : Pos}
/-! ### slices -/
def cut {α : Type} (xs : List α) (lo hi : Option Int) : List α := (xs.drop (HT.sIx xs.length 0 lo)).take (HT.sIx xs.length xs.length hi - HT.sIx xs.length 0 lo)
theorem cut_le {α : Type} (xs : List α) (lo hi : Option Int) : (cut xs lo hi).length ≤ xs.length := by
  unfold cut
  rw [List.length_take, List.length_drop]
  omega
theorem cut_rep {G : Hp} {c : List Addr} {xs : List D} {vs : List V} (r : Reps T G c xs vs) (lo hi : Option Int) : Reps T G c (cut xs lo hi) (cutV vs lo hi) := by
  unfold cut cutV
  rw [r.length]
  exact (r.drop _).take _
def gSl (d : D) (lo hi : Option Int) : Option D := match d with
  | .tup xs => some (.tup (cut xs lo hi))
  | .lst xs => some (.lst (cut xs lo hi))
  | .scr xs => some (.lst (cut xs lo hi))
  | .str z => if z.length ≤ sizeLine then some (.str (cutS z lo hi)) else none
  | _ => none
def rSl (T : Ct) : V → Option Int → Option Int → Hp → VK → Prop := fun x lo hi H Q => ∃ G c S d1 d, Wf T G H c S ∧ Rep T G c d1 x ∧ gSl d1 lo hi = some d ∧ ∀ v G' H', Wf T G' H' c S → Le G H c G' H' c → Rep T G' c d v → Q v H'
theorem cut_whole {α : Type} (xs : List α) (lo hi : Option Int) (h : HT.sIx xs.length 0 lo = 0 ∧ HT.sIx xs.length xs.length hi = xs.length) : cut xs lo hi = xs := by
  unfold cut
  rw [h.1, h.2]
  simp
theorem sl_all (hK : X.K = T.K) : SlR X (rSl T) := fun pins s σ H x v vl vu lo hi sl Q I rx hs pl pu ⟨G, c, S, d1, d, w, r, e, q⟩ => by
  cases d1 with
  | tup xs =>
    cases e
    obtain ⟨z, a, vs, rfl, s1, t⟩ := inv_tup r
    refine sl_tupA pins s σ H _ v vl vu lo hi sl Q I rx hs pl pu ⟨a, vs, rfl, by rw [hK]; exact sqT_mono w.sub s1, fun hw => ?_, fun _ p hp => ?_⟩
    · rw [← t.length] at hw
      rw [cut_whole xs lo hi hw] at q
      exact ans w q r
    · obtain ⟨w2, l2⟩ := w.laid (o := .tup (cutV vs lo hi)) hp
      exact q _ _ _ w2 l2 (rep_tup (Nat.le_trans (cut_le _ _ _) z) (SqT.of upd_same) ((cut_rep t lo hi).mono l2))
  | lst xs =>
    cases e
    obtain ⟨z, a, vs, rfl, s1, t⟩ := inv_lst r
    refine sl_list pins s σ H _ v vl vu lo hi sl Q I rx hs pl pu ⟨a, vs, rfl, SqL.of (w.sub _ _ s1), fun p hp => ?_⟩
    obtain ⟨w2, l2⟩ := w.laid (o := .lst (cutV vs lo hi)) hp
    exact q _ _ _ w2 l2 (rep_lst (Nat.le_trans (cut_le _ _ _) z) upd_same ((cut_rep t lo hi).mono l2))
  | scr xs =>
    cases e
    obtain ⟨z, a, vs, rfl, s1, t⟩ := inv_scr r
    refine sl_list pins s σ H _ v vl vu lo hi sl Q I rx hs pl pu ⟨a, vs, rfl, by rw [hK]; exact sqL_mono w.sub s1, fun p hp => ?_⟩
    obtain ⟨w2, l2⟩ := w.laid (o := .lst (cutV vs lo hi)) hp
    exact q _ _ _ w2 l2 (rep_lst (Nat.le_trans (cut_le _ _ _) z) upd_same ((cut_rep t lo hi).mono l2))
  | str z =>
    have e1 : (if z.length ≤ sizeLine then some (D.str (cutS z lo hi)) else none) = some d := e
    split at e1
    · next hz =>
      cases e1
      obtain rfl := inv_str r
      exact sl_str pins s σ H _ v vl vu lo hi sl Q I rx hs pl pu ⟨z, rfl, hz, ans w q rep_str⟩
    · cases e1
  | _ => cases e
/-- a part of a slice: left out, or an int -/
abbrev MO := Env → Sto → Rs (Option Int)
def RO : Hp → List Addr → Option Int → Option Int → Prop := fun _ _ a b => a = b
structure SO (X : Cx) (T : Ct) (W : WX) (e : Option Expr) (m : MO) : Prop where
  po : X.K = T.K → PO X e (tM T W RO m)
def oNo : MO := fun _ S => .ok none S
def oOf (m : ME) : MO := fun ρ S => (m ρ S).bind fun d S1 => match d with
  | .int i => .ok (some i) S1
  | _ => .bad
theorem PO.imp {e : Option Expr} {t t' : TO} (h : PO X e t) (i : ∀ σ H Q, t' σ H Q → t σ H Q) : PO X e t' := ⟨fun pins s σ H Q I hq => h.run pins s σ H Q I (i σ H Q hq)⟩
theorem so_no : SO X T W none oNo := ⟨fun _ => PO.imp po_none fun σ H Q ⟨G, c, S, ρ, w, sr, o⟩ => o _ G H c w (Le.refl _ _ _) rfl⟩
theorem so_of (h : SE X T W e m) : SO X T W (some e) (oOf m) := by
  refine ⟨fun hK => PO.imp (po_some (h.pe hK)) fun σ H Q h => ?_⟩
  obtain ⟨G, c, S, ρ, w, sr, o⟩ := h
  refine ⟨G, c, S, ρ, w, sr, (Out.bind o).imp ?_⟩
  rintro x H1 ⟨G1, c1, d1, S1, w1, l1, r1, o1⟩
  cases d1 with
  | int i =>
    obtain rfl := inv_int r1
    exact ⟨i, rfl, o1 _ G1 H1 c1 w1 (Le.refl _ _ _) rfl⟩
  | _ => exact o1.elim
def eSl (m : ME) (ml mh : MO) : ME := fun ρ S => (m ρ S).bind fun d S1 => (ml ρ S1).bind fun lo S2 => (mh ρ S2).bind fun hi S3 => match gSl d lo hi with
  | some d => .ok d S3
  | none => .bad
theorem se_sl {lo hi : Option Expr} {ml mh : MO} {p2 : Pos} (he : SE X T W e m) (hl : SO X T W lo ml) (hh : SO X T W hi mh) : SE X T W (.Subscript e (.Slice lo hi none p2) pos) (eSl m ml mh) := by
  refine ⟨fun hK => PE.imp (pe_slice (sl_all hK) (he.pe hK) (hl.po hK) (hh.po hK)) fun σ H Q h => ?_⟩
  obtain ⟨G, c, S, ρ, w, sr, o⟩ := h
  refine ⟨G, c, S, ρ, w, sr, (Out.bind o).imp ?_⟩
  rintro x H1 ⟨G1, c1, d1, S1, w1, l1, r1, o1⟩
  refine ⟨G1, c1, S1, ρ, w1, sr.mono l1, (Out.bind o1).imp ?_⟩
  rintro lo' H2 ⟨G2, c2, a2, S2, w2, l2, r2, o2⟩
  obtain rfl : a2 = lo' := r2
  refine ⟨G2, c2, S2, ρ, w2, (sr.mono l1).mono l2, (Out.bind o2).imp ?_⟩
  rintro hi' H3 ⟨G3, c3, a3, S3, w3, l3, r3, o3⟩
  obtain rfl : a3 = hi' := r3
  cases q : gSl d1 a2 a3 with
  | none => rw [q] at o3; exact o3.elim
  | some d =>
    rw [q] at o3
    exact ⟨G3, c3, S3, d1, d, w3, (r1.mono l2).mono l3, q, fun v G' H' w' l' r' => o3 v G' H' c3 w' l' r'⟩

/-! ### defs -/
abbrev MF := List D → Sto → Rs D
def spM (T : Ct) (n : Nat) (m : MF) : Sp := fun vs H Q E => ∃ G c S ds, Wf T G H c S ∧ Reps T G c ds vs ∧ ds.length = n ∧ Out T (fun cls d _ H => E cls d H) [] G H c (Rep T) Q (m ds S)
/-- the module's name x is a def that means m; ps: its parameters; k: the frames that it wants; kb: how many arguments may be given by position where the others are given by name -/
structure FnM (P : Program) (w : World) (K : PySem.W.Frag) (mg : Str → Option Value) (base : Heap) (T : Ct) (k : Nat) (x : Str) (ps : List Str) (kb : List Nat) (m : MF) : Prop where
  ex : ∃ fd, FnOk P w K mg base (L2.CX P w) k (T.fa x) fd ps (spM T ps.length m) ∧ mg x = some (.ref (T.fa x)) ∧ PySem.W.keepIn K (.ref (T.fa x)) = true ∧ Binds K fd ps [] ∧
    (∀ n ∈ kb, ∀ (s : Shared) (us ws : List Value), us.length = n → (us ++ ws).length = ps.length → BindsTo s fd ⟨us, (ps.drop n).zip ws⟩ (ps.zip (us ++ ws)))
abbrev XFn (X : Cx) (T : Ct) (k : Nat) (x : Str) (ps : List Str) (kb : List Nat) (m : MF) : Prop := FnM X.prog X.w X.K X.mg X.base T k x ps kb m
def eCall (n : Nat) (m : MF) (ma : MA) : ME := fun ρ S => (ma ρ S).bind fun ds S1 => if ds.length = n then m ds S1 else .bad
theorem FnM.mono {P : Program} {w : World} {K : PySem.W.Frag} {mg : Str → Option Value} {base : Heap} {k j : Nat} {ps : List Str} {kb : List Nat} {mf : MF} (F : FnM P w K mg base T k x ps kb mf) (h : k ≤ j) : FnM P w K mg base T j x ps kb mf := by
  obtain ⟨fd, h1, h2⟩ := F.ex
  exact ⟨fd, h1.mono h, h2⟩
theorem Out.slots {α β : Type} {W W' : WX} {σ σ' : L2.St} {G H : Hp} {c : List Addr} {R : Hp → List Addr → α → β → Prop} {Q : β → Hp → Prop} {r : Rs α} (h : Out T W σ G H c R Q r) (i : ∀ cls d H, W cls d σ H → W' cls d σ' H) : Out T W' σ' G H c R Q r := by
  cases r with
  | ok a S => exact h
  | exc C f S => exact fun e G2 H2 c2 w l2 rv => i _ _ _ (h e G2 H2 c2 w l2 rv)
  | bad => exact h
theorem call_sp {n : Nat} {mf : MF} {σ : L2.St} {G H : Hp} {c : List Addr} {S : Sto} {ds : List D} {vs : List V} {Q : VK} (w : Wf T G H c S) (r : Reps T G c ds vs) (o : Out T W σ G H c (Rep T) Q (if ds.length = n then mf ds S else .bad)) : spM T n mf vs H Q (WE W σ) := by
  by_cases hn : ds.length = n
  · rw [if_pos hn] at o
    exact ⟨G, c, S, ds, w, r, hn, o.slots fun _ _ _ h => h⟩
  · rw [if_neg hn] at o
    exact o.elim
theorem call_read {n : Nat} {mf : MF} {σ : L2.St} {H : Hp} {Q : VK} (h : tE T W (eCall n mf ma) σ H Q) : tCallS (spM T n mf) (WE W) (tA T W ma) σ H Q := by
  obtain ⟨G, c, S, ρ, w, sr, o⟩ := h
  refine ⟨G, c, S, ρ, w, sr, (Out.bind o).imp ?_⟩
  rintro xs H1 ⟨G1, c1, ds, S1, w1, l1, r1, o1⟩
  exact call_sp w1 r1 o1
theorem se_call {k j : Nat} {ps : List Str} {kb : List Nat} {mf : MF} (F : XFn X T k x ps kb mf) (hr : Room j X.A) (hkj : k ≤ j) (tk : Takes X W) (ha : SA X T W (e :: es) ma) {nn : Nat} (hn : ps.length = nn := by rfl) (hg : Gl X x := by rfl) (hdb : (x == ("__debug__" : Str)) = false := by decide)
    (he : starEach (e :: es) X.env = (false, eval e X.env) :: starEach es X.env := by rfl) (hpl : (backTo pos (starEach es X.env)).any (·.1) = false := by rfl) : SE X T W (.Call (.Name x p) (e :: es) [] pos) (eCall nn mf ma) := by
  subst hn
  obtain ⟨fd, h1, h2, h3, h4, _⟩ := F.ex
  exact ⟨fun hK => PE.imp (pe_callS (E := WE W) h1 (hr.mono hkj) hg h2 h3 h4 (fun σ => passAt tk σ) (ha.pa hK) hdb he hpl) fun _ _ _ h => call_read h⟩
/-- f() -/
theorem se_call0 {k j : Nat} {ps : List Str} {kb : List Nat} {mf : MF} (F : XFn X T k x ps kb mf) (hr : Room j X.A) (hkj : k ≤ j) (tk : Takes X W) {nn : Nat} (hn : ps.length = nn := by rfl) (hg : Gl X x := by rfl) (hdb : (x == ("__debug__" : Str)) = false := by decide) : SE X T W (.Call (.Name x p) [] [] pos) (eCall nn mf aNil) := by
  subst hn
  obtain ⟨fd, h1, h2, h3, h4, _⟩ := F.ex
  refine ⟨fun hK => ⟨fun pins s σ H Q I h => ?_⟩⟩
  obtain ⟨G, c, S, ρ, w, sr, o⟩ := h
  refine wpAny_Call_Name_kw (ld_glob I hg h2 ?_ hdb)
  exact PySem.W.callWith_K0 I.kIn h3 (run_fnS (E := WE W) (us := []) h1 (hr.mono hkj) h4 (passAt tk σ) I .nil (call_sp w Reps.nil o))
/-! ### keywords -/
structure SK (X : Cx) (T : Ct) (W : WX) (es : List Keyword) (m : MA) : Prop where
  pk : X.K = T.K → PK X es (tA T W m)
theorem PK.imp {e : List Keyword} {t t' : TA} (h : PK X e t) (i : ∀ σ H Q, t' σ H Q → t σ H Q) : PK X e t' := ⟨fun pos pins s σ H Q I hq => h.run pos pins s σ H Q I (i σ H Q hq)⟩
theorem sk_nil : SK X T W [] aNil := by
  refine ⟨fun hK => PK.imp pk_nil fun σ H Q h => ?_⟩
  obtain ⟨G, c, S, ρ, w, sr, o⟩ := h
  exact o _ G H c w (Le.refl _ _ _) Reps.nil
theorem sk_cons {kws : List Keyword} {nm : Option Str} {kpos : Pos} (ha : SE X T W e m) (hr : SK X T W kws ma) : SK X T W (⟨nm, e, kpos⟩ :: kws) (aCons m ma) := by
  refine ⟨fun hK => PK.imp (pk_cons (ha.pe hK) (hr.pk hK)) fun σ H Q h => ?_⟩
  obtain ⟨G, c, S, ρ, w, sr, o⟩ := h
  refine ⟨G, c, S, ρ, w, sr, (Out.bind o).imp ?_⟩
  rintro x H1 ⟨G1, c1, d1, S1, w1, l1, r1, o1⟩
  refine ⟨G1, c1, S1, ρ, w1, sr.mono l1, (Out.bind o1).imp ?_⟩
  rintro xs H2 ⟨G2, c2, ds, S2, w2, l2, r2, o2⟩
  exact o2 _ G2 H2 c2 w2 (Le.refl _ _ _) (Reps.cons (r1.mono l2) r2)
theorem run_kw {k j n : Nat} {ps : List Str} {kb : List Nat} {fd : FuncData} {mf : MF} {pins : List (Addr × Obj)} {σ : L2.St} {G H : Hp} {c : List Addr} {s : Shared} {Q : VK} {S : Sto} {us ws : List Value} {ds es : List D} {vs zs : List V} (F : FnOk X.prog X.w X.K X.mg X.base (L2.CX X.prog X.w) k (T.fa x) fd ps (spM T ps.length mf)) (hr : Room j X.A) (hkj : k ≤ j)
    (hb : ∀ n ∈ kb, ∀ (s : Shared) (us ws : List Value), us.length = n → (us ++ ws).length = ps.length → BindsTo s fd ⟨us, (ps.drop n).zip ws⟩ (ps.zip (us ++ ws))) (hn : n ∈ kb) (tk : Takes X W) (I : Inv X pins σ H s) (r : Vals vs us) (rz : Vals zs ws) (hun : us.length = n) (w : Wf T G H c S) (rr : Reps T G c (ds ++ es) (vs ++ zs))
    (o : Out T W σ G H c (Rep T) Q (if (ds ++ es).length = ps.length then mf (ds ++ es) S else .bad)) : wpAny (model X.prog X.w) X.A (call (.ref (T.fa x)) us ((ps.drop n).zip ws)) (EP X pins σ Q) X.xe s := by
  have r2 : Vals (vs ++ zs) (us ++ ws) := r.append rz
  have h := call_sp w rr o
  have hl : (us ++ ws).length = ps.length := by rw [← r2.length]; exact F.len _ _ _ _ h
  refine wpAny_call (codeAny_mono (F.run X.A X.stack s H ⟨us, (ps.drop n).zip ws⟩ (us ++ ws) (vs ++ zs) Q (WE W σ) (hr.mono hkj) I.env0 (hb n hn s us ws hun hl) r2 h) fun r s' hq => ?_)
  cases r with
  | error e => exact passAt tk σ pins H s e s' I hq
  | ok fl =>
    cases fl with
    | ret u => exact I.after hq
    | next => exact False.elim hq
    | brk => exact False.elim hq
    | cont => exact False.elim hq
def eCallK (np n : Nat) (m : MF) (ma mk : MA) : ME := fun ρ S => (ma ρ S).bind fun ds S1 => (mk ρ S1).bind fun es S2 => if ds.length = np then (if (ds ++ es).length = n then m (ds ++ es) S2 else .bad) else .bad
/-- f(.., a = e, ..), the names in the parameters' order -/
theorem se_callK {mk : MA} {kws : List Keyword} {k j : Nat} {ps : List Str} {kb : List Nat} {mf : MF} (n : Nat) (F : XFn X T k x ps kb mf) (hr : Room j X.A) (hkj : k ≤ j) (tk : Takes X W) (hn : n ∈ kb) (ha : SA X T W (e :: es) ma) (hk : SK X T W kws mk) {nn : Nat} (hnn : ps.length = nn := by rfl) (hg : Gl X x := by rfl)
    (hall : (backToKw pos (keywordEach kws X.env)).all (·.1.isSome) = true := by rfl) (hks : (backToKw pos (keywordEach kws X.env)).filterMap (·.1) = ps.drop n := by rfl)
    (hdb : (x == ("__debug__" : Str)) = false := by decide) (he : starEach (e :: es) X.env = (false, eval e X.env) :: starEach es X.env := by rfl)
    (hpl : ((backTo pos (starEach (e :: es) X.env)).any (·.1) || (backToKw pos (keywordEach kws X.env)).any (·.1.isNone)) = false := by rfl) : SE X T W (.Call (.Name x p) (e :: es) kws pos) (eCallK n nn mf ma mk) := by
  subst hnn
  obtain ⟨fd, h1, h2, h3, h4, h5⟩ := F.ex
  refine ⟨fun hK => ⟨fun pins s σ H Q I h => ?_⟩⟩
  obtain ⟨G, c, S, ρ, w, sr, o⟩ := h
  refine wpAny_Call_Name_kw (ld_glob I hg h2 ?_ hdb)
  refine PySem.W.callWith_KW (h₀ := X.base) I.ok.mod.kin h3 hall (thn ((ha.pa hK).run pos pins s σ H _ I ⟨G, c, S, ρ, w, sr, Out.bind o⟩) fun us s1 ⟨vs, H1, I1, r, q⟩ => ?_) hpl he
  obtain ⟨G1, c1, ds, S1, w1, l1, r1, o1⟩ := q
  refine thn ((hk.pk hK).run pos pins s1 σ H1 _ I1 ⟨G1, c1, S1, ρ, w1, sr.mono l1, Out.bind o1⟩) fun ws s2 ⟨zs, H2, I2, rz, q2⟩ => ⟨I2.kIn, ?_⟩
  obtain ⟨G2, c2, es', S2, w2, l2, r2, o2⟩ := q2
  rw [hks]
  by_cases hl : ds.length = n
  · rw [if_pos hl] at o2
    exact run_kw h1 hr hkj h5 hn tk I2 r rz (by show us.length = n; rw [← r.length, ← r1.length]; exact hl) w2 ((r1.mono l2).append r2) o2
  · rw [if_neg hl] at o2
    exact o2.elim
/-- f(a = e, ..) -/
theorem se_callK0 {mk : MA} {kws : List Keyword} {k j : Nat} {ps : List Str} {kb : List Nat} {mf : MF} (F : XFn X T k x ps kb mf) (hr : Room j X.A) (hkj : k ≤ j) (tk : Takes X W) (hn : 0 ∈ kb) (hk : SK X T W kws mk) {nn : Nat} (hnn : ps.length = nn := by rfl) (hg : Gl X x := by rfl)
    (hall : (backToKw pos (keywordEach kws X.env)).all (·.1.isSome) = true := by rfl) (hks : (backToKw pos (keywordEach kws X.env)).filterMap (·.1) = ps := by rfl)
    (hdb : (x == ("__debug__" : Str)) = false := by decide)
    (hpl : ((backTo pos (starEach [] X.env)).any (·.1) || (backToKw pos (keywordEach kws X.env)).any (·.1.isNone)) = false := by rfl) : SE X T W (.Call (.Name x p) [] kws pos) (eCall nn mf mk) := by
  subst hnn
  obtain ⟨fd, h1, h2, h3, h4, h5⟩ := F.ex
  refine ⟨fun hK => ⟨fun pins s σ H Q I h => ?_⟩⟩
  obtain ⟨G, c, S, ρ, w, sr, o⟩ := h
  refine wpAny_Call_Name_kw (ld_glob I hg h2 ?_ hdb)
  refine PySem.W.callWith_KW0 (h₀ := X.base) I.ok.mod.kin h3 hall (thn ((hk.pk hK).run pos pins s σ H _ I ⟨G, c, S, ρ, w, sr, Out.bind o⟩) fun ws s2 ⟨zs, H2, I2, rz, q2⟩ => ⟨I2.kIn, ?_⟩) hpl
  obtain ⟨G2, c2, es', S2, w2, l2, r2, o2⟩ := q2
  rw [hks]
  exact run_kw (n := 0) (us := []) (vs := []) (ds := []) h1 hr hkj h5 hn tk I2 .nil rz rfl w2 r2 o2
end
end KF
end

section
namespace KF
open PySem PySem.Spec PyProof.Rows L2
/-! ### what is walked -/
/-- J walks the items, whatever is laid meanwhile -/
structure WalkD (T : Ct) (G0 : Hp) (c0 : List Addr) (items : List D) (J : It) : Prop where
  len : items.length ≤ sizeLine
  at_ : ∀ (G H : Hp) (c : List Addr) (S : Sto), Wf T G H c S → (∀ a o, G0 a = some o → G a = some o) → (∃ r, c = c0 ++ r) →
    (∀ i, i < items.length → J.go i H) ∧ J.stop items.length H ∧ ∀ i x H', i < items.length → J.yld i H x H' → ∃ G' d, Wf T G' H' c S ∧ Le G H c G' H' c ∧ items[i]? = some d ∧ Rep T G' c d x
abbrev MI := Env → Sto → Rs (List D)
def tI (T : Ct) (W : WX) (m : MI) : TI := fun σ H R => tM T W (WalkD T) m σ H R
structure SI (X : Cx) (T : Ct) (W : WX) (tg e : Expr) (m : MI) : Prop where
  pi : X.K = T.K → PI X tg e (tI T W m)
theorem PI.imp {X : Cx} {tg e : Expr} {t t' : TI} (h : PI X tg e t) (i : ∀ σ H Q, t' σ H Q → t σ H Q) : PI X tg e t' := ⟨fun pins s σ H Q I hq => h.run pins s σ H Q I (i σ H Q hq)⟩
section
variable {T : Ct} {G0 : Hp} {c0 : List Addr} {items : List D} {vs : List V} {p : Addr}
theorem reps_at {G H : Hp} {c : List Addr} {i : Nat} {x : V} (l : Reps T G c items vs) (h : vs[i]? = some x) : ∃ d, items[i]? = some d ∧ Rep T G c d x := l.getV h
theorem get_pre {c0 c : List Addr} (h : ∃ r, c = c0 ++ r) : ∀ (n : Nat) (p : Addr), c0[n]? = some p → c[n]? = some p := fun n p e => by
  obtain ⟨r, rfl⟩ := h
  rw [List.getElem?_append_left (List.getElem?_eq_some_iff.mp e).1]
  exact e
theorem walkD_list {K : PySem.W.Frag} (hK : K = T.K) (hz : items.length ≤ sizeLine) (hl : SqL T.K G0 p vs) (r : Reps T G0 c0 items vs) : WalkD T G0 c0 items (Itl K p) := by
  subst hK
  refine ⟨hz, fun G H c S w g hc => ?_⟩
  have hH : SqL T.K H p vs := sqL_mono (fun a o e => w.sub a o (g a o e)) hl
  have r' : Reps T G c items vs := Reps.mono0 g (get_pre hc) items vs r
  refine ⟨fun i hi => ?_, ⟨vs, hH, Nat.le_of_eq r.length.symm⟩, fun i x H' hi hy => ?_⟩
  · have hv : i < vs.length := by rw [← r.length]; exact hi
    exact ⟨vs, vs[i], hH, List.getElem?_eq_getElem hv⟩
  · obtain ⟨rfl, hx⟩ := hy
    obtain ⟨d, e1, e2⟩ := reps_at (H := H') r' (hx vs hH)
    exact ⟨G, d, w, Le.refl _ _ _, e1, e2⟩
theorem walkD_tup {K : PySem.W.Frag} (hK : K = T.K) (hz : items.length ≤ sizeLine) (hl : SqT T.K G0 p vs) (r : Reps T G0 c0 items vs) : WalkD T G0 c0 items (Itt K p) := by
  subst hK
  refine ⟨hz, fun G H c S w g hc => ?_⟩
  have hH : SqT T.K H p vs := sqT_mono (fun a o e => w.sub a o (g a o e)) hl
  have r' : Reps T G c items vs := Reps.mono0 g (get_pre hc) items vs r
  refine ⟨fun i hi => ?_, ⟨vs, hH, Nat.le_of_eq r.length.symm⟩, fun i x H' hi hy => ?_⟩
  · have hv : i < vs.length := by rw [← r.length]; exact hi
    exact ⟨vs, vs[i], hH, List.getElem?_eq_getElem hv⟩
  · obtain ⟨rfl, hx⟩ := hy
    obtain ⟨d, e1, e2⟩ := reps_at (H := H') r' (hx vs hH)
    exact ⟨G, d, w, Le.refl _ _ _, e1, e2⟩
def rangeD (lo : Int) (n : Nat) : List D := (List.range n).map fun (i : Nat) => D.int (lo + (i : Int))
theorem rangeD_len (lo : Int) (n : Nat) : (rangeD lo n).length = n := by unfold rangeD; rw [List.length_map, List.length_range]
theorem rangeD_at {lo : Int} {n i : Nat} (h : i < n) : (rangeD lo n)[i]? = some (.int (lo + (i : Int))) := by
  unfold rangeD
  rw [List.getElem?_map, List.getElem?_range h]
  rfl
theorem walkD_range {lo : Int} {n : Nat} (hz : n ≤ sizeLine) : WalkD T G0 c0 (rangeD lo n) (Itr lo n) := by
  refine ⟨by rw [rangeD_len]; exact hz, fun G H c S w g hc => ⟨fun i hi => ?_, ?_, fun i x H' hi hy => ?_⟩⟩
  · rw [rangeD_len] at hi; exact hi
  · rw [rangeD_len]; exact Nat.le_refl _
  · rw [rangeD_len] at hi
    obtain ⟨rfl, rfl⟩ := hy
    exact ⟨G, _, w, Le.refl _ _ _, rangeD_at hi, rep_int⟩
end
section
variable {X : Cx} {T : Ct} {W : WX} {tg e e2 : Expr} {es : List Expr} {m m1 m2 : ME} {ma : MA} {x : Str} {p pos : Pos}
/-- a list, frozen; a tuple -/
def iSeq (m : ME) : MI := fun ρ S => (m ρ S).bind fun d S1 => match d with
  | .lst xs => .ok xs S1
  | .tup xs => .ok xs S1
  | .scr xs => .ok xs S1
  | _ => .bad
/-- the source of a for, whatever its kind -/
theorem pi_or {t t' : TI} (hl : PI X tg e t) (ht : PI X tg e t') : True := trivial
def iAny (K : PySem.W.Frag) (tl : TE) : TI := fun σ H R => tl σ H fun x H1 => ∃ a, x = .ref a ∧ ((∃ xs, SqL K H1 a xs ∧ R (Itl K a) H1) ∨ (∃ xs, SqT K H1 a xs ∧ R (Itt K a) H1))
theorem pi_any {l : Expr} {tl : TE} (hl : PE X l tl) : PI X tg l (iAny X.K tl) := by
  refine ⟨fun pins s σ H R I h => ?_⟩
  refine thn (hl.run pins s σ H _ I h) fun v s1 ⟨x, H1, I1, r1, q1⟩ => ?_
  obtain ⟨a, e, q⟩ := q1
  subst e
  cases r1
  rcases q with ⟨xs, hq, q⟩ | ⟨xs, hq, q⟩
  · obtain ⟨its, rv, p, hz⟩ := I1.list hq
    refine wpAny_pyIter_list p.isList ?_
    refine ⟨s1.heap.objs.size, [s1.heap.objs.size], _, _, H1, rfl, I1.kept (t' := s1.toks) fun b o e => Heap.get?_push_of_some _ e, turn_list a _, ⟨_, Heap.get?_push_size _ rfl, rfl, rfl⟩, fun b hb => ?_, q⟩
    have e : b = s1.heap.objs.size := by simpa using hb
    subst e
    exact I1.fpOk (Nat.le_refl _) (I1.hok.fresh (Nat.le_refl _))
  · obtain ⟨its, rv, p, hz⟩ := I1.tuple hq
    refine wpAny_pyIter_tuple (show s1.heap.IsTuple a its.toArray from p) ?_
    refine ⟨s1.heap.objs.size, [s1.heap.objs.size], _, _, H1, rfl, I1.kept (t' := s1.toks) fun b o e => Heap.get?_push_of_some _ e, turn_tuple a _, ⟨_, Heap.get?_push_size _ rfl, rfl, rfl⟩, fun b hb => ?_, q⟩
    have e : b = s1.heap.objs.size := by simpa using hb
    subst e
    exact I1.fpOk (Nat.le_refl _) (I1.hok.fresh (Nat.le_refl _))
theorem si_seq (h : SE X T W e m) : SI X T W tg e (iSeq m) := by
  refine ⟨fun hK => PI.imp (pi_any (h.pe hK)) fun σ H R h => ?_⟩
  obtain ⟨G, c, S, ρ, w, sr, o⟩ := h
  refine ⟨G, c, S, ρ, w, sr, (Out.bind o).imp ?_⟩
  rintro x H1 ⟨G1, c1, d1, S1, w1, l1, r1, o1⟩
  cases d1 with
  | lst xs =>
    obtain ⟨z, a, vs, rfl, s1, t⟩ := inv_lst r1
    refine ⟨a, rfl, .inl ⟨vs, SqL.of (w1.sub _ _ s1), o1 _ G1 H1 c1 w1 (Le.refl _ _ _) (walkD_list hK z (SqL.of s1) t)⟩⟩
  | scr xs =>
    obtain ⟨z, a, vs, rfl, s1, t⟩ := inv_scr r1
    refine ⟨a, rfl, .inl ⟨vs, by rw [hK]; exact sqL_mono w1.sub s1, o1 _ G1 H1 c1 w1 (Le.refl _ _ _) (walkD_list hK z s1 t)⟩⟩
  | tup xs =>
    obtain ⟨z, a, vs, rfl, s1, t⟩ := inv_tup r1
    refine ⟨a, rfl, .inr ⟨vs, by rw [hK]; exact sqT_mono w1.sub s1, o1 _ G1 H1 c1 w1 (Le.refl _ _ _) (walkD_tup hK z s1 t)⟩⟩
  | _ => exact o1.elim
def rngOk (lo hi : Int) : Prop := -(2 ^ 62) ≤ lo ∧ lo < 2 ^ 62 ∧ -(2 ^ 62) ≤ hi ∧ hi < 2 ^ 62 ∧ (hi - lo).toNat ≤ 20000
noncomputable instance (lo hi : Int) : Decidable (rngOk lo hi) := Classical.propDecidable _
theorem tenk : (10000 : Nat) ≤ sizeLine := by decide
theorem twk : (20000 : Nat) ≤ sizeLine := by decide
/-- range(b), range(a, b) -/
noncomputable def iRange1 (ma : MA) : MI := fun ρ S => (ma ρ S).bind fun ds S1 => match ds with
  | [.int b] => if rngOk 0 b then .ok (rangeD 0 b.toNat) S1 else .bad
  | _ => .bad
noncomputable def iRange2 (ma : MA) : MI := fun ρ S => (ma ρ S).bind fun ds S1 => match ds with
  | [.int a, .int b] => if rngOk a b then .ok (rangeD a (b - a).toNat) S1 else .bad
  | _ => .bad
theorem si_range1 (ha : SA X T W [e] ma) (hm : X.mg "range" = none) (hg : Gl X "range" := by rfl) (hs : starEach [e] X.env = [(false, eval e X.env)] := by rfl) : SI X T W tg (.Call (.Name "range" p) [e] [] pos) (iRange1 ma) := by
  refine ⟨fun hK => PI.imp (pi_range1 hg hm (ha.pa hK) hs) fun σ H R h => ?_⟩
  obtain ⟨G, c, S, ρ, w, sr, o⟩ := h
  refine ⟨G, c, S, ρ, w, sr, (Out.bind o).imp ?_⟩
  rintro x H1 ⟨G1, c1, ds, S1, w1, l1, r1, o1⟩
  split at o1
  · next b =>
    split at o1
    · next hz =>
      obtain ⟨v, us, rfl, k1, r2⟩ := r1.cons_inv
      obtain rfl := r2.nil_inv
      obtain rfl := inv_int k1
      obtain ⟨h1, h2, h3, h4, h5⟩ := hz
      refine ⟨b, rfl, h3, h4, o1 _ G1 H1 c1 w1 (Le.refl _ _ _) (walkD_range ?_)⟩
      have := twk
      omega
    · exact o1.elim
  · exact o1.elim
theorem si_range2 (ha : SA X T W [e, e2] ma) (hm : X.mg "range" = none) (hg : Gl X "range" := by rfl) (hs : starEach [e, e2] X.env = [(false, eval e X.env), (false, eval e2 X.env)] := by rfl) (hs2 : starEach [e2] X.env = [(false, eval e2 X.env)] := by rfl) :
    SI X T W tg (.Call (.Name "range" p) [e, e2] [] pos) (iRange2 ma) := by
  refine ⟨fun hK => PI.imp (pi_range2 hg hm (ha.pa hK) hs hs2) fun σ H R h => ?_⟩
  obtain ⟨G, c, S, ρ, w, sr, o⟩ := h
  refine ⟨G, c, S, ρ, w, sr, (Out.bind o).imp ?_⟩
  rintro x H1 ⟨G1, c1, ds, S1, w1, l1, r1, o1⟩
  split at o1
  · next a b =>
    split at o1
    · next hz =>
      obtain ⟨v, us, rfl, k1, r2⟩ := r1.cons_inv
      obtain ⟨v', us', rfl, r3, r4⟩ := r2.cons_inv
      obtain rfl := r4.nil_inv
      obtain rfl := inv_int k1
      obtain rfl := inv_int r3
      obtain ⟨h1, h2, h3, h4, h5⟩ := hz
      refine ⟨a, b, rfl, ⟨h1, h2, h3, h4⟩, o1 _ G1 H1 c1 w1 (Le.refl _ _ _) (walkD_range ?_)⟩
      have := twk
      omega
    · exact o1.elim
  · exact o1.elim

/-! ### targets -/
abbrev MG := D → Env → Option Env
/-- the slots but tv are as they were -/
def Agr (tv : List Nat) (σ σ' : L2.St) : Prop := σ'.length = σ.length ∧ ∀ k, k ∉ tv → σ'[k]? = σ[k]?
theorem Agr.refl (σ : L2.St) : Agr [] σ σ := ⟨rfl, fun _ _ => rfl⟩
theorem Agr.trans {t1 t2 : List Nat} {σ σ1 σ2 : L2.St} (a : Agr t1 σ σ1) (b : Agr t2 σ1 σ2) : Agr (t1 ++ t2) σ σ2 :=
  ⟨b.1.trans a.1, fun k hk => (b.2 k fun h => hk (List.mem_append_right _ h)).trans (a.2 k fun h => hk (List.mem_append_left _ h))⟩
theorem Agr.set (σ : L2.St) (i : Nat) (v : Option V) : Agr [i] σ (σ.set i v) := ⟨List.length_set, fun k hk => List.getElem?_set_ne fun e => hk (by simp [e])⟩
def tG (T : Ct) (tv : List Nat) (m : MG) : TG := fun v σ H Q => ∃ G c S ρ d ρ', Wf T G H c S ∧ SR T G H c ρ σ ∧ Rep T G c d v ∧ m d ρ = some ρ' ∧ ∀ σ', SR T G H c ρ' σ' → Agr tv σ σ' → Q σ' H
structure SG (X : Cx) (T : Ct) (tg : Expr) (tv : List Nat) (m : MG) : Prop where
  pg : X.K = T.K → PG X tg (tG T tv m)
theorem PG.imp {t t' : TG} (h : PG X tg t) (i : ∀ v σ H Q, t' v σ H Q → t v σ H Q) : PG X tg t' := ⟨fun pins s σ H v u Q I r hq => h.run pins s σ H v u Q I r (i v σ H Q hq)⟩
def gVar (i : Nat) : MG := fun d ρ => some (ρ.set i (.val d))
theorem sg_var (i : Nat) {y : Str} (hN : X.N.Nodup) (hi : X.N[i]? = some y := by rfl) (hx : Loc X.env.scope y := by first | exact Or.inl rfl | exact Or.inr rfl) (hf : X.fn y = true ∨ X.env.scope.names.lookup y = some .local := by first | exact .inl rfl | exact .inr rfl) : SG X T (.Name y pos) [i] (gVar i) := by
  refine ⟨fun hK => PG.imp (pg_name hN hi hx hf) fun v σ H Q h => ?_⟩
  obtain ⟨G, c, S, ρ, d, ρ', w, sr, r, e, q⟩ := h
  cases e
  exact q _ (sr.set r) (Agr.set _ _ _)
abbrev MGs := List D → Env → Option Env
def tGs (T : Ct) (tv : List Nat) (m : MGs) : TGs := fun vs σ H Q => ∃ G c S ρ ds ρ', Wf T G H c S ∧ SR T G H c ρ σ ∧ Reps T G c ds vs ∧ m ds ρ = some ρ' ∧ ∀ σ', SR T G H c ρ' σ' → Agr tv σ σ' → Q σ' H
structure SGs (X : Cx) (T : Ct) (tg : List Expr) (tv : List Nat) (m : MGs) : Prop where
  pgs : X.K = T.K → PGs X tg (tGs T tv m)
theorem PGs.imp {ts : List Expr} {t t' : TGs} (h : PGs X ts t) (i : ∀ v σ H Q, t' v σ H Q → t v σ H Q) : PGs X ts t' := ⟨fun pins s σ H v u Q I r hq => h.run pins s σ H v u Q I r (i v σ H Q hq)⟩
def gsNil : MGs := fun ds ρ => match ds with
  | [] => some ρ
  | _ => none
def gsCons (m : MG) (ms : MGs) : MGs := fun ds ρ => match ds with
  | d :: r => (m d ρ).bind fun ρ' => ms r ρ'
  | [] => none
theorem sgs_nil : SGs X T [] [] gsNil := by
  refine ⟨fun hK => PGs.imp pgs_nil fun v σ H Q h => ?_⟩
  obtain ⟨G, c, S, ρ, ds, ρ', w, sr, r, e, q⟩ := h
  cases ds with
  | nil => cases e; exact ⟨r.nil_inv, q _ sr (Agr.refl _)⟩
  | cons d r => cases e
theorem sgs_cons {ts : List Expr} {m : MG} {ms : MGs} {t1 t2 : List Nat} (h1 : SG X T e t1 m) (h2 : SGs X T ts t2 ms) (hs : (assignEach (e :: ts) X.env).map (·.2) = assign e X.env :: (assignEach ts X.env).map (·.2) := by rfl) : SGs X T (e :: ts) (t1 ++ t2) (gsCons m ms) := by
  refine ⟨fun hK => PGs.imp (pgs_cons (h1.pg hK) (h2.pgs hK) hs) fun v σ H Q h => ?_⟩
  obtain ⟨G, c, S, ρ, ds, ρ', w, sr, r, e, q⟩ := h
  cases ds with
  | nil => cases e
  | cons d ds =>
    obtain ⟨v1, vr, rfl, r1, r2⟩ := r.cons_inv
    unfold gsCons at e
    cases q1 : m d ρ with
    | none => simp only [q1] at e; cases e
    | some ρ1 =>
      simp only [q1] at e
      exact ⟨v1, vr, rfl, G, c, S, ρ, d, ρ1, w, sr, r1, q1, fun σ' sr' ag => ⟨G, c, S, ρ1, ds, ρ', w, sr', r2, e, fun σ2 sr2 ag2 => q σ2 sr2 (ag.trans ag2)⟩⟩
def gTupM (n : Nat) (ms : MGs) : MG := fun d ρ => match d with
  | .tup xs => if xs.length = n then ms xs ρ else none
  | _ => none
theorem sg_tup {ts : List Expr} {k : Nat} {ms : MGs} {n : Nat} {tv : List Nat} (hc : X.calm = true) (h : SGs X T ts tv ms) (hn : (assignEach ts X.env).length = n := by rfl) (hst : (assignEach ts X.env).findIdx? (·.1) = none := by rfl) : SG X T (.Tuple ts k pos) tv (gTupM n ms) := by
  refine ⟨fun hK => PG.imp (pg_tup hc (h.pgs hK) hn hst) fun v σ H Q h => ?_⟩
  obtain ⟨G, c, S, ρ, d, ρ', w, sr, r, e, q⟩ := h
  cases d with
  | tup xs =>
    have e0 : (if xs.length = n then ms xs ρ else none) = some ρ' := e
    split at e0
    · next hz =>
      obtain ⟨_, a, vs, rfl, s1, t⟩ := inv_tup r
      exact ⟨a, vs, rfl, by rw [hK]; exact sqT_mono w.sub s1, by rw [← t.length]; exact hz, G, c, S, ρ, xs, ρ', w, sr, t, e0, q⟩
    · cases e0
  | _ => cases e
end
end KF
end

section
namespace KF
open PySem PySem.Spec PyProof.Rows L2
/-! ### list comprehensions of one for -/
def wipeE (ρ : Env) : List Nat → Env
  | [] => ρ
  | v :: vs => (wipeE ρ vs).set v .un
theorem wipe_SR {T : Ct} {G H : Hp} {c : List Addr} {ρ : Env} {σ : L2.St} (r : SR T G H c ρ σ) : ∀ vs : List Nat, SR T G H c (wipeE ρ vs) (wipe σ vs)
  | [] => r
  | v :: vs => (wipe_SR r vs).unset
/-- the tests behind a for: true, or one -/
def cYes : ME := fun _ S => .ok (.bl true) S
def lcLoop (mg : MG) (mt me : ME) (ρ0 : Env) : List D → List D → Sto → Rs (List D)
  | [], acc, S => .ok acc S
  | x :: xs, acc, S => match mg x ρ0 with
    | some ρ1 => (mt ρ1 S).bind fun b S1 => match b with
      | .bl true => (me ρ1 S1).bind fun y S2 => lcLoop mg mt me ρ0 xs (acc ++ [y]) S2
      | .bl false => lcLoop mg mt me ρ0 xs acc S1
      | _ => .bad
    | none => .bad
def noX {α : Type} : Rs α → Rs α
  | .exc _ _ _ => .bad
  | r => r
def eLC (vs : List Nat) (mi : MI) (mg : MG) (mt me : ME) : MA := fun ρ S => (mi ρ S).bind fun items S1 => noX (lcLoop mg mt me (wipeE ρ vs) items [] S1)
abbrev W0 : WX := fun _ _ _ _ => False
section
variable {X : Cx} {T : Ct} {W : WX}
theorem noX_ok {α : Type} {r : Rs α} {a : α} {S : Sto} (h : noX r = .ok a S) : r = .ok a S := by
  cases r with
  | ok a' S' => exact h
  | exc C f S' => cases h
  | bad => exact h
theorem bind_ok {α β : Type} {r : Rs α} {k : α → Sto → Rs β} {b : β} {S : Sto} (h : r.bind k = .ok b S) : ∃ a S1, r = .ok a S1 ∧ k a S1 = .ok b S := by
  cases r with
  | ok a S1 => exact ⟨a, S1, rfl, h⟩
  | exc C f S1 => cases h
  | bad => cases h
theorem lcLoop_len {mg : MG} {mt me : ME} {ρ0 : Env} : ∀ {xs acc : List D} {S : Sto} {ys : List D} {S' : Sto}, lcLoop mg mt me ρ0 xs acc S = .ok ys S' → ys.length ≤ acc.length + xs.length
  | [], acc, S, ys, S', h => by
    unfold lcLoop at h
    cases h
    exact Nat.le_refl _
  | x :: xs, acc, S, ys, S', h => by
    unfold lcLoop at h
    cases q : mg x ρ0 with
    | none => rw [q] at h; cases h
    | some ρ1 =>
      rw [q] at h
      obtain ⟨b, S1, e1, h⟩ := bind_ok h
      cases b with
      | bl b =>
        cases b with
        | true =>
          obtain ⟨y, S2, e2, h⟩ := bind_ok h
          have := lcLoop_len h
          rw [List.length_append] at this
          rw [List.length_cons]
          have h1 : [y].length = 1 := rfl
          omega
        | false =>
          have := lcLoop_len h
          rw [List.length_cons]
          omega
      | _ => cases h
theorem wipe_at {σ : L2.St} : ∀ {vs : List Nat} {i : Nat}, i ∈ vs → i < σ.length → (wipe σ vs)[i]? = some none
  | v :: vs, i, h, hi => by
    unfold wipe
    by_cases e : v = i
    · subst e
      rw [List.getElem?_set_self (by rw [wipe_length]; exact hi)]
    · rw [List.getElem?_set_ne e]
      rcases List.mem_cons.mp h with h | h
      · exact absurd h.symm e
      · exact wipe_at h hi
theorem wipe_agr {σ σ' : L2.St} {tv vs : List Nat} (a : Agr tv (wipe σ vs) σ') (h : ∀ k ∈ tv, k ∈ vs) : wipe σ' vs = wipe σ vs := by
  apply List.ext_getElem?
  intro k
  have hl : σ'.length = σ.length := by rw [a.1, wipe_length]
  by_cases hk : k ∈ vs
  · by_cases hi : k < σ.length
    · rw [wipe_at hk (by rw [hl]; exact hi), wipe_at hk hi]
    · rw [List.getElem?_eq_none (by rw [wipe_length]; omega), List.getElem?_eq_none (by rw [wipe_length]; omega)]
  · rw [wipe_out hk, a.2 k (fun h' => hk (h k h'))]
theorem Le.fresh {G H G' H' : Hp} {c c' : List Addr} (l : Le G H c G' H' c') {p : Addr} {o : HO} (hp : H p = none) : Le G H c G' (upd H' p o) c' := by
  refine ⟨l.g, l.cc, fun a u h1 h2 h3 => ?_, fun a h => l.dom a (upd_dom h)⟩
  obtain ⟨k1, k2, k3⟩ := l.fr a u h1 h2 h3
  have : a ≠ p := ne_of_none h1 hp
  exact ⟨by rw [upd_ne this]; exact k1, k2, k3⟩
/-- the walk of it, for the rules of the layer -/
theorem WalkD.walk {G1 : Hp} {c1 : List Addr} {items : List D} {J : It} (wk : WalkD T G1 c1 items J) : Walk J items.length (fun H => ∃ G c S, Wf T G H c S ∧ (∀ a o, G1 a = some o → G a = some o) ∧ ∃ r, c = c1 ++ r)
    (fun i H x H' => ∀ G c S, Wf T G H c S → (∀ a o, G1 a = some o → G a = some o) → (∃ r, c = c1 ++ r) → ∃ G' d, Wf T G' H' c S ∧ Le G H c G' H' c ∧ items[i]? = some d ∧ Rep T G' c d x) where
  goes := fun i H hi ⟨G, c, S, w, g, hc⟩ => (wk.at_ G H c S w g hc).1 i hi
  stops := fun H ⟨G, c, S, w, g, hc⟩ => (wk.at_ G H c S w g hc).2.1
  yields := fun i H x H' hi _ hy G c S w g hc => (wk.at_ G H c S w g hc).2.2 i x H' hi hy
/-- the reading of a comprehension, from its meaning -/
theorem lc_read {mi : MI} {mg : MG} {mt me : ME} {vs tv : List Nat} (htv : ∀ k ∈ tv, k ∈ vs) {σ : L2.St} {H : Hp} {Q : VK} (h : tN T W (eLC vs mi mg mt me) σ H Q) :
    tLc (tI T W mi) (tG T tv mg) (tB (tE T W0 mt)) (tE T W0 me) vs σ H Q := by
  obtain ⟨G, c, S, ρ, w, sr, o⟩ := h
  refine ⟨G, c, S, ρ, w, sr, (OutN.bind o).imp ?_⟩
  rintro J H1 ⟨G1, c1, items, S1, w1, l1, wk, o1⟩
  intro D hD
  have srw : SR T G1 H1 c1 (wipeE ρ vs) (wipe σ vs) := wipe_SR (sr.mono l1) vs
  cases q : lcLoop mg mt me (wipeE ρ vs) items [] S1 with
  | exc C f S' => rw [q] at o1; exact o1.elim
  | bad => rw [q] at o1; exact o1.elim
  | ok ys S' =>
    rw [q] at o1
    have o2 : RNew T G H c Q ys S' := o1
    have hlen := lcLoop_len q
    have hz := wk.len
    obtain ⟨w2, l2⟩ := w1.laidN (o := .lst []) hD
    refine lc_it wk.walk (fun i H => ∃ G c S acc ws, Wf T G H c S ∧ Le G1 H1 c1 G H c ∧ H D = some (.lst ws) ∧ G D = none ∧ D ∉ c ∧ Reps T G c acc ws ∧ acc.length ≤ i ∧ i ≤ items.length ∧ lcLoop mg mt me (wipeE ρ vs) (items.drop i) acc S = .ok ys S') ?_ ?_ ?_ ?_
    · exact ⟨G1, c1, S1, [], [], w2, l2, upd_same, w1.inH hD, w1.cN hD, Reps.nil, Nat.le_refl _, Nat.zero_le _, q⟩
    · rintro i H' _ ⟨G', c', S2, acc, ws, w', l', _⟩
      exact ⟨G', c', S2, w', l'.g, l'.cc⟩
    · rintro i x H2 H3 hi ⟨G2, c2, S2, acc, ws, w2', l2', d1, d2, d3, d4, d5, d6, d7⟩ hy
      obtain ⟨G3, d, w3, l3, e3, r3⟩ := hy G2 c2 S2 w2' l2'.g l2'.cc
      have hdrop : items.drop i = d :: items.drop (i + 1) := by
        rw [List.drop_eq_getElem_cons hi]
        have : items[i] = d := by rw [List.getElem?_eq_getElem hi] at e3; exact Option.some.inj e3
        rw [this]
      rw [hdrop] at d7
      unfold lcLoop at d7
      cases q1 : mg d (wipeE ρ vs) with
      | none => rw [q1] at d7; cases d7
      | some ρ1 =>
        rw [q1] at d7
        obtain ⟨b, S4, e4, d7⟩ := bind_ok d7
        have sr3 : SR T G3 H3 c2 (wipeE ρ vs) (wipe σ vs) := srw.mono (l2'.trans l3)
        refine ⟨G3, c2, S2, wipeE ρ vs, d, ρ1, w3, sr3, r3, q1, fun σ2 sr2 ag => ⟨wipe_agr ag htv, G3, c2, S2, ρ1, w3, sr2, ?_⟩⟩
        rw [e4]
        intro v4 G4 H4 c4 w4 l4 r4
        obtain ⟨k1, k2, k3⟩ := l3.fr D _ d1 d3 d2
        obtain ⟨k1, k2, k3⟩ := l4.fr D _ k1 k2 k3
        have L4 := (l2'.trans l3).trans l4
        cases b with
        | bl b =>
          obtain rfl := inv_bl r4
          refine ⟨b, rfl, ?_⟩
          cases b with
          | false =>
            exact iteF ⟨G4, c4, S4, acc, ws, w4, L4, k1, k3, k2, (d4.mono l3).mono l4, Nat.le_succ_of_le d5, hi, d7⟩
          | true =>
            obtain ⟨y, S5, e5, d7⟩ := bind_ok d7
            refine iteT ⟨G4, c4, S4, ρ1, w4, sr2.mono l4, ?_⟩
            rw [e5]
            intro v5 G5 H5 c5 w5 l5 r5
            obtain ⟨k1, k2, k3⟩ := l5.fr D _ k1 k2 k3
            have ha : ws.length = acc.length := (d4.length).symm
            refine ⟨ws, k1, by omega, G5, c5, S5, acc ++ [y], ws ++ [v5], w5.wrote k3 k2, (L4.trans l5).fresh hD, upd_same, k3, k2, (((d4.mono l3).mono l4).mono l5).append (Reps.cons r5 Reps.nil), ?_, hi, d7⟩
            rw [List.length_append]
            show acc.length + 1 ≤ i + 1
            omega
        | _ => cases d7
    · rintro H' ⟨G', c', S2, acc, ws, w', l', d1, d2, d3, d4, d5, d6, d7⟩
      rw [List.drop_length] at d7
      unfold lcLoop at d7
      cases d7
      refine o2 D G' H' c' ws w' (l1.trans l') (l1.dom D hD) d1 d2 d3 (by have : ([] : List KF.D).length = 0 := rfl; omega) d4
theorem tests_none {Y : Cx} : PTs Y [] (tB (tE T W0 cYes)) := by
  refine ⟨fun pins s σ H Q I h => pts_nil.run pins s σ H Q I ?_⟩
  obtain ⟨G, c, S, ρ, w, sr, o⟩ := h
  obtain ⟨b, e, q⟩ := o (.bl true) G H c w (Le.refl _ _ _) rep_bl
  cases e
  exact q
variable {elt tg iter c1 : Expr} {scope : Scope} {pos : Pos} {mi : MI} {mg : MG} {mt me : ME} {tv : List Nat}
/-- the block's own context -/
abbrev XB (X : Cx) (s : Shared) (H : Hp) (scope : Scope) (C : Addr) (cl : List (Str × Addr)) (fp : List Addr) : Cx := X.blk s H scope (compEnvC scope cl C X.env) fp
/-- [elt for tg in iter], with a test or none -/
theorem sn_lc (own : List (Str × Nat)) (hc : X.calm = true) (hN : X.N.Nodup) (ok : BlkOk X.N X.env.scope scope own) (hi : SI X T W tg iter mi) (hg : ∀ s H C cl fp, SG (XB X s H scope C cl fp) T tg tv mg) (he : ∀ s H C cl fp, SE (XB X s H scope C cl fp) T W0 elt me)
    (htv : ∀ k ∈ tv, k ∈ own.map (·.2) := by decide) (hs : ∀ x, foldedSetIterable iter X.env x = pure x := by intro _; rfl) : SN X T W (.ListComp elt [⟨tg, iter, [], 0⟩] scope pos) (eLC (own.map (·.2)) mi mg cYes me) :=
  ⟨fun hK => PE.imp (pe_lc hc hN (hi.pi hK) ok (fun s H C cl fp => (hg s H C cl fp).pg hK) (fun _ _ _ _ _ => tests_none) (fun s H C cl fp => (he s H C cl fp).pe hK) hs) fun _ _ _ h => lc_read htv h⟩
theorem sn_lcIf (own : List (Str × Nat)) (hc : X.calm = true) (hN : X.N.Nodup) (ok : BlkOk X.N X.env.scope scope own) (hi : SI X T W tg iter mi) (hg : ∀ s H C cl fp, SG (XB X s H scope C cl fp) T tg tv mg) (ht : ∀ s H C cl fp, SC (XB X s H scope C cl fp) T W0 c1 mt)
    (he : ∀ s H C cl fp, SE (XB X s H scope C cl fp) T W0 elt me)
    (htv : ∀ k ∈ tv, k ∈ own.map (·.2) := by decide) (hs : ∀ x, foldedSetIterable iter X.env x = pure x := by intro _; rfl) : SN X T W (.ListComp elt [⟨tg, iter, [c1], 0⟩] scope pos) (eLC (own.map (·.2)) mi mg mt me) :=
  ⟨fun hK => PE.imp (pe_lc hc hN (hi.pi hK) ok (fun s H C cl fp => (hg s H C cl fp).pg hK) (fun s H C cl fp => pts_one ((ht s H C cl fp).pt hK)) (fun s H C cl fp => (he s H C cl fp).pe hK) hs) fun _ _ _ h => lc_read htv h⟩
end
end KF
end

section
namespace KF
open PySem PySem.Spec PyProof.Rows L2
/-! ### statements -/
inductive RS where
  | next (ρ : Env) (S : Sto) | ret (d : D) (S : Sto) | brk (ρ : Env) (S : Sto) | cont (ρ : Env) (S : Sto) | exc (C : Str) (f : Option (Str × D)) (ρ : Env) (S : Sto) | bad
abbrev MS := Env → Sto → RS
/-- the entry of a body; what was frozen since, at least -/
structure Bs where
  G : Hp
  H : Hp
  c : List Addr
  Gf : Hp
  cf : List Addr
/-- where one stands in a body; one's own lists are younger than the entry -/
structure Sit (T : Ct) (B : Bs) (σ : L2.St) (H G : Hp) (c : List Addr) (S : Sto) (ρ : Env) : Prop where
  le : Le B.G B.H B.c G H c
  wf : Wf T G H c S
  sr : SR T G H c ρ σ
  fr : ∀ (i : Nat) (xs : List D) (p : Addr), ρ[i]? = some (.own xs) → σ[i]? = some (some (.ref p)) → B.H p = none
  gf : ∀ a o, B.Gf a = some o → G a = some o
  cf : ∃ r, c = B.cf ++ r
theorem pre_trans {c0 c1 c2 : List Addr} (h : ∃ r, c1 = c0 ++ r) (h' : ∃ r, c2 = c1 ++ r) : ∃ r, c2 = c0 ++ r := by
  obtain ⟨r, rfl⟩ := h
  obtain ⟨r', rfl⟩ := h'
  exact ⟨r ++ r', List.append_assoc _ _ _⟩
def SOut (T : Ct) (W : WX) (B : Bs) (D : Ends) : RS → Prop
  | .next ρ S => ∀ σ' G' H' c', Sit T B σ' H' G' c' S ρ → D.nx σ' H'
  | .ret d S => ∀ v G' H' c', Wf T G' H' c' S → Le B.G B.H B.c G' H' c' → Rep T G' c' d v → D.rt v H'
  | .brk ρ S => ∀ σ' G' H' c', Sit T B σ' H' G' c' S ρ → D.bk σ' H'
  | .cont ρ S => ∀ σ' G' H' c', Sit T B σ' H' G' c' S ρ → D.ct σ' H'
  | .exc C f ρ S => ∀ e σ' G' H' c', Sit T B σ' H' G' c' S ρ → XRep T G' H' c' f e → W (.ref (T.fa C)) e σ' H'
  | .bad => False
def tS (T : Ct) (W : WX) (m : MS) : TS := fun D σ H => ∃ B G c S ρ, Sit T B σ H G c S ρ ∧ SOut T W B D (m ρ S)
structure SS (X : Cx) (T : Ct) (W : WX) (st : Stmt) (m : MS) : Prop where
  ps : X.K = T.K → PS X st (tS T W m)
structure SB (X : Cx) (T : Ct) (W : WX) (st : List Stmt) (m : MS) : Prop where
  pss : X.K = T.K → PSs X st (tS T W m)
theorem Sit.mono {T : Ct} {B : Bs} {σ : L2.St} {H G H' G' : Hp} {c c' : List Addr} {S S' : Sto} {ρ : Env} (s : Sit T B σ H G c S ρ) (w : Wf T G' H' c' S') (l : Le G H c G' H' c') : Sit T B σ H' G' c' S' ρ :=
  ⟨s.le.trans l, w, s.sr.mono l, s.fr, fun a o h => l.g a o (s.gf a o h), pre_trans s.cf l.cc⟩
theorem Sit.set {T : Ct} {B : Bs} {σ : L2.St} {H G : Hp} {c : List Addr} {S : Sto} {ρ : Env} (s : Sit T B σ H G c S ρ) {i : Nat} {d : D} {v : V} (r : Rep T G c d v) : Sit T B (σ.set i (some v)) H G c S (ρ.set i (.val d)) := by
  refine ⟨s.le, s.wf, s.sr.set r, fun j xs p h1 h2 => ?_, s.gf, s.cf⟩
  by_cases hj : i = j
  · subst hj
    have hi : i < ρ.length := by have := (List.getElem?_eq_some_iff.mp h1).1; rwa [List.length_set] at this
    rw [List.getElem?_set_self hi] at h1; cases h1
  · rw [List.getElem?_set_ne hj] at h1 h2
    exact s.fr j xs p h1 h2
theorem Sit.unset {T : Ct} {B : Bs} {σ : L2.St} {H G : Hp} {c : List Addr} {S : Sto} {ρ : Env} (s : Sit T B σ H G c S ρ) {i : Nat} {o : Option V} : Sit T B (σ.set i o) H G c S (ρ.set i .un) := by
  refine ⟨s.le, s.wf, s.sr.unset, fun j xs p h1 h2 => ?_, s.gf, s.cf⟩
  by_cases hj : i = j
  · subst hj
    have hi : i < ρ.length := by have := (List.getElem?_eq_some_iff.mp h1).1; rwa [List.length_set] at this
    rw [List.getElem?_set_self hi] at h1; cases h1
  · rw [List.getElem?_set_ne hj] at h1 h2
    exact s.fr j xs p h1 h2
/-- an expression (or a row of them), then k -/
def sExp {α : Type} (m : Env → Sto → Rs α) (k : α → Env → Sto → RS) : MS := fun ρ S => match m ρ S with
  | .ok d S1 => k d ρ S1
  | .exc C f S1 => .exc C f ρ S1
  | .bad => .bad
section
variable {X : Cx} {T : Ct} {W : WX} {e a b : Expr} {es : List Expr} {m m1 m2 : ME} {ma : MA} {s1 s2 : MS} {st : Stmt} {rest : List Stmt} {x : Str} {p pos : Pos}
/-- from a statement's meaning to what its expression must give -/
theorem exp_out {α β : Type} {mm : Env → Sto → Rs α} {σ : L2.St} {B : Bs} {G H : Hp} {c : List Addr} {S : Sto} {ρ : Env} {D : Ends} {R : Hp → List Addr → α → β → Prop} {k : α → Env → Sto → RS} (s : Sit T B σ H G c S ρ)
    (h : SOut T W B D (sExp mm k ρ S)) : Out T W σ G H c R (fun v H1 => ∃ G1 c1 d S1, Sit T B σ H1 G1 c1 S1 ρ ∧ Le G H c G1 H1 c1 ∧ R G1 c1 d v ∧ SOut T W B D (k d ρ S1)) (mm ρ S) := by
  unfold sExp at h
  cases q : mm ρ S with
  | ok d S1 => rw [q] at h; exact fun v G1 H1 c1 w1 l1 r1 => ⟨G1, c1, d, S1, s.mono w1 l1, l1, r1, h⟩
  | exc C f S1 => rw [q] at h; exact fun e G1 H1 c1 w1 l1 x => h e σ G1 H1 c1 (s.mono w1 l1) x
  | bad => rw [q] at h; exact h
def sNil : MS := fun ρ S => .next ρ S
def sSeq (s1 s2 : MS) : MS := fun ρ S => match s1 ρ S with
  | .next ρ1 S1 => s2 ρ1 S1
  | r => r
theorem sb_nil : SB X T W [] sNil := ⟨fun _ => PSs.imp pss_nil fun D σ H ⟨B, G, c, S, ρ, s, o⟩ => o σ G H c s⟩
theorem seq_read {D : Ends} {σ : L2.St} {H : Hp} (h : tS T W (sSeq s1 s2) D σ H) : tSeq (tS T W s1) (tS T W s2) D σ H := by
  obtain ⟨B, G, c, S, ρ, s, o⟩ := h
  refine ⟨B, G, c, S, ρ, s, ?_⟩
  unfold sSeq at o
  cases q : s1 ρ S with
  | next ρ1 S1 => rw [q] at o; exact fun σ' G' H' c' s' => ⟨B, G', c', S1, ρ1, s', o⟩
  | ret d S1 => rw [q] at o; exact o
  | brk ρ1 S1 => rw [q] at o; exact o
  | cont ρ1 S1 => rw [q] at o; exact o
  | exc C f ρ1 S1 => rw [q] at o; exact o
  | bad => rw [q] at o; exact o
theorem sb_cons (h1 : SS X T W st s1) (h2 : SB X T W rest s2) : SB X T W (st :: rest) (sSeq s1 s2) := ⟨fun hK => PSs.imp (pss_cons (h1.ps hK) (h2.pss hK)) fun _ _ _ h => seq_read h⟩
theorem sb_one (h1 : SS X T W st s1) : SB X T W [st] s1 := ⟨fun hK => pss_one (h1.ps hK)⟩
def sBad : MS := fun _ _ => .bad
/-- what the proof never comes to -/
theorem ss_never : SS X T W st sBad := ⟨fun _ => PS.imp ps_never fun D σ H ⟨_, _, _, _, _, _, o⟩ => o⟩
theorem sb_never : SB X T W rest sBad := ⟨fun _ => PSs.imp pss_never fun D σ H ⟨_, _, _, _, _, _, o⟩ => o⟩
def sBrk : MS := fun ρ S => .brk ρ S
def sCont : MS := fun ρ S => .cont ρ S
theorem ss_pass : SS X T W (.Pass pos) sNil := ⟨fun _ => PS.imp ps_pass fun D σ H ⟨_, G, c, S, ρ, s, o⟩ => o σ G H c s⟩
theorem ss_break : SS X T W (.Break pos) sBrk := ⟨fun _ => PS.imp ps_break fun D σ H ⟨_, G, c, S, ρ, s, o⟩ => o σ G H c s⟩
theorem ss_continue : SS X T W (.Continue pos) sCont := ⟨fun _ => PS.imp ps_continue fun D σ H ⟨_, G, c, S, ρ, s, o⟩ => o σ G H c s⟩
def sRet (m : ME) : MS := sExp m fun d _ S => .ret d S
theorem ss_ret (h : SE X T W e m) : SS X T W (.Return (some e) pos) (sRet m) := by
  refine ⟨fun hK => PS.imp (ps_ret (h.pe hK)) fun D σ H h => ?_⟩
  obtain ⟨B, G, c, S, ρ, s, o⟩ := h
  refine ⟨G, c, S, ρ, s.wf, s.sr, (exp_out s o).imp ?_⟩
  rintro v H1 ⟨G1, c1, d, S1, s1, l1, r1, o1⟩
  exact o1 v G1 H1 c1 s1.wf s1.le r1
def sRetN : MS := fun _ S => .ret .non S
theorem ss_retN : SS X T W (.Return none pos) sRetN := ⟨fun _ => PS.imp ps_retN fun D σ H ⟨_, G, c, S, ρ, s, o⟩ => o _ G H c s.wf s.le rep_non⟩
def sDrop (m : ME) : MS := sExp m fun _ ρ S => .next ρ S
theorem ss_expr (h : SE X T W e m) (hs : swapsWith e none pos.line X.env = pure false := by rfl) : SS X T W (.Expr e pos) (sDrop m) := by
  refine ⟨fun hK => PS.imp (ps_expr (h.pe hK) hs) fun D σ H h => ?_⟩
  obtain ⟨B, G, c, S, ρ, s, o⟩ := h
  refine ⟨G, c, S, ρ, s.wf, s.sr, (exp_out s o).imp ?_⟩
  rintro v H1 ⟨G1, c1, d, S1, s1, l1, r1, o1⟩
  exact o1 σ G1 H1 c1 s1
def sIf (m : ME) (s1 s2 : MS) : MS := sExp m fun d ρ S => match d with
  | .bl true => s1 ρ S
  | .bl false => s2 ρ S
  | _ => .bad
theorem ss_if {t f : List Stmt} (hc : SC X T W e m) (h1 : SB X T W t s1) (h2 : SB X T W f s2) : SS X T W (.If e t f pos) (sIf m s1 s2) := by
  refine ⟨fun hK => PS.imp (ps_if (hc.pt hK) (h1.pss hK) (h2.pss hK)) fun D σ H h => ?_⟩
  obtain ⟨B, G, c, S, ρ, s, o⟩ := h
  refine ⟨G, c, S, ρ, s.wf, s.sr, (exp_out s o).imp ?_⟩
  rintro v H1 ⟨G1, c1, d, S1, s1, l1, r1, o1⟩
  cases d with
  | bl b =>
    obtain rfl := inv_bl r1
    refine ⟨b, rfl, ?_⟩
    cases b with
    | true => exact iteT ⟨B, G1, c1, S1, ρ, s1, o1⟩
    | false => exact iteF ⟨B, G1, c1, S1, ρ, s1, o1⟩
  | _ => exact o1.elim
/-- x = e -/
def sSet (i : Nat) (m : ME) : MS := sExp m fun d ρ S => .next (ρ.set i (.val d)) S
theorem set_read {i : Nat} {D : Ends} {σ : L2.St} {H : Hp} (h : tS T W (sSet i m) D σ H) : tAsg (tE T W m) (gName i) D σ H := by
  obtain ⟨B, G, c, S, ρ, s, o⟩ := h
  refine ⟨G, c, S, ρ, s.wf, s.sr, (exp_out s o).imp ?_⟩
  rintro v H1 ⟨G1, c1, d, S1, s1, l1, r1, o1⟩
  exact o1 _ G1 H1 c1 (s1.set r1)
theorem ss_set (i : Nat) {y : Str} {py : Pos} (h : SE X T W e m) (hN : X.N.Nodup) (hi : X.N[i]? = some y := by rfl) (hx : Loc X.env.scope y := by first | exact Or.inl rfl | exact Or.inr rfl) (hs : swapsWith e (some (.Name y py)) pos.line X.env = pure false := by rfl)
    (hf : X.fn y = true ∨ X.env.scope.names.lookup y = some .local := by first | exact .inl rfl | exact .inr rfl) : SS X T W (.Assign [.Name y py] e pos) (sSet i m) :=
  ⟨fun hK => PS.imp (ps_set hN hi hx (h.pe hK) hs hf) fun _ _ _ h => set_read h⟩
/-- x = a new list that is one's own -/
def sSetOwn (i : Nat) (m : MA) : MS := sExp m fun xs ρ S => .next (ρ.set i (.own xs)) S
theorem setOwn_read {i : Nat} {D : Ends} {σ : L2.St} {H : Hp} (h : tS T W (sSetOwn i ma) D σ H) : tAsg (tN T W ma) (gName i) D σ H := by
  obtain ⟨B, G, c, S, ρ, s, o⟩ := h
  refine ⟨G, c, S, ρ, s.wf, s.sr, ?_⟩
  unfold sSetOwn sExp at o
  cases q : ma ρ S with
  | ok xs S1 =>
    rw [q] at o
    intro p G' H' c' vs w' l' h1 h2 h3 h4 h5 h6
    refine o _ G' H' c' ⟨s.le.trans l', w', s.sr.setOwn l' h1 h2 h3 h4 h5 h6, fun j ys a k1 k2 => ?_, fun a o h => l'.g a o (s.gf a o h), pre_trans s.cf l'.cc⟩
    by_cases hj : i = j
    · subst hj
      have hi : i < ρ.length := by have := (List.getElem?_eq_some_iff.mp k1).1; rwa [List.length_set] at this
      rw [List.getElem?_set_self (by rw [← s.sr.len]; exact hi)] at k2
      injection k2 with k2; injection k2 with k2; injection k2 with k2
      rw [← k2]
      exact s.le.dom p h1
    · rw [List.getElem?_set_ne hj] at k1 k2
      exact s.fr j ys a k1 k2
  | exc C f S1 =>
    rw [q] at o
    exact fun e G' H' c' w' l' x => o e σ G' H' c' (s.mono w' l') x
  | bad => rw [q] at o; exact o
theorem ss_setOwn (i : Nat) {y : Str} {py : Pos} (h : SN X T W e ma) (hN : X.N.Nodup) (hi : X.N[i]? = some y := by rfl) (hx : Loc X.env.scope y := by first | exact Or.inl rfl | exact Or.inr rfl) (hs : swapsWith e (some (.Name y py)) pos.line X.env = pure false := by rfl)
    (hf : X.fn y = true ∨ X.env.scope.names.lookup y = some .local := by first | exact .inl rfl | exact .inr rfl) : SS X T W (.Assign [.Name y py] e pos) (sSetOwn i ma) :=
  ⟨fun hK => PS.imp (ps_set hN hi hx (h.pe hK) hs hf) fun _ _ _ h => setOwn_read h⟩
end
section
variable {X : Cx} {T : Ct} {W : WX} {s1 : MS} {pos : Pos} {elt tg iter c1 : Expr} {scope : Scope} {spos : Pos} {mi : MI} {mg : MG} {mt me : ME} {tv : List Nat}
/-- x = [.. for ..] -/
theorem ss_setLc (i : Nat) (own : List (Str × Nat)) {y : Str} {py : Pos} (hc : X.calm = true) (hN : X.N.Nodup) (ok : BlkOk X.N X.env.scope scope own) (hi : SI X T W tg iter mi) (hg : ∀ s H C cl fp, SG (XB X s H scope C cl fp) T tg tv mg) (he : ∀ s H C cl fp, SE (XB X s H scope C cl fp) T W0 elt me)
    (htv : ∀ k ∈ tv, k ∈ own.map (·.2) := by decide) (hy : X.N[i]? = some y := by rfl) (hyl : X.env.scope.names.lookup y = some .local := by rfl)
    (hsw : swapsWith (.ListComp elt [⟨tg, iter, [], 0⟩] scope pos) (some (.Name y py)) spos.line X.env = pure true := by exact sw_true rfl rfl rfl (by decide +kernel)) (hs : ∀ x, foldedSetIterable iter X.env x = pure x := by intro _; rfl) :
    SS X T W (.Assign [.Name y py] (.ListComp elt [⟨tg, iter, [], 0⟩] scope pos) spos) (sSet i (eLst (eLC (own.map (·.2)) mi mg cYes me))) :=
  ⟨fun hK => PS.imp (ps_setLc hc hN hy hyl hsw (hi.pi hK) ok (fun s H C cl fp => (hg s H C cl fp).pg hK) (fun _ _ _ _ _ => tests_none (T := T)) (fun s H C cl fp => (he s H C cl fp).pe hK) hs) fun _ _ _ h => lc_read htv (new_read (set_read h))⟩
theorem ss_setLcIf (i : Nat) (own : List (Str × Nat)) {y : Str} {py : Pos} (hc : X.calm = true) (hN : X.N.Nodup) (ok : BlkOk X.N X.env.scope scope own) (hi : SI X T W tg iter mi) (hg : ∀ s H C cl fp, SG (XB X s H scope C cl fp) T tg tv mg) (ht : ∀ s H C cl fp, SC (XB X s H scope C cl fp) T W0 c1 mt) (he : ∀ s H C cl fp, SE (XB X s H scope C cl fp) T W0 elt me)
    (htv : ∀ k ∈ tv, k ∈ own.map (·.2) := by decide) (hy : X.N[i]? = some y := by rfl) (hyl : X.env.scope.names.lookup y = some .local := by rfl)
    (hsw : swapsWith (.ListComp elt [⟨tg, iter, [c1], 0⟩] scope pos) (some (.Name y py)) spos.line X.env = pure true := by exact sw_true rfl rfl rfl (by decide +kernel)) (hs : ∀ x, foldedSetIterable iter X.env x = pure x := by intro _; rfl) :
    SS X T W (.Assign [.Name y py] (.ListComp elt [⟨tg, iter, [c1], 0⟩] scope pos) spos) (sSet i (eLst (eLC (own.map (·.2)) mi mg mt me))) :=
  ⟨fun hK => PS.imp (ps_setLc hc hN hy hyl hsw (hi.pi hK) ok (fun s H C cl fp => (hg s H C cl fp).pg hK) (fun s H C cl fp => pts_one ((ht s H C cl fp).pt hK)) (fun s H C cl fp => (he s H C cl fp).pe hK) hs) fun _ _ _ h => lc_read htv (new_read (set_read h))⟩
theorem ss_setLcOwn (i : Nat) (own : List (Str × Nat)) {y : Str} {py : Pos} (hc : X.calm = true) (hN : X.N.Nodup) (ok : BlkOk X.N X.env.scope scope own) (hi : SI X T W tg iter mi) (hg : ∀ s H C cl fp, SG (XB X s H scope C cl fp) T tg tv mg) (he : ∀ s H C cl fp, SE (XB X s H scope C cl fp) T W0 elt me)
    (htv : ∀ k ∈ tv, k ∈ own.map (·.2) := by decide) (hy : X.N[i]? = some y := by rfl) (hyl : X.env.scope.names.lookup y = some .local := by rfl)
    (hsw : swapsWith (.ListComp elt [⟨tg, iter, [], 0⟩] scope pos) (some (.Name y py)) spos.line X.env = pure true := by exact sw_true rfl rfl rfl (by decide +kernel)) (hs : ∀ x, foldedSetIterable iter X.env x = pure x := by intro _; rfl) :
    SS X T W (.Assign [.Name y py] (.ListComp elt [⟨tg, iter, [], 0⟩] scope pos) spos) (sSetOwn i (eLC (own.map (·.2)) mi mg cYes me)) :=
  ⟨fun hK => PS.imp (ps_setLc hc hN hy hyl hsw (hi.pi hK) ok (fun s H C cl fp => (hg s H C cl fp).pg hK) (fun _ _ _ _ _ => tests_none (T := T)) (fun s H C cl fp => (he s H C cl fp).pe hK) hs) fun _ _ _ h => lc_read htv (setOwn_read h)⟩
end
section
variable {X : Cx} {T : Ct} {W : WX} {e a b : Expr} {es : List Expr} {m m1 m2 : ME} {ma : MA} {s1 s2 : MS} {st : Stmt} {rest : List Stmt} {x : Str} {p pos : Pos}
/-- one's own list, given to the world -/
def frz1 (i : Nat) (ρ : Env) : Env := match ρ[i]? with
  | some (.own xs) => ρ.set i (.val (.lst xs))
  | _ => ρ
def sFz (i : Nat) (s : MS) : MS := fun ρ S => s (frz1 i ρ) S
theorem fz_read {i : Nat} {D : Ends} {σ : L2.St} {H : Hp} (h : tS T W (sFz i s1) D σ H) : tS T W s1 D σ H := by
  obtain ⟨B, G, c, S, ρ, s, o⟩ := h
  unfold sFz frz1 at o
  cases q : ρ[i]? with
  | none => rw [q] at o; exact ⟨B, G, c, S, ρ, s, o⟩
  | some sl =>
    rw [q] at o
    cases sl with
    | un => exact ⟨B, G, c, S, ρ, s, o⟩
    | val d => exact ⟨B, G, c, S, ρ, s, o⟩
    | own xs =>
      obtain ⟨z, p, vs, e1, e2, e3, e4, t⟩ := s.sr.own q
      have gm : ∀ a u, G a = some u → upd G p (.lst vs) a = some u := fun a u e => by rw [upd_ne (ne_of_none e e3)]; exact e
      have hp0 := s.fr i xs p q e1
      refine ⟨B, upd G p (.lst vs), c, S, ρ.set i (.val (.lst xs)), ⟨⟨fun a u h => gm a u (s.le.g a u h), s.le.cc, fun a u h1 h2 h3 => ?_, s.le.dom⟩, s.wf.froze e2 e3 e4, s.sr.froze s.wf q e1 e2, fun j ys a k1 k2 => ?_, fun a u h => gm a u (s.gf a u h), s.cf⟩, o⟩
      · obtain ⟨k1, k2, k3⟩ := s.le.fr a u h1 h2 h3
        have : a ≠ p := ne_of_none h1 hp0
        exact ⟨k1, k2, by rw [upd_ne this]; exact k3⟩
      · by_cases hj : i = j
        · subst hj
          have hi : i < ρ.length := (List.getElem?_eq_some_iff.mp q).1
          rw [List.getElem?_set_self hi] at k1; cases k1
        · rw [List.getElem?_set_ne hj] at k1
          exact s.fr j ys a k1 k2
theorem ss_fz (i : Nat) (h : SS X T W st s1) : SS X T W st (sFz i s1) := ⟨fun hK => PS.imp (h.ps hK) fun _ _ _ h => fz_read h⟩
/-- one's own list is written: from the old items to the new ones -/
theorem Sit.wrote {B : Bs} {σ : L2.St} {H G : Hp} {c : List Addr} {S : Sto} {ρ : Env} (s : Sit T B σ H G c S ρ) {i : Nat} {q : Addr} {xs ys : List D} {vs : List V} (hi : ρ[i]? = some (.own xs)) (hp : σ[i]? = some (some (.ref q))) (z : ys.length ≤ sizeLine) (rs : Reps T G c ys vs) :
    Sit T B σ (upd H q (.lst vs)) G c S (ρ.set i (.own ys)) := by
  obtain ⟨_, p', vs', e1, e2, e3, e4, _⟩ := s.sr.own hi
  rw [hp] at e1; cases e1
  refine ⟨s.le.fresh (s.fr i xs q hi hp), s.wf.wrote e3 e4, s.sr.wrote hi hp z rs, fun j us a k1 k2 => ?_, s.gf, s.cf⟩
  by_cases hj : i = j
  · subst hj
    rw [hp] at k2
    injection k2 with k2; injection k2 with k2; injection k2 with k2
    rw [← k2]
    exact s.fr i xs q hi hp
  · rw [List.getElem?_set_ne hj] at k1
    exact s.fr j us a k1 k2
def ownOf (i : Nat) (ρ : Env) : Option (List D) := match ρ[i]? with
  | some (.own xs) => some xs
  | _ => none
theorem ownOf_eq {i : Nat} {ρ : Env} {xs : List D} (h : ownOf i ρ = some xs) : ρ[i]? = some (.own xs) := by
  unfold ownOf at h
  cases q : ρ[i]? with
  | none => rw [q] at h; cases h
  | some s =>
    rw [q] at h
    cases s with
    | own ys => cases h; rfl
    | un => cases h
    | val d => cases h
/-- x.append(e) -/
def sApp (i : Nat) (m : ME) : MS := fun ρ S => match ownOf i ρ with
  | some xs => sExp m (fun d ρ S => if xs.length < 10000 then .next (ρ.set i (.own (xs ++ [d]))) S else .bad) ρ S
  | none => .bad
theorem ss_app (i : Nat) {y : Str} {py apos : Pos} (h : SE X T W e m) (hN : X.N[i]? = some y := by rfl) (hv : Vis X.env.scope y := by first | exact Or.inl rfl | exact Or.inr (Or.inl rfl) | exact Or.inr (Or.inr rfl)) (hd : (y == ("__debug__" : Str)) = false := by decide)
    (hcd : (y == ("__classdict__" : Str)) = false := by decide) (hbase : attributeBase (.Name y py) "append" X.env (eval (.Name y py) X.env) = eval (.Name y py) X.env := by rfl)
    (hfew : ((backTo p (starEach [e] X.env)).all (fun x => !x.1) && (backToKw p (keywordEach [] X.env)).all (fun x => x.1.isSome)
      && decide ([e].length + ([] : List Keyword).length + (if ([] : List Keyword).isEmpty then 0 else 1) < 30)) = true := by rfl)
    (hline : (apos.endLine == p.line) = true := by rfl) (hs1 : starEach [e] X.env = (false, eval e X.env) :: starEach [] X.env := by rfl) (hplain : (backTo p (starEach [] X.env)).any (·.1) = false := by rfl)
    (hs : swapsWith (.Call (.Attribute (.Name y py) "append" apos) [e] [] p) none pos.line X.env = pure false := by rfl) : SS X T W (.Expr (.Call (.Attribute (.Name y py) "append" apos) [e] [] p) pos) (sApp i m) := by
  refine ⟨fun hK => PS.imp (ps_expr (pe_bm PySem.F.plainAttrs_list PySem.F.slot_list_append PySem.F.type_list_append (fun pins s σ H x xs v us Q I rx rs hh => mt_append pins s σ H x xs v us Q I rx rs hh) (pe_var hN hv hd hcd) (pa_cons (h.pe hK) pa_nil hs1) hbase hfew hline hs1 hplain) hs) fun D σ H h => ?_⟩
  obtain ⟨B, G, c, S, ρ, s, o⟩ := h
  unfold sApp at o
  cases q : ownOf i ρ with
  | none => rw [q] at o; exact o.elim
  | some xs =>
    rw [q] at o
    obtain ⟨z, a, vs, e1, e2, e3, e4, t⟩ := s.sr.own (ownOf_eq q)
    refine ⟨.ref a, e1, .inl ⟨rfl, vs, SqL.of e2⟩, G, c, S, ρ, s.wf, s.sr, (exp_out s o).imp ?_⟩
    rintro v H1 ⟨G1, c1, d, S1, s1, l1, r1, o1⟩
    obtain ⟨z', a', vs', e1', e2', e3', e4', t'⟩ := s1.sr.own (ownOf_eq q)
    rw [e1] at e1'
    cases e1'
    by_cases hl : xs.length < 10000
    · rw [if_pos hl] at o1
      have h10 := tenk
      refine ⟨a, vs', v, rfl, rfl, e2', by rw [← t'.length]; omega, ?_⟩
      exact o1 _ _ _ _ (s1.wrote (ownOf_eq q) e1 (by rw [List.length_append]; show xs.length + 1 ≤ sizeLine; omega) (t'.append (Reps.cons r1 Reps.nil)))
    · rw [if_neg hl] at o1
      exact o1.elim
/-- x[k] = e, x one's own -/
def sPut (i : Nat) (m mk : ME) : MS := sExp m fun d ρ S => match ownOf i ρ with
  | some xs => sExp mk (fun k ρ S => match k with
    | .int k => (match ixN xs.length k with
      | some j => .next (ρ.set i (.own (xs.set j d))) S
      | none => .bad)
    | _ => .bad) ρ S
  | none => .bad
theorem ss_put (i : Nat) {y : Str} {k : Expr} {mk : ME} {py sp : Pos} (h : SE X T W e m) (hk : SE X T W k mk) (hN : X.N[i]? = some y := by rfl) (hv : Vis X.env.scope y := by first | exact Or.inl rfl | exact Or.inr (Or.inl rfl) | exact Or.inr (Or.inr rfl)) (hd : (y == ("__debug__" : Str)) = false := by decide)
    (hcd : (y == ("__classdict__" : Str)) = false := by decide)
    (ha : ∀ v, assign (.Subscript (.Name y py) k sp) X.env v = (do
      let ov ← holding [v] (eval (.Name y py) X.env)
      let iv ← holding [v, ov] (eval k X.env)
      standAt sp
      holding [v, ov, iv] (setItem ov iv v)
      release [v, ov, iv] []) := by intro _; rfl)
    (hs : swapsWithSole [.Subscript (.Name y py) k sp] e pos.line X.env = pure false := by rfl) (hw : swappedStores [.Subscript (.Name y py) k sp] e X.env = pure none := by rfl)
    (h1 : (assignEach [.Subscript (.Name y py) k sp] X.env).map (·.2) = [assign (.Subscript (.Name y py) k sp) X.env] := by rfl) : SS X T W (.Assign [.Subscript (.Name y py) k sp] e pos) (sPut i m mk) := by
  refine ⟨fun hK => PS.imp (ps_asg (h.pe hK) (pg_sub (pe_var hN hv hd hcd) (hk.pe hK) set_list ha) hs hw h1) fun D σ H h => ?_⟩
  obtain ⟨B, G, c, S, ρ, s, o⟩ := h
  refine ⟨G, c, S, ρ, s.wf, s.sr, (exp_out s o).imp ?_⟩
  rintro v H1 ⟨G1, c1, d, S1, s1, l1, r1, o1⟩
  cases q : ownOf i ρ with
  | none => rw [q] at o1; exact o1.elim
  | some xs =>
    rw [q] at o1
    obtain ⟨z, a, vs, e1, e2, e3, e4, t⟩ := s1.sr.own (ownOf_eq q)
    refine ⟨.ref a, e1, G1, c1, S1, ρ, s1.wf, s1.sr, (exp_out s1 o1).imp ?_⟩
    rintro kv H2 ⟨G2, c2, d2, S2, s2, l2, r2, o2⟩
    cases d2 with
    | int kk =>
      obtain rfl := inv_int r2
      have o3 : SOut T W B D (match ixN xs.length kk with
        | some j => .next (ρ.set i (.own (xs.set j d))) S2
        | none => .bad) := o2
      cases hj : ixN xs.length kk with
      | none => rw [hj] at o3; exact o3.elim
      | some j =>
        rw [hj] at o3
        obtain ⟨z', a', vs', e1', e2', e3', e4', t'⟩ := s2.sr.own (ownOf_eq q)
        rw [e1] at e1'
        cases e1'
        refine ⟨a, vs', kk, j, rfl, rfl, e2', by rw [← t'.length]; exact hj, ?_⟩
        exact o3 _ _ _ _ (s2.wrote (ownOf_eq q) e1 (by rw [List.length_set]; exact z') (t'.set j (r1.mono l2)))
    | _ => exact o2.elim
end
end KF
end

section
namespace KF
open PySem PySem.Spec PyProof.Rows L2
section
variable {X : Cx} {T : Ct} {W : WX} {e a b : Expr} {es : List Expr} {m m1 m2 mk : ME} {ma : MA} {s1 s2 sb : MS} {st : Stmt} {rest body : List Stmt} {x : Str} {p pos : Pos} {tg iter : Expr} {mi : MI} {mg : MG} {tv : List Nat}
/-! ### a cell is written: x[k] = e, x a cell -/
def sPutC (m mo mk : ME) : MS := sExp m fun d ρ S => sExp mo (fun o ρ S => sExp mk (fun k ρ S => match o, k with
  | .cell n, .int k => (match S[n]? with
    | some xs => (match ixN xs.length k with
      | some j => .next ρ (S.set n (xs.set j d))
      | none => .bad)
    | none => .bad)
  | _, _ => .bad) ρ S) ρ S
theorem ss_putC {o k : Expr} {mo : ME} {sp : Pos} (h : SE X T W e m) (ho : SE X T W o mo) (hk : SE X T W k mk)
    (ha : ∀ v, assign (.Subscript o k sp) X.env v = (do
      let ov ← holding [v] (eval o X.env)
      let iv ← holding [v, ov] (eval k X.env)
      standAt sp
      holding [v, ov, iv] (setItem ov iv v)
      release [v, ov, iv] []) := by intro _; rfl)
    (hs : swapsWithSole [.Subscript o k sp] e pos.line X.env = pure false := by rfl) (hw : swappedStores [.Subscript o k sp] e X.env = pure none := by rfl)
    (h1 : (assignEach [.Subscript o k sp] X.env).map (·.2) = [assign (.Subscript o k sp) X.env] := by rfl) : SS X T W (.Assign [.Subscript o k sp] e pos) (sPutC m mo mk) := by
  refine ⟨fun hK => PS.imp (ps_asg (h.pe hK) (pg_sub (ho.pe hK) (hk.pe hK) set_list ha) hs hw h1) fun D σ H h => ?_⟩
  obtain ⟨B, G, c, S, ρ, s, o⟩ := h
  refine ⟨G, c, S, ρ, s.wf, s.sr, (exp_out s o).imp ?_⟩
  rintro v H1 ⟨G1, c1, d, S1, s1, l1, r1, o1⟩
  refine ⟨G1, c1, S1, ρ, s1.wf, s1.sr, (exp_out s1 o1).imp ?_⟩
  rintro ov H2 ⟨G2, c2, d2, S2, s2, l2, r2, o2⟩
  refine ⟨G2, c2, S2, ρ, s2.wf, s2.sr, (exp_out s2 o2).imp ?_⟩
  rintro kv H3 ⟨G3, c3, d3, S3, s3, l3, r3, o3⟩
  split at o3
  · next n k =>
    obtain rfl := inv_int r3
    obtain ⟨q, rfl, hq⟩ := inv_cell (r2.mono l3)
    split at o3
    · next xs hx =>
      split at o3
      · next j hj =>
        obtain ⟨_, vs, k1, k2⟩ := s3.wf.cel n xs q hx hq
        have k3 := k2.set j ((r1.mono l2).mono l3)
        obtain ⟨w4, l4⟩ := s3.wf.store hq k3
        exact ⟨q, vs, k, j, rfl, rfl, k1, by rw [← k2.length]; exact hj, o3 _ _ _ _ (s3.mono w4 l4)⟩
      · exact o3.elim
    · exact o3.elim
  · exact o3.elim
/-- x = a new list that is a cell -/
def sSetCell (i : Nat) (m : MA) : MS := sExp m fun xs ρ S => .next (ρ.set i (.val (.cell S.length))) (S ++ [xs])
theorem setCell_read {i : Nat} {D : Ends} {σ : L2.St} {H : Hp} (h : tS T W (sSetCell i ma) D σ H) : tAsg (tN T W ma) (gName i) D σ H := by
  obtain ⟨B, G, c, S, ρ, s, o⟩ := h
  refine ⟨G, c, S, ρ, s.wf, s.sr, ?_⟩
  unfold sSetCell sExp at o
  cases q : ma ρ S with
  | ok xs S1 =>
    rw [q] at o
    intro p G' H' c' vs w' l' h1 h2 h3 h4 h5 h6
    have hg : ∀ (n : Nat) (a : Addr), c'[n]? = some a → (c' ++ [p])[n]? = some a := fun n a e => by rw [List.getElem?_append_left (List.getElem?_eq_some_iff.mp e).1]; exact e
    have w2 : Wf T G' H' (c' ++ [p]) (S1 ++ [xs]) := by
      refine ⟨w'.sub, by rw [List.length_append, List.length_append, w'.len]; rfl, fun n ys a e1 e2 => ?_, ?_⟩
      · by_cases hn : n < c'.length
        · rw [List.getElem?_append_left hn] at e2
          rw [List.getElem?_append_left (by rw [← w'.len]; exact hn)] at e1
          obtain ⟨k1, us, k2, k3⟩ := w'.cel n ys a e1 e2
          exact ⟨k1, us, k2, Reps.mono0 (fun _ _ h => h) hg ys us k3⟩
        · rw [List.getElem?_append_right (by omega)] at e2
          rw [List.getElem?_append_right (by rw [← w'.len]; omega)] at e1
          have hz : n - c'.length = 0 := by have := (List.getElem?_eq_some_iff.mp e2).1; simp at this; omega
          have hz' : n - S1.length = 0 := by rw [← w'.len]; exact hz
          rw [hz] at e2
          rw [hz'] at e1
          cases e1
          cases e2
          exact ⟨h3, vs, h2, Reps.mono0 (fun _ _ h => h) hg xs vs h6⟩
      · rw [List.nodup_append]
        refine ⟨w'.nd, by simp, fun a ha b hb => ?_⟩
        rw [List.mem_singleton] at hb
        subst hb
        exact fun e => h4 (e ▸ ha)
    have l2 : Le G H c G' H' (c' ++ [p]) := by
      obtain ⟨r, hr⟩ := l'.cc
      refine ⟨l'.g, ⟨r ++ [p], by rw [hr, List.append_assoc]⟩, fun a u e1 e2 e3 => ?_, l'.dom⟩
      obtain ⟨k1, k2, k3⟩ := l'.fr a u e1 e2 e3
      refine ⟨k1, fun hm => ?_, k3⟩
      rcases List.mem_append.mp hm with hm | hm
      · exact k2 hm
      · rw [List.mem_singleton] at hm
        rw [hm, h1] at e1
        cases e1
    refine o _ G' H' (c' ++ [p]) ((s.mono w2 l2).set ?_)
    unfold Rep
    exact ⟨p, rfl, by rw [List.getElem?_append_right (by rw [w'.len]; exact Nat.le_refl _), w'.len, Nat.sub_self]; rfl⟩
  | exc C f S1 =>
    rw [q] at o
    exact fun e G' H' c' w' l' x => o e σ G' H' c' (s.mono w' l') x
  | bad => rw [q] at o; exact o
theorem ss_setCell (i : Nat) {y : Str} {py : Pos} (h : SN X T W e ma) (hN : X.N.Nodup) (hi : X.N[i]? = some y := by rfl) (hx : Loc X.env.scope y := by first | exact Or.inl rfl | exact Or.inr rfl) (hs : swapsWith e (some (.Name y py)) pos.line X.env = pure false := by rfl)
    (hf : X.fn y = true ∨ X.env.scope.names.lookup y = some .local := by first | exact .inl rfl | exact .inr rfl) : SS X T W (.Assign [.Name y py] e pos) (sSetCell i ma) :=
  ⟨fun hK => PS.imp (ps_set hN hi hx (h.pe hK) hs hf) fun _ _ _ h => setCell_read h⟩
/-! ### several targets -/
/-- (a, b, ..) = e, a tuple -/
def sAsg (m : ME) (mg : MG) : MS := sExp m fun d ρ S => match mg d ρ with
  | some ρ1 => .next ρ1 S
  | none => .bad
/-- what a target leaves of one's own lists -/
def Keeps (mg : MG) : Prop := ∀ d ρ ρ1 (i : Nat) (xs : List D), mg d ρ = some ρ1 → ρ1[i]? = some (.own xs) → ρ[i]? = some (.own xs)
def KeepsS (mg : MGs) : Prop := ∀ d ρ ρ1 (i : Nat) (xs : List D), mg d ρ = some ρ1 → ρ1[i]? = some (.own xs) → ρ[i]? = some (.own xs)
theorem keeps_var (i : Nat) : Keeps (gVar i) := fun d ρ ρ1 j xs e h => by
  cases e
  by_cases hj : i = j
  · subst hj
    have hi : i < ρ.length := by have := (List.getElem?_eq_some_iff.mp h).1; rwa [List.length_set] at this
    rw [List.getElem?_set_self hi] at h; cases h
  · rw [List.getElem?_set_ne hj] at h; exact h
theorem keeps_nil : KeepsS gsNil := fun d ρ ρ1 i xs e h => by
  cases d with
  | nil => cases e; exact h
  | cons a r => cases e
theorem keeps_cons {mg : MG} {ms : MGs} (k1 : Keeps mg) (k2 : KeepsS ms) : KeepsS (gsCons mg ms) := fun d ρ ρ1 i xs e h => by
  cases d with
  | nil => cases e
  | cons a r =>
    unfold gsCons at e
    cases q : mg a ρ with
    | none => simp only [q] at e; cases e
    | some ρ' =>
      simp only [q] at e
      exact k1 a ρ ρ' i xs q (k2 r ρ' ρ1 i xs e h)
theorem keeps_tup {n : Nat} {ms : MGs} (k : KeepsS ms) : Keeps (gTupM n ms) := fun d ρ ρ1 i xs e h => by
  cases d with
  | tup ys =>
    have e0 : (if ys.length = n then ms ys ρ else none) = some ρ1 := e
    split at e0
    · exact k ys ρ ρ1 i xs e0 h
    · cases e0
  | _ => cases e
/-- one's own lists that a target did not touch: their addresses too -/
theorem own_addr {G H : Hp} {c : List Addr} {ρ ρ1 : Env} {σ σ' : L2.St} {tv : List Nat} (sr : SR T G H c ρ σ) (sr' : SR T G H c ρ1 σ') (ag : Agr tv σ σ') (ht : ∀ i ∈ tv, ∀ xs, ρ1[i]? ≠ some (.own xs)) {i : Nat} {xs : List D} {q : Addr} (h : ρ1[i]? = some (.own xs)) (h2 : σ'[i]? = some (some (.ref q))) : σ[i]? = some (some (.ref q)) := by
  rw [← ag.2 i fun hm => ht i hm xs h]
  exact h2
def NoOwn (tv : List Nat) (mg : MG) : Prop := ∀ d ρ ρ1, mg d ρ = some ρ1 → ∀ i ∈ tv, ∀ xs, ρ1[i]? ≠ some (.own xs)
def NoOwnS (tv : List Nat) (mg : MGs) : Prop := ∀ d ρ ρ1, mg d ρ = some ρ1 → ∀ i ∈ tv, ∀ xs, ρ1[i]? ≠ some (.own xs)
theorem noown_var (i : Nat) : NoOwn [i] (gVar i) := fun d ρ ρ1 e j hj xs h => by
  cases e
  rw [List.mem_singleton] at hj
  subst hj
  have hi : j < ρ.length := by have := (List.getElem?_eq_some_iff.mp h).1; rwa [List.length_set] at this
  rw [List.getElem?_set_self hi] at h; cases h
theorem noown_nil : NoOwnS [] gsNil := fun d ρ ρ1 e j hj => by cases hj
theorem noown_cons {t1 t2 : List Nat} {mg : MG} {ms : MGs} (n1 : NoOwn t1 mg) (n2 : NoOwnS t2 ms) (k2 : KeepsS ms) : NoOwnS (t1 ++ t2) (gsCons mg ms) := fun d ρ ρ1 e j hj xs h => by
  cases d with
  | nil => cases e
  | cons a r =>
    unfold gsCons at e
    cases q : mg a ρ with
    | none => simp only [q] at e; cases e
    | some ρ' =>
      simp only [q] at e
      rcases List.mem_append.mp hj with hj | hj
      · exact n1 a ρ ρ' q j hj xs (k2 r ρ' ρ1 j xs e h)
      · exact n2 r ρ' ρ1 e j hj xs h
theorem noown_tup {n : Nat} {tv : List Nat} {ms : MGs} (k : NoOwnS tv ms) : NoOwn tv (gTupM n ms) := fun d ρ ρ1 e j hj xs h => by
  cases d with
  | tup ys =>
    have e0 : (if ys.length = n then ms ys ρ else none) = some ρ1 := e
    split at e0
    · exact k ys ρ ρ1 e0 j hj xs h
    · cases e0
  | _ => cases e
/-- a target is good: what a loop or an assignment asks of it -/
structure Good (tv : List Nat) (mg : MG) : Prop where
  k : Keeps mg
  n : NoOwn tv mg
theorem good_var (i : Nat) : Good [i] (gVar i) := ⟨keeps_var i, noown_var i⟩
structure GoodS (tv : List Nat) (mg : MGs) : Prop where
  k : KeepsS mg
  n : NoOwnS tv mg
theorem goods_nil : GoodS [] gsNil := ⟨keeps_nil, noown_nil⟩
theorem goods_cons {t1 t2 : List Nat} {mg : MG} {ms : MGs} (g1 : Good t1 mg) (g2 : GoodS t2 ms) : GoodS (t1 ++ t2) (gsCons mg ms) := ⟨keeps_cons g1.k g2.k, noown_cons g1.n g2.n g2.k⟩
theorem good_tup {n : Nat} {tv : List Nat} {ms : MGs} (g : GoodS tv ms) : Good tv (gTupM n ms) := ⟨keeps_tup g.k, noown_tup g.n⟩
theorem Sit.asg {B : Bs} {σ σ' : L2.St} {H G : Hp} {c : List Addr} {S : Sto} {ρ ρ1 : Env} {d : D} (s : Sit T B σ H G c S ρ) (g : Good tv mg) (hm : mg d ρ = some ρ1) (sr' : SR T G H c ρ1 σ') (ag : Agr tv σ σ') : Sit T B σ' H G c S ρ1 :=
  ⟨s.le, s.wf, sr', fun i xs q h1 h2 => s.fr i xs q (g.k d ρ ρ1 i xs hm h1) (own_addr s.sr sr' ag (g.n d ρ ρ1 hm) h1 h2), s.gf, s.cf⟩
theorem ss_asg (h : SE X T W e m) (hg : SG X T tg tv mg) (gd : Good tv mg) (hs : swapsWithSole [tg] e pos.line X.env = pure false := by rfl) (hw : swappedStores [tg] e X.env = pure none := by rfl)
    (h1 : (assignEach [tg] X.env).map (·.2) = [assign tg X.env] := by rfl) : SS X T W (.Assign [tg] e pos) (sAsg m mg) := by
  refine ⟨fun hK => PS.imp (ps_asg (h.pe hK) (hg.pg hK) hs hw h1) fun D σ H h => ?_⟩
  obtain ⟨B, G, c, S, ρ, s, o⟩ := h
  refine ⟨G, c, S, ρ, s.wf, s.sr, (exp_out s o).imp ?_⟩
  rintro v H1 ⟨G1, c1, d, S1, s1, l1, r1, o1⟩
  cases q : mg d ρ with
  | none => rw [q] at o1; exact o1.elim
  | some ρ1 =>
    rw [q] at o1
    exact ⟨G1, c1, S1, ρ, d, ρ1, s1.wf, s1.sr, r1, q, fun σ' sr' ag => o1 σ' G1 H1 c1 (s1.asg gd q sr' ag)⟩
/-- a, b = e1, e2 -/
def sPar (i j : Nat) (ma : MA) : MS := sExp ma fun ds ρ S => match ds with
  | [d1, d2] => .next ((ρ.set i (.val d1)).set j (.val d2)) S
  | _ => .bad
theorem ss_par (i j : Nat) {y z : Str} {px py pt : Pos} {kt k2 : Nat} {pt2 : Pos} (hc : X.calm = true) (hN : X.N.Nodup) (ha : SA X T W [a, b] ma) (hi : X.N[i]? = some y := by rfl) (hj : X.N[j]? = some z := by rfl) (hij : i ≠ j := by decide)
    (hx : X.env.scope.names.lookup y = some .local := by rfl) (hy : X.env.scope.names.lookup z = some .local := by rfl)
    (hw : swappedStores [.Tuple [.Name y px, .Name z py] kt pt] (.Tuple [a, b] k2 pt2) X.env = pure (some [y, z]) := by rfl)
    (hs : swapsWithSole [.Tuple [.Name y px, .Name z py] kt pt] (.Tuple [a, b] k2 pt2) pos.line X.env = pure false := by rfl) : SS X T W (.Assign [.Tuple [.Name y px, .Name z py] kt pt] (.Tuple [a, b] k2 pt2) pos) (sPar i j ma) := by
  refine ⟨fun hK => PS.imp (ps_par hc hN hi hj hij hx hy (ha.pa hK) hw hs) fun D σ H h => ?_⟩
  obtain ⟨B, G, c, S, ρ, s, o⟩ := h
  refine ⟨G, c, S, ρ, s.wf, s.sr, (exp_out s o).imp ?_⟩
  rintro vs H1 ⟨G1, c1, ds, S1, s1, l1, r1, o1⟩
  split at o1
  · next d1 d2 =>
    obtain ⟨v, us, rfl, k1, k2⟩ := r1.cons_inv
    obtain ⟨v', us', rfl, k3, k4⟩ := k2.cons_inv
    obtain rfl := k4.nil_inv
    exact ⟨v, v', rfl, o1 _ _ _ _ ((s1.set k1).set k3)⟩
  · exact o1.elim
/-- a, b, c = e1, e2, e3 -/
def sPar3 (i j l : Nat) (ma : MA) : MS := sExp ma fun ds ρ S => match ds with
  | [d1, d2, d3] => .next (((ρ.set i (.val d1)).set j (.val d2)).set l (.val d3)) S
  | _ => .bad
theorem ss_par3 (i j l : Nat) {y z u : Str} {c : Expr} {px py pz pt : Pos} {kt k2 : Nat} {pt2 : Pos} (hc : X.calm = true) (hN : X.N.Nodup) (ha : SA X T W [a, b, c] ma) (hi : X.N[i]? = some y := by rfl) (hj : X.N[j]? = some z := by rfl) (hl : X.N[l]? = some u := by rfl) (hij : i ≠ j := by decide) (hil : i ≠ l := by decide) (hjl : j ≠ l := by decide)
    (hx : X.env.scope.names.lookup y = some .local := by rfl) (hy : X.env.scope.names.lookup z = some .local := by rfl) (hz : X.env.scope.names.lookup u = some .local := by rfl)
    (hw : swappedStores [.Tuple [.Name y px, .Name z py, .Name u pz] kt pt] (.Tuple [a, b, c] k2 pt2) X.env = pure (some [y, z, u]) := by rfl)
    (hs : swapsWithSole [.Tuple [.Name y px, .Name z py, .Name u pz] kt pt] (.Tuple [a, b, c] k2 pt2) pos.line X.env = pure false := by rfl) :
    SS X T W (.Assign [.Tuple [.Name y px, .Name z py, .Name u pz] kt pt] (.Tuple [a, b, c] k2 pt2) pos) (sPar3 i j l ma) := by
  refine ⟨fun hK => PS.imp (ps_par3 hc hN hi hj hl hij hil hjl hx hy hz (ha.pa hK) hw hs) fun D σ H h => ?_⟩
  obtain ⟨B, G, c, S, ρ, s, o⟩ := h
  refine ⟨G, c, S, ρ, s.wf, s.sr, (exp_out s o).imp ?_⟩
  rintro vs H1 ⟨G1, c1, ds, S1, s1, l1, r1, o1⟩
  split at o1
  · next d1 d2 d3 =>
    obtain ⟨v, us, rfl, k1, k2⟩ := r1.cons_inv
    obtain ⟨v', us', rfl, k3, k4⟩ := k2.cons_inv
    obtain ⟨v'', us'', rfl, k5, k6⟩ := k4.cons_inv
    obtain rfl := k6.nil_inv
    exact ⟨v, v', v'', rfl, o1 _ _ _ _ (((s1.set k1).set k3).set k5)⟩
  · exact o1.elim
/-! ### loops -/
def forL (mg : MG) (sb : MS) : List D → MS
  | [], ρ, S => .next ρ S
  | x :: xs, ρ, S => match mg x ρ with
    | some ρ1 => (match sb ρ1 S with
      | .next ρ2 S2 => forL mg sb xs ρ2 S2
      | .cont ρ2 S2 => forL mg sb xs ρ2 S2
      | .brk ρ2 S2 => .next ρ2 S2
      | r => r)
    | none => .bad
def sFor (mi : MI) (mg : MG) (sb : MS) : MS := sExp mi fun items ρ S => forL mg sb items ρ S
theorem ss_for (hp : PassesOwn (model X.prog X.w) X.A X.env X.xe) (hc : X.calm = true) (hi : SI X T W tg iter mi) (hg : SG X T tg tv mg) (gd : Good tv mg) (hb : SB X T W body sb) (hs : ∀ x, foldedSetIterable iter X.env x = pure x := by intro _; rfl) : SS X T W (.For tg iter body [] pos) (sFor mi mg sb) := by
  refine ⟨fun hK => PS.imp (ps_for hp hc (hi.pi hK) (hg.pg hK) (hb.pss hK) hs) fun D σ H h => ?_⟩
  obtain ⟨B, G, c, S, ρ, s, o⟩ := h
  refine ⟨G, c, S, ρ, s.wf, s.sr, (exp_out s o).imp ?_⟩
  rintro J H1 ⟨G1, c1, items, S1, s1, l1, wk, o1⟩
  refine for_it wk.walk (fun i σ H => ∃ G c S ρ, Sit T B σ H G c S ρ ∧ (∀ a o, G1 a = some o → G a = some o) ∧ (∃ r, c = c1 ++ r) ∧ i ≤ items.length ∧ SOut T W B D (forL mg sb (items.drop i) ρ S)) ?_ ?_ ?_ ?_
  · exact ⟨G1, c1, S1, ρ, s1, fun _ _ h => h, ⟨[], by simp⟩, Nat.zero_le _, o1⟩
  · rintro i σ' H' _ ⟨G', c', S', ρ', s', g', cc', _⟩
    exact ⟨G', c', S', s'.wf, g', cc'⟩
  · rintro i x σ2 H2 H3 hi ⟨G2, c2, S2, ρ2, s2, g2, cc2, _, o2⟩ hy
    obtain ⟨G3, d, w3, l3, e3, r3⟩ := hy G2 c2 S2 s2.wf g2 cc2
    have hdrop : items.drop i = d :: items.drop (i + 1) := by
      rw [List.drop_eq_getElem_cons hi]
      have : items[i] = d := by rw [List.getElem?_eq_getElem hi] at e3; exact Option.some.inj e3
      rw [this]
    rw [hdrop] at o2
    unfold forL at o2
    cases q1 : mg d ρ2 with
    | none => rw [q1] at o2; exact o2.elim
    | some ρ3 =>
      rw [q1] at o2
      have s3 := s2.mono w3 l3
      refine ⟨G3, c2, S2, ρ2, d, ρ3, w3, s3.sr, r3, q1, fun σ4 sr4 ag4 => ?_⟩
      have s4 := s3.asg gd q1 sr4 ag4
      -- the body, with a higher floor
      refine ⟨⟨B.G, B.H, B.c, G3, c2⟩, G3, c2, S2, ρ3, ⟨s4.le, s4.wf, s4.sr, s4.fr, fun _ _ h => h, ⟨[], by simp⟩⟩, ?_⟩
      have low : ∀ {σ' : L2.St} {H' G' : Hp} {c' : List Addr} {S' : Sto} {ρ' : Env}, Sit T ⟨B.G, B.H, B.c, G3, c2⟩ σ' H' G' c' S' ρ' → Sit T B σ' H' G' c' S' ρ' ∧ (∀ a o, G1 a = some o → G' a = some o) ∧ ∃ r, c' = c1 ++ r := fun s' =>
        ⟨⟨s'.le, s'.wf, s'.sr, s'.fr, fun a o h => s'.gf a o (s3.gf a o h), pre_trans s3.cf s'.cf⟩, fun a o h => s'.gf a o (l3.g a o (g2 a o h)), pre_trans cc2 s'.cf⟩
      cases q2 : sb ρ3 S2 with
      | next ρ5 S5 =>
        simp only [q2] at o2
        intro σ' G' H' c' s'
        obtain ⟨k1, k2, k3⟩ := low s'
        exact ⟨G', c', S5, ρ5, k1, k2, k3, hi, o2⟩
      | cont ρ5 S5 =>
        simp only [q2] at o2
        intro σ' G' H' c' s'
        obtain ⟨k1, k2, k3⟩ := low s'
        exact ⟨G', c', S5, ρ5, k1, k2, k3, hi, o2⟩
      | brk ρ5 S5 =>
        simp only [q2] at o2
        intro σ' G' H' c' s'
        obtain ⟨k1, k2, k3⟩ := low s'
        exact o2 σ' G' H' c' k1
      | ret d5 S5 => simp only [q2] at o2; exact o2
      | exc C f ρ5 S5 =>
        simp only [q2] at o2
        intro e σ' G' H' c' s' x'
        obtain ⟨k1, k2, k3⟩ := low s'
        exact o2 e σ' G' H' c' k1 x'
      | bad => simp only [q2] at o2; exact o2.elim
  · rintro σ' H' ⟨G', c', S', ρ', s', g', cc', _, o'⟩
    rw [List.drop_length] at o'
    exact o' σ' G' H' c' s'
/-- while, with at most n turns -/
def whL (mc : ME) (sb : MS) : Nat → MS
  | 0, _, _ => .bad
  | n + 1, ρ, S => sExp mc (fun d ρ S => match d with
    | .bl true => (match sb ρ S with
      | .next ρ2 S2 => whL mc sb n ρ2 S2
      | .cont ρ2 S2 => whL mc sb n ρ2 S2
      | .brk ρ2 S2 => .next ρ2 S2
      | r => r)
    | .bl false => .next ρ S
    | _ => .bad) ρ S
theorem ss_while (n : Nat) (hp : PassesOwn (model X.prog X.w) X.A X.env X.xe) (hc : SC X T W e m) (hb : SB X T W body sb) : SS X T W (.While e body [] pos) (whL m sb n) := by
  refine ⟨fun hK => PS.imp (ps_while hp (hc.pt hK) (hb.pss hK)) fun D σ H h => ?_⟩
  obtain ⟨B, G, c, S, ρ, s, o⟩ := h
  refine ⟨fun k σ H => ∃ G c S ρ, Sit T B σ H G c S ρ ∧ SOut T W B D (whL m sb k ρ S), ⟨n, G, c, S, ρ, s, o⟩, ?_⟩
  rintro k σ2 H2 ⟨G2, c2, S2, ρ2, s2, o2⟩
  cases k with
  | zero => exact o2.elim
  | succ k =>
    unfold whL at o2
    refine ⟨G2, c2, S2, ρ2, s2.wf, s2.sr, (exp_out s2 o2).imp ?_⟩
    rintro v H3 ⟨G3, c3, d, S3, s3, l3, r3, o3⟩
    cases d with
    | bl b =>
      obtain rfl := inv_bl r3
      refine ⟨b, rfl, ?_⟩
      cases b with
      | false => exact iteF (o3 σ2 G3 H3 c3 s3)
      | true =>
        refine iteT ⟨fun σ' H' => ∃ G c S ρ, Sit T B σ' H' G c S ρ ∧ SOut T W B D (whL m sb k ρ S), fun σ' H' h' => ⟨k, Nat.lt_succ_self k, h'⟩, B, G3, c3, S3, ρ2, s3, ?_⟩
        have o4 : SOut T W B D (match sb ρ2 S3 with
          | .next ρ2 S2 => whL m sb k ρ2 S2
          | .cont ρ2 S2 => whL m sb k ρ2 S2
          | .brk ρ2 S2 => .next ρ2 S2
          | r => r) := o3
        cases q2 : sb ρ2 S3 with
        | next ρ5 S5 => rw [q2] at o4; exact fun σ' G' H' c' s' => ⟨G', c', S5, ρ5, s', o4⟩
        | cont ρ5 S5 => rw [q2] at o4; exact fun σ' G' H' c' s' => ⟨G', c', S5, ρ5, s', o4⟩
        | brk ρ5 S5 => rw [q2] at o4; exact o4
        | ret d5 S5 => rw [q2] at o4; exact o4
        | exc C f ρ5 S5 => rw [q2] at o4; exact o4
        | bad => rw [q2] at o4; exact o4.elim
    | _ => exact o3.elim
end
end KF
end

section
namespace KF
open PySem PySem.Spec PyProof.Rows L2
/-! ### defs -/
def startE (n : Nat) (ds : List D) : Env := ds.map Sl.val ++ List.replicate (n - ds.length) .un
def bodyM (n : Nat) (s : MS) : MF := fun ds S => match s (startE n ds) S with
  | .next _ S1 => .ok .non S1
  | .ret d S1 => .ok d S1
  | .exc C f _ S1 => .exc C f S1
  | _ => .bad
theorem start_SR {T : Ct} {G H : Hp} {c : List Addr} {N : List Str} {ds : List D} {vs : List V} (r : Reps T G c ds vs) : SR T G H c (startE N.length ds) (L2.start N vs) := by
  have hl := r.length
  have noown : ∀ (i : Nat) (xs : List D), (startE N.length ds)[i]? ≠ some (.own xs) := fun i xs e => by
    unfold startE at e
    by_cases hi : i < ds.length
    · rw [List.getElem?_append_left (by rw [List.length_map]; exact hi), List.getElem?_map, List.getElem?_eq_getElem hi] at e
      cases e
    · rw [List.getElem?_append_right (by rw [List.length_map]; omega), List.getElem?_replicate] at e
      split at e <;> cases e
  refine ⟨?_, fun i s e => ?_, fun i j xs ys p q h => absurd h (noown i xs)⟩
  · unfold startE L2.start
    rw [List.length_append, List.length_append, List.length_map, List.length_map, List.length_replicate, List.length_replicate, hl]
  · unfold startE at e
    unfold L2.start
    by_cases hi : i < ds.length
    · rw [List.getElem?_append_left (by rw [List.length_map]; exact hi), List.getElem?_map, List.getElem?_eq_getElem hi] at e
      cases e
      obtain ⟨v, e2, rv⟩ := r.get (List.getElem?_eq_getElem hi)
      refine ⟨some v, ?_, v, rfl, rv⟩
      rw [List.getElem?_append_left (by rw [List.length_map, ← hl]; exact hi), List.getElem?_map, e2]
      rfl
    · rw [List.getElem?_append_right (by rw [List.length_map]; omega), List.length_map, List.getElem?_replicate] at e
      split at e
      · next h =>
        cases e
        refine ⟨none, ?_, trivial⟩
        rw [List.getElem?_append_right (by rw [List.length_map, ← hl]; omega), List.length_map, List.getElem?_replicate, if_pos (by rw [← hl]; exact h)]
      · cases e
section
variable {P : Program} {w : World} {K : PySem.W.Frag} {mg : Str → Option Value} {base : Heap} {T : Ct} {x qual : Str} {st : Stmt} {N ps : List Str} {kb : List Nat} {fd : FuncData} {k : Nat} {ms : MS}
/-- the meaning of a def's body, wherever it is called -/
def BodyOk (P : Program) (w : World) (K : PySem.W.Frag) (mg : Str → Option Value) (base : Heap) (T : Ct) (k : Nat) (N : List Str) (qual : Str) (st : Stmt) (f : Addr) (ms : MS) : Prop :=
  ∀ (cdv : Value) (A : Around) (outer : List PySem.Env) (s : Shared) (H : Hp) (E : XK), Room k (A.deeper (envOfC qual (defScope st) s.heap.objs.size f cdv)) →
    Takes (cxOf (L2.CX P w) P w K mg base N qual (defScope st) f cdv A outer s H E) (fun cls d _ H => E cls d H) →
    PassesOwn (model P w) (A.deeper (envOfC qual (defScope st) s.heap.objs.size f cdv)) (envOfC qual (defScope st) s.heap.objs.size f cdv) (cxOf (L2.CX P w) P w K mg base N qual (defScope st) f cdv A outer s H E).xe →
    SB (cxOf (L2.CX P w) P w K mg base N qual (defScope st) f cdv A outer s H E) T (fun cls d _ H => E cls d H) (defBody st) ms
theorem fn_ok (F : FunD K x qual (defArgs st) (defBody st) (defScope st) [] [] (T.fa x) fd) (hT : K = T.K) (S : FnScope N ps (defScope st)) (body : BodyOk P w K mg base T k N qual st (T.fa x) ms) : FnOk P w K mg base (L2.CX P w) (k + 1) (T.fa x) fd ps (spM T ps.length (bodyM N.length ms)) := by
  refine F.ok S (fun vs H Q E h => ?_) (fun cdv A outer s H vs Q E hr h => ?_)
  · obtain ⟨G, c, S, ds, _, r, hl, _⟩ := h
    rw [← r.length]
    exact hl
  · obtain ⟨G, c, S0, ds, wf, r, hl, o⟩ := h
    refine ⟨_, (body cdv A outer s H E hr (takes_of rfl rfl rfl rfl) (passes_of rfl)).pss hT, ⟨G, H, c, G, c⟩, G, c, S0, startE N.length ds, ⟨Le.refl _ _ _, wf, start_SR r, fun i xs p h => ?_, fun _ _ h => h, ⟨[], by simp⟩⟩, ?_⟩
    · exfalso
      unfold startE at h
      by_cases hi : i < ds.length
      · rw [List.getElem?_append_left (by rw [List.length_map]; exact hi), List.getElem?_map, List.getElem?_eq_getElem hi] at h
        cases h
      · rw [List.getElem?_append_right (by rw [List.length_map]; omega), List.getElem?_replicate] at h
        split at h <;> cases h
    · unfold bodyM at o
      cases q : ms (startE N.length ds) S0 with
      | next ρ S1 => rw [q] at o; exact fun σ' G' H' c' s' => o _ G' H' c' s'.wf s'.le rep_non
      | ret d S1 => rw [q] at o; exact fun v G' H' c' w' l' r' => o v G' H' c' w' l' r'
      | brk ρ S1 => rw [q] at o; exact o.elim
      | cont ρ S1 => rw [q] at o; exact o.elim
      | exc C f ρ S1 => rw [q] at o; exact fun e σ' G' H' c' s' x' => o e G' H' c' s'.wf s'.le x'
      | bad => rw [q] at o; exact o.elim
theorem fn_mk (F : FunD K x qual (defArgs st) (defBody st) (defScope st) [] [] (T.fa x) fd) (hT : K = T.K) (hm : mg x = some (.ref (T.fa x))) (S : FnScope N ps (defScope st))
    (hb : ∀ (kV doc pm : Value) (an : Option Addr) (cdv ct : Value) (us : List Value), us.length = ps.length → bindArgs (PySem.W.fnOf x qual (defArgs st) (defBody st) (defScope st) .none kV doc pm an cdv ct) ⟨us, []⟩ = pure (ps.zip us))
    (hkb : ∀ n ∈ kb, ∀ (kV doc pm : Value) (an : Option Addr) (cdv ct : Value) (us ws : List Value), us.length = n → (us ++ ws).length = ps.length → bindArgs (PySem.W.fnOf x qual (defArgs st) (defBody st) (defScope st) .none kV doc pm an cdv ct) ⟨us, (ps.drop n).zip ws⟩ = pure (ps.zip (us ++ ws)))
    (body : BodyOk P w K mg base T k N qual st (T.fa x) ms) : FnM P w K mg base T (k + 1) x ps kb (bodyM N.length ms) := by
  refine ⟨fd, fn_ok F hT S body, hm, F.kp, F.bindsN hb, fun n hn s us ws h1 h2 => ?_⟩
  obtain ⟨oc, od, dV, kV, doc, pm, an, cdv, ct, osl, rfl, lk, hcd, hD, hK⟩ := F.ex
  rcases hD with ⟨e, rfl⟩ | ⟨e, _⟩
  · exact .of_eq (hkb n hn kV doc pm an cdv ct us ws h1 h2)
  · exact absurd rfl e
end
end KF
end

section
namespace KF
open PySem PySem.Spec PyProof.Rows L2
section
variable {X : Cx} {T : Ct} {W : WX} {tg e a b : Expr} {es : List Expr} {m m1 m2 : ME} {ma : MA} {x : Str} {p pos : Pos}
/-! ### a call of a slot that holds one of several defs -/
def eCallL (i n : Nat) (tb : List (Str × MF)) (ma : MA) : ME := fun ρ S => match ρ[i]? with
  | some (.val (.fn y)) => match tb.lookup y with
    | some m => (ma ρ S).bind fun ds S1 => if ds.length = n then m ds S1 else .bad
    | none => .bad
  | _ => .bad
/-- the defs that the slot may hold -/
def Tab (X : Cx) (T : Ct) (j n : Nat) (tb : List (Str × MF)) : Prop := ∀ y m, tb.lookup y = some m → ∃ k ps kb, k ≤ j ∧ ps.length = n ∧ XFn X T k y ps kb m
theorem tb_nil {j n : Nat} : Tab X T j n [] := fun y m h => by cases h
theorem tb_cons {j n k : Nat} {y : Str} {ps : List Str} {kb : List Nat} {mf : MF} {tb : List (Str × MF)} (F : XFn X T k y ps kb mf) (hk : k ≤ j) (t : Tab X T j n tb) (hn : ps.length = n := by rfl) : Tab X T j n ((y, mf) :: tb) := fun z m h => by
  by_cases e : z = y
  · subst e
    simp [List.lookup] at h
    subst h
    exact ⟨k, ps, kb, hk, hn, F⟩
  · have e' : (z == y) = false := by simpa using e
    simp [List.lookup, e'] at h
    exact t z m h
theorem se_callL (i : Nat) {j n : Nat} {tb : List (Str × MF)} (t : Tab X T j n tb) (hr : Room j X.A) (tk : Takes X W) (ha : SA X T W (e :: es) ma) (hN : X.N[i]? = some x := by rfl) (hv : Vis X.env.scope x := by first | exact Or.inl rfl | exact Or.inr (Or.inl rfl) | exact Or.inr (Or.inr rfl))
    (hdb : (x == ("__debug__" : Str)) = false := by decide) (hcd : (x == ("__classdict__" : Str)) = false := by decide)
    (he : starEach (e :: es) X.env = (false, eval e X.env) :: starEach es X.env := by rfl) (hpl : (backTo pos (starEach es X.env)).any (·.1) = false := by rfl) : SE X T W (.Call (.Name x p) (e :: es) [] pos) (eCallL i n tb ma) := by
  refine ⟨fun hK => ⟨fun pins s σ H Q I h => ?_⟩⟩
  obtain ⟨G, c, S, ρ, w, sr, o⟩ := h
  unfold eCallL at o
  cases q : ρ[i]? with
  | none => rw [q] at o; exact o.elim
  | some sl =>
    cases sl with
    | un => rw [q] at o; exact o.elim
    | own xs => rw [q] at o; exact o.elim
    | val d =>
      cases d with
      | fn y =>
        obtain ⟨v, hs, rv⟩ := sr.val q
        obtain rfl := inv_fn rv
        rw [q] at o
        dsimp only at o
        cases q2 : tb.lookup y with
        | none => rw [q2] at o; exact o.elim
        | some mf =>
          rw [q2] at o
          dsimp only at o
          obtain ⟨k, ps, kb, hk, hn, F⟩ := t y mf q2
          subst hn
          obtain ⟨fd, h1, h2, h3, h4, _⟩ := F.ex
          refine wpAny_Call_Name_kw (thn ((pe_var (pos := p) hN hv hdb hcd).run pins s σ H (fun v H1 => v = .ref (T.fa y) ∧ H1 = H) I ⟨_, hs, rfl, rfl⟩) fun u s1 ⟨v, H1, I1, r1, q1⟩ => ?_)
          obtain ⟨rfl, rfl⟩ := q1
          cases r1
          refine PySem.W.callWith_K (h₀ := X.base) I.ok.mod.kin h3 (thn ((ha.pa hK).run pos pins s1 σ _ _ I1 ⟨G, c, S, ρ, w, sr, Out.bind o⟩) fun us s2 ⟨vs, H2, I2, r, q⟩ => ⟨I2.kIn, ?_⟩) he hpl
          obtain ⟨G1, c1, ds, S1, w1, l1, r1, o1⟩ := q
          exact run_fnS (E := WE W) h1 (hr.mono hk) h4 (passAt tk σ) I2 r (call_sp w1 r1 o1)
      | _ => rw [q] at o; exact o.elim
/-! ### comprehensions of two fors -/
/-- the tests behind a for -/
structure ST (X : Cx) (T : Ct) (ifs : List Expr) (m : ME) : Prop where
  pts : X.K = T.K → PTs X ifs (tB (tE T W0 m))
theorem st_nil : ST X T [] cYes := ⟨fun _ => tests_none⟩
theorem st_one (h : SC X T W0 a m) : ST X T [a] m := ⟨fun hK => pts_one (h.pt hK)⟩
def PTs.imp {ts : List Expr} {t t' : TT} (h : PTs X ts t) (i : ∀ σ H Q, t' σ H Q → t σ H Q) : PTs X ts t' := ⟨fun pins s σ H Q I hq => h.run pins s σ H Q I (i σ H Q hq)⟩
/-- one's own lists put out of sight -/
def hideE (ρ : Env) : Env := ρ.map fun s => match s with
  | .own _ => .un
  | s => s
theorem hide_own {ρ : Env} {i : Nat} {xs : List D} : (hideE ρ)[i]? ≠ some (.own xs) := fun h => by
  unfold hideE at h
  rw [List.getElem?_map] at h
  cases q : ρ[i]? with
  | none => rw [q] at h; cases h
  | some s => rw [q] at h; cases s <;> cases h
theorem hide_SR {G H : Hp} {c : List Addr} {ρ : Env} {σ : L2.St} (r : SR T G H c ρ σ) : SR T G H c (hideE ρ) σ := by
  refine ⟨by unfold hideE; rw [List.length_map]; exact r.len, fun i s h => ?_, fun i j xs ys p q h => absurd h hide_own⟩
  unfold hideE at h
  rw [List.getElem?_map] at h
  cases q : ρ[i]? with
  | none => rw [q] at h; cases h
  | some s' =>
    rw [q] at h
    obtain ⟨o, e1, e2⟩ := r.at_ i s' q
    refine ⟨o, e1, ?_⟩
    cases s' with
    | un => cases h; exact e2
    | val d => cases h; exact e2
    | own xs => cases h; exact trivial
theorem srMonoN {G H G' H' : Hp} {c c' : List Addr} {ρ : Env} {σ : L2.St} (n : ∀ (i : Nat) (xs : List D), ρ[i]? ≠ some (Sl.own xs)) (g : ∀ a o, G a = some o → G' a = some o) (hc : ∃ r, c' = c ++ r) (r : SR T G H c ρ σ) : SR T G' H' c' ρ σ := by
  refine ⟨r.len, fun i s h => ?_, fun i j xs ys p q h => absurd h (n _ _)⟩
  obtain ⟨o, e1, e2⟩ := r.at_ i s h
  refine ⟨o, e1, ?_⟩
  cases s with
  | un => exact e2
  | val d =>
    obtain ⟨v, e3, e4⟩ := e2
    exact ⟨v, e3, Rep.mono0 g (fun n p h => by obtain ⟨r, rfl⟩ := hc; rw [List.getElem?_append_left (List.getElem?_eq_some_iff.mp h).1]; exact h) d v e4⟩
  | own xs => exact absurd h (n _ _)
def lcLoop2 (mg : MG) (mt : ME) (mi1 : MI) (mg1 : MG) (mt1 me : ME) (vs1 : List Nat) (ρ0 : Env) : List D → List D → Sto → Rs (List D)
  | [], acc, S => .ok acc S
  | x :: xs, acc, S => match mg x ρ0 with
    | some ρ1 => (mt ρ1 S).bind fun b S1 => match b with
      | .bl true => (mi1 ρ1 S1).bind fun items1 S2 => if acc.length + items1.length ≤ 10000 then (lcLoop mg1 mt1 me (hideE (wipeE ρ1 vs1)) items1 acc S2).bind fun acc1 S3 => lcLoop2 mg mt mi1 mg1 mt1 me vs1 ρ0 xs acc1 S3 else .bad
      | .bl false => lcLoop2 mg mt mi1 mg1 mt1 me vs1 ρ0 xs acc S1
      | _ => .bad
    | none => .bad
def eLC2 (vs : List Nat) (mi : MI) (mg : MG) (mt : ME) (vs1 : List Nat) (mi1 : MI) (mg1 : MG) (mt1 me : ME) : MA := fun ρ S => (mi ρ S).bind fun items S1 => noX ((lcLoop2 mg mt mi1 mg1 mt1 me vs1 (wipeE ρ vs) items [] S1).bind fun xs S => if xs.length ≤ 10000 then .ok xs S else .bad)
/-- an inner loop of a comprehension, over a walk -/
theorem lc_in {J : It} {n : Nat} {GG : Hp → Prop} {Y : Nat → Hp → V → Hp → Prop} (w : Walk J n GG Y) {g : TG} {tt : TT} {te : TE} {vs : List Nat} {σ : L2.St} {H1 : Hp} {D : Addr} {Qd : Hp → Prop} (Pv : Nat → Hp → Prop) (h0 : Pv 0 H1) (hG : ∀ i H, i ≤ n → Pv i H → GG H)
    (hs : ∀ i x H H', i < n → Pv i H → Y i H x H' → g x (wipe σ vs) H' fun σ2 H2 => wipe σ2 vs = wipe σ vs ∧ tt σ2 H2 fun b H3 =>
      if b = true then te σ2 H3 fun y H4 => ∃ acc, H4 D = some (.lst acc) ∧ acc.length < sizeLine ∧ Pv (i + 1) (upd H4 D (.lst (acc ++ [y]))) else Pv (i + 1) H3) (hd : ∀ H, Pv n H → Qd H) :
    ∃ W : Nat → Nat → Hp → Prop, (∃ m, W 0 m H1) ∧ ∀ i m H, W i m H →
      (J.stop i H ∧ Qd H) ∨ (J.go i H ∧ ∃ Nx : Hp → Prop, (∀ H', Nx H' → ∃ m', m' < m ∧ W (i + 1) m' H') ∧ ∀ x H', J.yld i H x H' → g x (wipe σ vs) H' fun σ2 H2 => wipe σ2 vs = wipe σ vs ∧ tt σ2 H2 fun b H3 =>
        if b = true then te σ2 H3 fun y H4 => ∃ acc, H4 D = some (.lst acc) ∧ acc.length < sizeLine ∧ Nx (upd H4 D (.lst (acc ++ [y]))) else Nx H3) := by
  refine ⟨fun i m H => m = n - i ∧ i ≤ n ∧ Pv i H, ⟨n, by simp, Nat.zero_le _, h0⟩, ?_⟩
  rintro i m H ⟨rfl, hi, p⟩
  have q := hG i H hi p
  by_cases hlt : i < n
  · refine .inr ⟨w.goes i H hlt q, Pv (i + 1), fun H' p' => ⟨n - (i + 1), by omega, rfl, hlt, p'⟩, fun x H' y => hs i x H H' hlt p (w.yields i H x H' hlt q y)⟩
  · have e : i = n := by omega
    subst e
    exact .inl ⟨w.stops H q, hd H p⟩
theorem lc2_read {mi mi1 : MI} {mg mg1 : MG} {mt mt1 me : ME} {vs vs1 tv tv1 : List Nat} (htv : ∀ k ∈ tv, k ∈ vs) (htv1 : ∀ k ∈ tv1, k ∈ vs1) {σ : L2.St} {H : Hp} {Q : VK} (h : tN T W (eLC2 vs mi mg mt vs1 mi1 mg1 mt1 me) σ H Q) :
    tLc2 (tI T W mi) (tG T tv mg) (tB (tE T W0 mt)) (tI T W0 mi1) (tG T tv1 mg1) (tB (tE T W0 mt1)) (tE T W0 me) vs vs1 σ H Q := by
  obtain ⟨G, c, S, ρ, w, sr, o⟩ := h
  refine ⟨G, c, S, ρ, w, sr, (OutN.bind o).imp ?_⟩
  rintro J H1 ⟨G1, c1, items, S1, w1, l1, wk, o1⟩
  intro D hD
  have srw : SR T G1 H1 c1 (wipeE ρ vs) (wipe σ vs) := wipe_SR (sr.mono l1) vs
  cases q : (lcLoop2 mg mt mi1 mg1 mt1 me vs1 (wipeE ρ vs) items [] S1).bind fun xs S => if xs.length ≤ 10000 then .ok xs S else .bad with
  | exc C f S' => rw [q] at o1; exact o1.elim
  | bad => rw [q] at o1; exact o1.elim
  | ok ys S' =>
    rw [q] at o1
    have o2 : RNew T G H c Q ys S' := o1
    obtain ⟨ys', S'', q, q'⟩ := bind_ok q
    by_cases hys : ys'.length ≤ 10000
    case neg => rw [if_neg hys] at q'; cases q'
    rw [if_pos hys] at q'
    cases q'
    obtain ⟨w2, l2⟩ := w1.laidN (o := .lst []) hD
    let Pv : Nat → Hp → Prop := fun i H => ∃ G c S acc ws, Wf T G H c S ∧ Le G1 H1 c1 G H c ∧ H D = some (.lst ws) ∧ G D = none ∧ D ∉ c ∧ Reps T G c acc ws ∧ lcLoop2 mg mt mi1 mg1 mt1 me vs1 (wipeE ρ vs) (items.drop i) acc S = .ok ys S'
    refine ⟨fun i m H => m = items.length - i ∧ i ≤ items.length ∧ Pv i H, ⟨items.length, by simp, Nat.zero_le _, G1, c1, S1, [], [], w2, l2, upd_same, w1.inH hD, w1.cN hD, Reps.nil, q⟩, ?_⟩
    rintro i mm H2 ⟨rfl, hi', pv⟩
    have wkG := wk.walk
    have hgood : ∃ G c S, Wf T G H2 c S ∧ (∀ a o, G1 a = some o → G a = some o) ∧ ∃ r, c = c1 ++ r := by
      obtain ⟨G2, c2, S2, acc, ws, w2', l2', _⟩ := pv
      exact ⟨G2, c2, S2, w2', l2'.g, l2'.cc⟩
    by_cases hi : i < items.length
    case neg =>
      have e : i = items.length := by omega
      subst e
      obtain ⟨G2, c2, S2, acc, ws, w2', l2', d1, d2, d3, d4, d7⟩ := pv
      rw [List.drop_length] at d7
      unfold lcLoop2 at d7
      cases d7
      exact .inl ⟨wkG.stops H2 hgood, o2 D G2 H2 c2 ws w2' (l1.trans l2') (l1.dom D hD) d1 d2 d3 (Nat.le_trans hys tenk) d4⟩
    refine .inr ⟨wkG.goes i H2 hi hgood, Pv (i + 1), fun H' p' => ⟨items.length - (i + 1), by omega, rfl, hi, p'⟩, fun x H3 hyl => ?_⟩
    have hy := wkG.yields i H2 x H3 hi hgood hyl
    obtain ⟨G2, c2, S2, acc, ws, w2', l2', d1, d2, d3, d4, d7⟩ := pv
    obtain ⟨G3, d, w3, l3, e3, r3⟩ := hy G2 c2 S2 w2' l2'.g l2'.cc
    have hdrop : items.drop i = d :: items.drop (i + 1) := by
      rw [List.drop_eq_getElem_cons hi]
      have : items[i] = d := by rw [List.getElem?_eq_getElem hi] at e3; exact Option.some.inj e3
      rw [this]
    rw [hdrop] at d7
    unfold lcLoop2 at d7
    cases q1 : mg d (wipeE ρ vs) with
    | none => rw [q1] at d7; cases d7
    | some ρ1 =>
      rw [q1] at d7
      obtain ⟨b, S4, e4, d7⟩ := bind_ok d7
      have sr3 : SR T G3 H3 c2 (wipeE ρ vs) (wipe σ vs) := srw.mono (l2'.trans l3)
      refine ⟨G3, c2, S2, wipeE ρ vs, d, ρ1, w3, sr3, r3, q1, fun σ2 sr2 ag => ⟨wipe_agr ag htv, G3, c2, S2, ρ1, w3, sr2, ?_⟩⟩
      rw [e4]
      intro v4 G4 H4 c4 w4 l4 r4
      obtain ⟨k1, k2, k3⟩ := l3.fr D _ d1 d3 d2
      obtain ⟨k1, k2, k3⟩ := l4.fr D _ k1 k2 k3
      have L4 := (l2'.trans l3).trans l4
      cases b with
      | bl b =>
        obtain rfl := inv_bl r4
        refine ⟨b, rfl, ?_⟩
        cases b with
        | false => exact iteF ⟨G4, c4, S4, acc, ws, w4, L4, k1, k3, k2, (d4.mono l3).mono l4, d7⟩
        | true =>
          obtain ⟨items1, S5, e5, d7⟩ := bind_ok d7
          refine iteT ⟨G4, c4, S4, ρ1, w4, sr2.mono l4, ?_⟩
          rw [e5]
          intro J1 G5 H5 c5 w5 l5 wk1
          obtain ⟨k1, k2, k3⟩ := l5.fr D _ k1 k2 k3
          have d7 : (if acc.length + items1.length ≤ 10000 then (lcLoop mg1 mt1 me (hideE (wipeE ρ1 vs1)) items1 acc S5).bind fun acc1 S3 => lcLoop2 mg mt mi1 mg1 mt1 me vs1 (wipeE ρ vs) (items.drop (i + 1)) acc1 S3 else .bad) = .ok ys S' := d7
          by_cases hz1 : acc.length + items1.length ≤ 10000
          case neg => rw [if_neg hz1] at d7; cases d7
          rw [if_pos hz1] at d7
          obtain ⟨acc1, S6, e6, d7⟩ := bind_ok d7
          have L5 := L4.trans l5
          have srw1 : SR T G5 H5 c5 (hideE (wipeE ρ1 vs1)) (wipe σ2 vs1) := hide_SR (wipe_SR ((sr2.mono l4).mono l5) vs1)
          -- the inner loop, told as it stands within the outer
          refine lc_in wk1.walk (fun j H => ∃ G c S acc' ws, Wf T G H c S ∧ Le G1 H1 c1 G H c ∧ (∀ a o, G5 a = some o → G a = some o) ∧ (∃ r, c = c5 ++ r) ∧ SR T G H c (hideE (wipeE ρ1 vs1)) (wipe σ2 vs1) ∧ H D = some (.lst ws) ∧ G D = none ∧ D ∉ c ∧ Reps T G c acc' ws ∧ acc'.length ≤ acc.length + j ∧ j ≤ items1.length ∧ lcLoop mg1 mt1 me (hideE (wipeE ρ1 vs1)) (items1.drop j) acc' S = .ok acc1 S6) ?_ ?_ ?_ ?_
          · exact ⟨G5, c5, S5, acc, ws, w5, L5, fun _ _ h => h, ⟨[], by simp⟩, srw1, k1, k3, k2, ((d4.mono l3).mono l4).mono l5, Nat.le_refl _, Nat.zero_le _, e6⟩
          · rintro j H' _ ⟨G', c', S', acc', ws', w', l', g', cc', _⟩
            exact ⟨G', c', S', w', g', cc'⟩
          · rintro j x1 H6 H7 hj ⟨G6, c6, S6', acc', ws', w6, l6, g6, cc6, sr6, f1, f2, f3, f4, f5, f6, f7⟩ hy1
            obtain ⟨G7, d', w7, l7, e7, r7⟩ := hy1 G6 c6 S6' w6 g6 cc6
            have hdrop1 : items1.drop j = d' :: items1.drop (j + 1) := by
              rw [List.drop_eq_getElem_cons hj]
              have : items1[j] = d' := by rw [List.getElem?_eq_getElem hj] at e7; exact Option.some.inj e7
              rw [this]
            rw [hdrop1] at f7
            unfold lcLoop at f7
            cases q8 : mg1 d' (hideE (wipeE ρ1 vs1)) with
            | none => rw [q8] at f7; cases f7
            | some ρ3 =>
              rw [q8] at f7
              obtain ⟨b, S8, e8, f7⟩ := bind_ok f7
              refine ⟨G7, c6, S6', hideE (wipeE ρ1 vs1), d', ρ3, w7, sr6.mono l7, r7, q8, fun σ3 sr8 ag1 => ⟨wipe_agr ag1 htv1, G7, c6, S6', ρ3, w7, sr8, ?_⟩⟩
              rw [e8]
              intro v8 G8 H8 c8 w8 l8 r8
              obtain ⟨k1, k2, k3⟩ := l7.fr D _ f1 f3 f2
              obtain ⟨k1, k2, k3⟩ := l8.fr D _ k1 k2 k3
              have L8 := (l6.trans l7).trans l8
              have g8 : ∀ a o, G5 a = some o → G8 a = some o := fun a o h => l8.g _ _ (l7.g _ _ (g6 a o h))
              have cc8 := pre_trans (pre_trans cc6 l7.cc) l8.cc
              have sr8' := (sr6.mono l7).mono l8
              cases b with
              | bl b =>
                obtain rfl := inv_bl r8
                refine ⟨b, rfl, ?_⟩
                cases b with
                | false => exact iteF ⟨G8, c8, S8, acc', ws', w8, L8, g8, cc8, sr8', k1, k3, k2, (f4.mono l7).mono l8, by omega, hj, f7⟩
                | true =>
                  obtain ⟨y, S9, e9, f7⟩ := bind_ok f7
                  refine iteT ⟨G8, c8, S8, ρ3, w8, sr8.mono l8, ?_⟩
                  rw [e9]
                  intro v9 G9 H9 c9 w9 l9 r9
                  obtain ⟨k1, k2, k3⟩ := l9.fr D _ k1 k2 k3
                  have ha : ws'.length = acc'.length := (f4.length).symm
                  have ht := tenk
                  have sr9 := sr8'.mono l9
                  refine ⟨ws', k1, by omega, G9, c9, S9, acc' ++ [y], ws' ++ [v9], w9.wrote k3 k2, (L8.trans l9).fresh hD, fun a o h => l9.g _ _ (g8 a o h), pre_trans cc8 l9.cc, ?_, upd_same, k3, k2, (((f4.mono l7).mono l8).mono l9).append (Reps.cons r9 Reps.nil), ?_, hj, f7⟩
                  · exact srMonoN (fun _ _ => hide_own) (fun _ _ h => h) ⟨[], by simp⟩ sr9
                  · rw [List.length_append]
                    show acc'.length + 1 ≤ _
                    omega
              | _ => cases f7
          · rintro H' ⟨G', c', S', acc', ws', w', l', g', cc', _, f1, f2, f3, f4, f5, f6, f7⟩
            rw [List.drop_length] at f7
            unfold lcLoop at f7
            cases f7
            exact ⟨G', c', _, acc1, ws', w', l', f1, f2, f3, f4, d7⟩
      | _ => cases d7
variable {elt tg1 iter iter1 : Expr} {ifs ifs1 : List Expr} {scope : Scope} {mi mi1 : MI} {mg mg1 : MG} {mt mt1 me : ME} {tv tv1 : List Nat}
/-- [elt for tg in iter .. for tg1 in iter1 ..] -/
theorem sn_lc2 (own : List (Str × Nat)) (vs1 : List Nat) (hc : X.calm = true) (hN : X.N.Nodup) (ok : BlkOk X.N X.env.scope scope own) (hi : SI X T W tg iter mi) (hg : ∀ s H C cl fp, SG (XB X s H scope C cl fp) T tg tv mg) (ht : ∀ s H C cl fp, ST (XB X s H scope C cl fp) T ifs mt)
    (hi1 : ∀ s H C cl fp, SI (XB X s H scope C cl fp) T W0 tg1 iter1 mi1) (hg1 : ∀ s H C cl fp, SG (XB X s H scope C cl fp) T tg1 tv1 mg1) (ht1 : ∀ s H C cl fp, ST (XB X s H scope C cl fp) T ifs1 mt1) (he : ∀ s H C cl fp, SE (XB X s H scope C cl fp) T W0 elt me)
    (htv : ∀ k ∈ tv, k ∈ own.map (·.2) := by decide) (htv1 : ∀ k ∈ tv1, k ∈ vs1 := by decide) (hv : ∀ i ∈ vs1, i ∈ own.map (·.2) := by decide) (hs : ∀ x, foldedSetIterable iter X.env x = pure x := by intro _; rfl) (hs1 : ∀ env x, foldedSetIterable iter1 env x = pure x := by intro _ _; rfl) :
    SN X T W (.ListComp elt [⟨tg, iter, ifs, 0⟩, ⟨tg1, iter1, ifs1, 0⟩] scope pos) (eLC2 (own.map (·.2)) mi mg mt vs1 mi1 mg1 mt1 me) :=
  ⟨fun hK => PE.imp (pe_lc2 hc hN (hi.pi hK) ok hv (fun s H C cl fp => (hg s H C cl fp).pg hK) (fun s H C cl fp => (ht s H C cl fp).pts hK) (fun s H C cl fp => (hi1 s H C cl fp).pi hK) (fun s H C cl fp => (hg1 s H C cl fp).pg hK) (fun s H C cl fp => (ht1 s H C cl fp).pts hK) (fun s H C cl fp => (he s H C cl fp).pe hK) hs hs1) fun _ _ _ h => lc2_read htv htv1 h⟩
end
/-! ### defs that the proof never comes to -/
section
variable {P : Program} {w : World} {K : PySem.W.Frag} {mg : Str → Option Value} {base : Heap} {T : Ct} {x qual : Str} {st : Stmt} {N ps : List Str} {kb : List Nat} {fd : FuncData} {k : Nat}
def mBad : MF := fun _ _ => .bad
theorem fn_never (F : FunD K x qual (defArgs st) (defBody st) (defScope st) [] [] (T.fa x) fd) (hT : K = T.K) (hm : mg x = some (.ref (T.fa x))) (S : FnScope N ps (defScope st))
    (hb : ∀ (kV doc pm : Value) (an : Option Addr) (cdv ct : Value) (us : List Value), us.length = ps.length → bindArgs (PySem.W.fnOf x qual (defArgs st) (defBody st) (defScope st) .none kV doc pm an cdv ct) ⟨us, []⟩ = pure (ps.zip us))
    (hkb : ∀ n ∈ kb, ∀ (kV doc pm : Value) (an : Option Addr) (cdv ct : Value) (us ws : List Value), us.length = n → (us ++ ws).length = ps.length → bindArgs (PySem.W.fnOf x qual (defArgs st) (defBody st) (defScope st) .none kV doc pm an cdv ct) ⟨us, (ps.drop n).zip ws⟩ = pure (ps.zip (us ++ ws))) :
    FnM P w K mg base T (k + 1) x ps kb mBad := fn_mk F hT hm S hb hkb (ms := sBad) fun cdv A outer s H E hr tk hp => sb_never
end
end KF
end

section
namespace KF
open PySem PySem.Spec PyProof.Rows L2
section
variable {X : Cx} {T : Ct} {W : WX} {tg e a b : Expr} {es : List Expr} {m m1 m2 : ME} {ma : MA} {x : Str} {p pos : Pos}
/-! ### a new list, as a cell -/
def eNewC (ma : MA) : ME := fun ρ S => (ma ρ S).bind fun xs S1 => .ok (.cell S1.length) (S1 ++ [xs])
theorem newC_wf {G H G' H' : Hp} {c c' : List Addr} {S1 : Sto} {xs : List D} {p : Addr} {vs : List V} (w' : Wf T G' H' c' S1) (l' : Le G H c G' H' c') (h1 : H p = none) (h2 : H' p = some (.lst vs)) (h3 : G' p = none) (h4 : p ∉ c') (h6 : Reps T G' c' xs vs) :
    Wf T G' H' (c' ++ [p]) (S1 ++ [xs]) ∧ Le G H c G' H' (c' ++ [p]) ∧ (c' ++ [p])[S1.length]? = some p := by
  have hg : ∀ (n : Nat) (a : Addr), c'[n]? = some a → (c' ++ [p])[n]? = some a := fun n a e => by rw [List.getElem?_append_left (List.getElem?_eq_some_iff.mp e).1]; exact e
  refine ⟨?_, ?_, ?_⟩
  · refine ⟨w'.sub, by rw [List.length_append, List.length_append, w'.len]; rfl, fun n ys a e1 e2 => ?_, ?_⟩
    · by_cases hn : n < c'.length
      · rw [List.getElem?_append_left hn] at e2
        rw [List.getElem?_append_left (by rw [← w'.len]; exact hn)] at e1
        obtain ⟨k1, us, k2, k3⟩ := w'.cel n ys a e1 e2
        exact ⟨k1, us, k2, Reps.mono0 (fun _ _ h => h) hg ys us k3⟩
      · rw [List.getElem?_append_right (by omega)] at e2
        rw [List.getElem?_append_right (by rw [← w'.len]; omega)] at e1
        have hz : n - c'.length = 0 := by have := (List.getElem?_eq_some_iff.mp e2).1; simp at this; omega
        have hz' : n - S1.length = 0 := by rw [← w'.len]; exact hz
        rw [hz] at e2
        rw [hz'] at e1
        cases e1
        cases e2
        exact ⟨h3, vs, h2, Reps.mono0 (fun _ _ h => h) hg xs vs h6⟩
    · rw [List.nodup_append]
      refine ⟨w'.nd, by simp, fun a ha b hb => ?_⟩
      rw [List.mem_singleton] at hb
      subst hb
      exact fun e => h4 (e ▸ ha)
  · obtain ⟨r, hr⟩ := l'.cc
    refine ⟨l'.g, ⟨r ++ [p], by rw [hr, List.append_assoc]⟩, fun a u e1 e2 e3 => ?_, l'.dom⟩
    obtain ⟨k1, k2, k3⟩ := l'.fr a u e1 e2 e3
    refine ⟨k1, fun hm => ?_, k3⟩
    rcases List.mem_append.mp hm with hm | hm
    · exact k2 hm
    · rw [List.mem_singleton] at hm
      rw [hm, h1] at e1
      cases e1
  · rw [← w'.len, List.getElem?_append_right (Nat.le_refl _)]
    simp
theorem newC_read {σ : L2.St} {H : Hp} {Q : VK} (h : tE T W (eNewC ma) σ H Q) : tN T W ma σ H Q := by
  obtain ⟨G, c, S, ρ, w, sr, o⟩ := h
  refine ⟨G, c, S, ρ, w, sr, ?_⟩
  unfold eNewC at o
  cases q : ma ρ S with
  | ok xs S1 =>
    rw [q] at o
    intro p G' H' c' vs w' l' h1 h2 h3 h4 h5 h6
    obtain ⟨k1, k2, k3⟩ := newC_wf w' l' h1 h2 h3 h4 h6
    exact o _ G' H' (c' ++ [p]) k1 k2 ⟨p, rfl, k3⟩
  | exc C f S1 => rw [q] at o; exact o
  | bad => rw [q] at o; exact o.elim
theorem se_newC (h : SN X T W e ma) : SE X T W e (eNewC ma) := ⟨fun hK => PE.imp (h.pe hK) fun _ _ _ q => newC_read q⟩
/-! ### sorted, ints -/
def srt (ns : List Int) : List Int := ns.mergeSort fun a b => decide (a ≤ b)
theorem srt_perm (ns : List Int) : (srt ns).Perm ns := List.mergeSort_perm _ _
theorem srt_pw (ns : List Int) : (srt ns).Pairwise (· ≤ ·) := by
  have := List.pairwise_mergeSort (le := fun (a b : Int) => decide (a ≤ b)) (fun a b c h1 h2 => by simp at *; omega) (fun a b => by simp; omega) ns
  exact this.imp fun h => by simpa using h
theorem srt_uniq {ns ns' : List Int} (h : ns'.Perm ns) (hp : ns'.Pairwise (· ≤ ·)) : ns' = srt ns :=
  List.Perm.eq_of_pairwise (le := (· ≤ ·)) (fun a b _ _ h1 h2 => Int.le_antisymm h1 h2) hp (srt_pw ns) (h.trans (srt_perm ns).symm)
def gSorted : GL := fun ds _ => match ds with
  | [.lst xs] => (intsD xs).bind fun ns => if ns.length ≤ sizeLine then some (.lst ((srt ns).map D.int)) else none
  | _ => none
theorem ints_reps {G : Hp} {c : List Addr} : ∀ ns : List Int, Reps T G c (ns.map D.int) (ns.map V.int)
  | [] => Reps.nil
  | n :: ns => Reps.cons rep_int (ints_reps ns)
theorem cs_sorted : CallS X T (.builtin "sorted") gSorted := cs_by cr_sortedI fun vs H Q G c S ds d hK w rs e q => by
  cases ds with
  | nil => cases e
  | cons d1 rr =>
    cases rr with
    | cons d2 r => cases d1 <;> cases e
    | nil =>
      cases d1 with
      | lst xs =>
        obtain ⟨v, us, rfl, r1, r2⟩ := rs.cons_inv
        obtain rfl := r2.nil_inv
        obtain ⟨_, a, ws, rfl, s, t⟩ := inv_lst r1
        have e : (intsD xs).bind (fun ns => if ns.length ≤ sizeLine then some (D.lst ((srt ns).map D.int)) else none) = some d := e
        cases h : intsD xs with
        | none => rw [h] at e; cases e
        | some ns =>
          rw [h] at e
          have e : (if ns.length ≤ sizeLine then some (D.lst ((srt ns).map D.int)) else none) = some d := e
          split at e
          · next hz =>
            cases e
            rw [ints_eq h] at t
            rw [reps_ints t] at s
            refine ⟨a, ns, rfl, by rw [hK]; exact SqL.of (w.sub _ _ s), fun ns' p hp hs hn => ?_⟩
            obtain rfl := srt_uniq hp hs
            obtain ⟨w2, l2⟩ := w.laid (o := .lst ((srt ns).map V.int)) hn
            exact q _ _ _ w2 l2 (rep_lst (by rw [List.length_map, (srt_perm ns).length_eq]; exact hz) upd_same (ints_reps _))
          · cases e
      | _ => cases e
end
end KF
end

section
namespace KF
open PySem PySem.Spec PyProof.Rows L2
open PySem.Sem (wp)
/-! ### a list or a tuple, as the heap has it -/
def AsSq (k : Bool) (h : Heap) (l : Addr) (xs : Array Value) : Prop := if k = true then h.IsList l xs else h.IsTuple l xs
def AsIt (k : Bool) (h : Heap) (it l : Addr) (i : Nat) : Prop := if k = true then h.IsListIter it l i else h.IsTupleIter it l i
theorem AsSq.ext {k : Bool} {h h' : Heap} {a b : Addr} {xs : Array Value} (x : AsSq k h a xs) (hs : Heap.ExtBut b h h') (hab : a ≠ b) : AsSq k h' a xs := by
  cases k
  · exact Heap.IsTuple.extBut (show h.IsTuple a xs from x) hs hab
  · exact Heap.IsList.extBut (show h.IsList a xs from x) hs hab
theorem AsIt.ext {k : Bool} {h h' : Heap} {a b l : Addr} {i : Nat} (x : AsIt k h a l i) (hs : Heap.ExtBut b h h') (hab : a ≠ b) : AsIt k h' a l i := by
  cases k
  · exact Heap.IsTupleIter.extBut (show h.IsTupleIter a l i from x) hs hab
  · exact Heap.IsListIter.extBut (show h.IsListIter a l i from x) hs hab
theorem AsIt.keep {k : Bool} {h h' : Heap} {a l : Addr} {i : Nat} (x : AsIt k h a l i) (e : ∀ o, h.get? a = some o → h'.get? a = some o) : AsIt k h' a l i := by
  cases k
  · exact Heap.IsTupleIter.at (show h.IsTupleIter a l i from x) e
  · exact Heap.IsListIter.at (show h.IsListIter a l i from x) e
theorem AsIt.obj {k : Bool} {h : Heap} {a l : Addr} {i : Nat} (x : AsIt k h a l i) : ∃ o, h.get? a = some o ∧ ∀ v, o.data ≠ .cell v := by
  cases k
  · obtain ⟨o, e, _, d⟩ := (show h.IsTupleIter a l i from x)
    exact ⟨o, e, fun v q => by rw [d] at q; cases q⟩
  · obtain ⟨o, e, _, d⟩ := (show h.IsListIter a l i from x)
    exact ⟨o, e, fun v q => by rw [d] at q; cases q⟩
theorem AsIt.lt {k : Bool} {h : Heap} {a l : Addr} {i : Nat} (x : AsIt k h a l i) : a < h.objs.size := by
  obtain ⟨o, e, _⟩ := x.obj
  exact Heap.lt_size e
section
variable {prog : Program} {w : World} {A : Around} {E : Value → Shared → Prop} {s : Shared}
theorem as_item {k : Bool} {it l : Addr} {i : Nat} {xs : Array Value} {x : Value} {Q : Value → Shared → Prop} (hit : AsIt k s.heap it l i) (hl : AsSq k s.heap l xs) (hx : xs[i]? = some x)
    (hQ : ∀ h', AsIt k h' it l (i + 1) → Heap.SameBut it s.heap h' → Q x { s with heap := h' }) : wpAny (model prog w) A (Builtin.SmallTypes.nextOf (.ref it)) Q E s := by
  cases k
  · exact RZ.nextOf_tuple_item (show s.heap.IsTupleIter it l i from hit) (show s.heap.IsTuple l xs from hl) hx hQ
  · exact wpAny_nextOf_list_item (show s.heap.IsListIter it l i from hit) (show s.heap.IsList l xs from hl) hx hQ
theorem as_end {k : Bool} {it l : Addr} {i : Nat} {xs : Array Value} {Q : Value → Shared → Prop} (hh : A.handled = none) (hit : AsIt k s.heap it l i) (hl : AsSq k s.heap l xs) (hx : xs[i]? = none)
    (hE : ∀ h' e, Heap.ExtBut it s.heap h' → (∃ o, h'.get? e = some o ∧ o.cls = .type "StopIteration") → E (.ref e) { s with heap := h' }) : wpAny (model prog w) A (Builtin.SmallTypes.nextOf (.ref it)) Q E s := by
  cases k
  · exact RZ.nextOf_tuple_end hh (show s.heap.IsTupleIter it l i from hit) (show s.heap.IsTuple l xs from hl) hx hE
  · exact wpAny_nextOf_list_end hh (show s.heap.IsListIter it l i from hit) (show s.heap.IsList l xs from hl) hx hE
/-- a zip's own pair is free -/
theorem free_yes {z TI TO : Addr} {Q : Bool → Shared → Prop} (hz : IsZip s.heap z TI TO .none) (h : Q true s) : wpAny (model prog w) A (Builtin.SmallTypes.ownedTupleIsFree (.ref z)) Q E s := by
  unfold Builtin.SmallTypes.ownedTupleIsFree
  exact wpAny_bind (wpAny_field hz rfl (x := .none) rfl (wpAny_pure h))
/-- a zip that stands at n1, n2: its parts, its pair of iterators, its pair of items -/
structure ZipSt (k1 k2 : Bool) (h : Heap) (z TI TO i1 i2 l1 l2 : Addr) (n1 n2 : Nat) : Prop where
  zip : IsZip h z TI TO .none
  its : IsPair h TI (.ref i1) (.ref i2)
  out : ∃ a b, IsPair h TO a b
  fst : AsIt k1 h i1 l1 n1
  snd : AsIt k2 h i2 l2 n2
/-- what a turn leaves alone -/
def ZipKeeps (z TO i1 i2 : Addr) (h h' : Heap) : Prop := ∀ c o, c ≠ z ∧ c ≠ TO ∧ c ≠ i1 ∧ c ≠ i2 → h.get? c = some o → h'.get? c = some o
/-- a turn: the pair at T handed out -/
structure ZipGave (k1 k2 : Bool) (h h' : Heap) (z TI TO i1 i2 l1 l2 : Addr) (n1 n2 : Nat) (x y : Value) : Prop where
  zip : IsZip h' z TI TO (rawInt h.objs.size)
  out : IsPair h' TO x y
  fst : AsIt k1 h' i1 l1 (n1 + 1)
  snd : AsIt k2 h' i2 l2 (n2 + 1)
  pair : IsPair h' h.objs.size x y
  size : h'.objs.size = h.objs.size + 1
  keep : ZipKeeps z TO i1 i2 h h'
variable {k1 k2 : Bool} {z TI TO i1 i2 l1 l2 : Addr} {n1 n2 : Nat} {xs ys : Array Value} {x y : Value}
theorem turnM {Q : Value → Shared → Prop} (D : ZipApart z TI TO i1 i2 l1 l2) (T : ZipSt k1 k2 s.heap z TI TO i1 i2 l1 l2 n1 n2) (u1 : AsSq k1 s.heap l1 xs) (u2 : AsSq k2 s.heap l2 ys) (hx : xs[n1]? = some x) (hy : ys[n2]? = some y)
    (q : ∀ h', ZipGave k1 k2 s.heap h' z TI TO i1 i2 l1 l2 n1 n2 x y → Q (.ref s.heap.objs.size) { s with heap := h' }) : wpAny (model prog w) A (Builtin.«zip.__next__» ⟨[.ref z], []⟩) (fun r s' => ∃ v, r = .done (.ret v) ∧ Q v s') E s := by
  obtain ⟨hz, hp, ⟨a, b, ho⟩, t1, t2⟩ := T
  refine wpAny_bind (m := field (.ref z) 2) (wpAny_field hz rfl (x := .bool false) rfl (wpAny_bind (m := field (.ref z) 3) (wpAny_field hz rfl (x := .ref TI) rfl (wpAny_bind (wpAny_seqItems hp rfl (wpAny_bind (m := Builtin.SmallTypes.ownedTupleIsFree (.ref z)) (free_yes hz ?_)))))))
  refine wpAny_bind (wpAny_rule (wpAny_bind (wpAny_field hz rfl (x := .ref TO) rfl (wpAny_bind (wpAny_setField_rec hz (by simp) fun g1 z1 s1 => ?_)))))
  replace z1 : IsZip g1 z TI TO .ellipsis := z1
  have o1 : IsPair g1 TO a b := s1.extBut _ _ D.TOz ho
  refine wpAny_bind ?_
  simp only [List.zipIdx_cons, List.forIn_cons, List.zipIdx_nil, List.forIn_nil]
  refine wpAny_bind (wpAny_bind (wpAny_onRaise (wpAny_bind (m := Builtin.SmallTypes.nextOf (.ref i1)) (as_item (t1.ext s1.extBut D.i1z) (u1.ext s1.extBut D.l1z) hx fun g2 f2 s2 => wpAny_pure ?_))))
  have o2 : IsPair g2 TO a b := s2.extBut _ _ D.TOi1 o1
  refine wpAny_bind (wpAny_seqItems o2 rfl (wpAny_bind (wpAny_updateSeq_pair o2 fun g3 o3 s3 => wpAny_bind (wpAny_letGo (wpAny_pure ?_)))))
  replace o3 : IsPair g3 TO x b := o3
  have t3 := ((t2.ext s1.extBut D.i2z).ext s2.extBut D.i12.symm).ext s3.extBut D.TOi2.symm
  have u3 := ((u2.ext s1.extBut D.l2z).ext s2.extBut D.l2i1).ext s3.extBut D.l2TO
  refine wpAny_bind (wpAny_bind (wpAny_onRaise (wpAny_bind (m := Builtin.SmallTypes.nextOf (.ref i2)) (as_item t3 u3 hy fun g4 f4 s4 => wpAny_pure ?_))))
  have o4 : IsPair g4 TO x b := s4.extBut _ _ D.TOi2 o3
  refine wpAny_bind (wpAny_seqItems o4 rfl (wpAny_bind (wpAny_updateSeq_pair o4 fun g5 o5 s5 => wpAny_bind (wpAny_letGo (wpAny_pure (wpAny_pure ?_))))))
  replace o5 : IsPair g5 TO x y := o5
  refine wpAny_bind (wpAny_seqItems o5 rfl (wpAny_bind (wpAny_newTuple ?_)))
  -- all five writes at once
  have w5 : IsZip g5 z TI TO .ellipsis := s5.extBut _ _ D.TOz.symm (s4.extBut _ _ D.i2z.symm (s3.extBut _ _ D.TOz.symm (s2.extBut _ _ D.i1z.symm z1)))
  have size5 : g5.objs.size = s.heap.objs.size := s5.1.trans (s4.1.trans (s3.1.trans (s2.1.trans s1.1)))
  have keep5 : ZipKeeps z TO i1 i2 s.heap g5 := fun c o h e => s5.extBut _ _ h.2.1 (s4.extBut _ _ h.2.2.2 (s3.extBut _ _ h.2.1 (s2.extBut _ _ h.2.2.1 (s1.extBut _ _ h.1 e))))
  have p1 : AsIt k1 g5 i1 l1 (n1 + 1) := ((f2.ext s3.extBut D.TOi1.symm).ext s4.extBut D.i12).ext s5.extBut D.TOi1.symm
  have p2 : AsIt k2 g5 i2 l2 (n2 + 1) := f4.ext s5.extBut D.TOi2.symm
  have below : z ≠ g5.objs.size := Nat.ne_of_lt (Heap.lt_size w5)
  refine wpAny_bind (m := Builtin.SmallTypes.ownedTupleHandOut (.ref z) (.ref g5.objs.size)) ?_
  unfold Builtin.SmallTypes.ownedTupleHandOut
  have w6 : IsZip (g5.push { cls := .type "tuple", data := .seq #[x, y] }) z TI TO .ellipsis := Heap.get?_push_of_some _ w5
  refine wpAny_bind (wpAny_setField_rec w6 (by simp) fun g7 w7 s7 => ?_)
  replace w7 : IsZip g7 z TI TO (rawInt g5.objs.size) := w7
  refine wpAny_setField_rec w7 (by simp) fun g8 w8 s8 => wpAny_pure ⟨_, rfl, ?_⟩
  replace w8 : IsZip g8 z TI TO (rawInt g5.objs.size) := w8
  have up8 : ∀ {c o}, c ≠ z → (g5.push { cls := .type "tuple", data := .seq #[x, y] }).get? c = some o → g8.get? c = some o := fun n e => s8.extBut _ _ n (s7.extBut _ _ n e)
  have up : ∀ {c o}, c ≠ z → g5.get? c = some o → g8.get? c = some o := fun n e => up8 n (Heap.get?_push_of_some _ e)
  have new8 : IsPair g8 g5.objs.size x y := up8 below.symm (Heap.get?_push_size _ rfl)
  have size8 : g8.objs.size = g5.objs.size + 1 := by rw [s8.1, s7.1, Heap.size_push]
  rw [size5] at w8 new8 size8
  show Q (.ref g5.objs.size) _
  rw [size5]
  exact q g8 ⟨w8, up D.TOz o5, p1.keep fun o e => up D.i1z e, p2.keep fun o e => up D.i2z e, new8, size8, fun c o h e => up h.1 (keep5 c o h e)⟩
theorem lastM {Q : Fin → Shared → Prop} (hh : A.handled = none) (D : ZipApart z TI TO i1 i2 l1 l2) (T : ZipSt k1 k2 s.heap z TI TO i1 i2 l1 l2 n1 n2) (u1 : AsSq k1 s.heap l1 xs) (u2 : AsSq k2 s.heap l2 ys) (he : xs[n1]? = none ∨ ys[n2]? = none)
    (q : ∀ h' e, ZipKeeps z TO i1 i2 s.heap h' → (∃ o, h'.get? e = some o ∧ o.cls = .type "StopIteration") → E (.ref e) { s with heap := h' }) : wpAny (model prog w) A (Builtin.«zip.__next__» ⟨[.ref z], []⟩) Q E s := by
  obtain ⟨hz, hp, ⟨a, b, ho⟩, t1, t2⟩ := T
  refine wpAny_bind (m := field (.ref z) 2) (wpAny_field hz rfl (x := .bool false) rfl (wpAny_bind (m := field (.ref z) 3) (wpAny_field hz rfl (x := .ref TI) rfl (wpAny_bind (wpAny_seqItems hp rfl (wpAny_bind (m := Builtin.SmallTypes.ownedTupleIsFree (.ref z)) (free_yes hz ?_)))))))
  refine wpAny_bind (wpAny_rule (wpAny_bind (wpAny_field hz rfl (x := .ref TO) rfl (wpAny_bind (wpAny_setField_rec hz (by simp) fun g1 z1 s1 => ?_)))))
  replace z1 : IsZip g1 z TI TO .ellipsis := z1
  have o1 : IsPair g1 TO a b := s1.extBut _ _ D.TOz ho
  -- the exception that a part lets out: the mark is taken back
  have out : ∀ (g : Heap) (e : Addr), IsZip g z TI TO .ellipsis → ZipKeeps z TO i1 i2 s.heap g → (∃ o, g.get? e = some o ∧ o.cls = .type "StopIteration") → ∀ g', Heap.SameBut z g g' → E (.ref e) { s with heap := g' } := fun g e zg kg ⟨o, eo, co⟩ g' sg => by
    have ne : e ≠ z := fun h => by
      rw [h, zg] at eo
      cases eo
      simp at co
    exact q g' e (fun c o h hc => sg.extBut _ _ h.1 (kg c o h hc)) ⟨o, sg.extBut _ _ ne eo, co⟩
  refine wpAny_bind ?_
  simp only [List.zipIdx_cons, List.forIn_cons, List.zipIdx_nil, List.forIn_nil]
  cases hx : xs[n1]? with
  | none =>
    refine wpAny_bind (wpAny_bind (wpAny_onRaise (wpAny_bind (m := Builtin.SmallTypes.nextOf (.ref i1)) (as_end hh (t1.ext s1.extBut D.i1z) (u1.ext s1.extBut D.l1z) hx fun g2 e s2 hs => ?_))))
    have z2 : IsZip g2 z TI TO .ellipsis := s2 _ _ D.i1z.symm z1
    exact wpAny_setField_rec z2 (by simp) fun g3 _ s3 => out g2 e z2 (fun c o h hc => s2 _ _ h.2.2.1 (s1.extBut _ _ h.1 hc)) hs g3 s3
  | some x =>
    have hy : ys[n2]? = none := he.resolve_left (by rw [hx]; simp)
    refine wpAny_bind (wpAny_bind (wpAny_onRaise (wpAny_bind (m := Builtin.SmallTypes.nextOf (.ref i1)) (as_item (t1.ext s1.extBut D.i1z) (u1.ext s1.extBut D.l1z) hx fun g2 f2 s2 => wpAny_pure ?_))))
    have o2 : IsPair g2 TO a b := s2.extBut _ _ D.TOi1 o1
    refine wpAny_bind (wpAny_seqItems o2 rfl (wpAny_bind (wpAny_updateSeq_pair o2 fun g3 o3 s3 => wpAny_bind (wpAny_letGo (wpAny_pure ?_)))))
    have t3 := ((t2.ext s1.extBut D.i2z).ext s2.extBut D.i12.symm).ext s3.extBut D.TOi2.symm
    have u3 := ((u2.ext s1.extBut D.l2z).ext s2.extBut D.l2i1).ext s3.extBut D.l2TO
    refine wpAny_bind (wpAny_bind (wpAny_onRaise (wpAny_bind (m := Builtin.SmallTypes.nextOf (.ref i2)) (as_end hh t3 u3 hy fun g4 e s4 hs => ?_))))
    have z4 : IsZip g4 z TI TO .ellipsis := s4 _ _ D.i2z.symm (s3.extBut _ _ D.TOz.symm (s2.extBut _ _ D.i1z.symm z1))
    exact wpAny_setField_rec z4 (by simp) fun g5 _ s5 => out g4 e z4 (fun c o h hc => s4 _ _ h.2.2.2 (s3.extBut _ _ h.2.1 (s2.extBut _ _ h.2.2.1 (s1.extBut _ _ h.1 hc)))) hs g5 s5
theorem nextGave {Q : Option Value → Shared → Prop} (D : ZipApart z TI TO i1 i2 l1 l2) (T : ZipSt k1 k2 s.heap z TI TO i1 i2 l1 l2 n1 n2) (u1 : AsSq k1 s.heap l1 xs) (u2 : AsSq k2 s.heap l2 ys) (hx : xs[n1]? = some x) (hy : ys[n2]? = some y)
    (q : ∀ h', ZipGave k1 k2 s.heap h' z TI TO i1 i2 l1 l2 n1 n2 x y → Q (some (.ref s.heap.objs.size)) { s with heap := h' }) : wpAny (model prog w) A (pyNext (.ref z)) Q E s := by
  have ty : s.TypeIs (.ref z) "zip" := ⟨_, T.zip, rfl⟩
  unfold pyNext
  exact wpAny_bind (wpAny_attempt (wpAny_callSpecial?_slot (name := Str.ofString "__next__") ty F.slot_zip_next (wpAny_call_entry F.slot_zip_next ty F.entry_zip_next (turnM D T u1 u2 hx hy fun h' g => wpAny_pure (q h' g)) (F.args_zip_next_1 _))))
theorem nextLast {Q : Option Value → Shared → Prop} (hh : A.handled = none) (D : ZipApart z TI TO i1 i2 l1 l2) (T : ZipSt k1 k2 s.heap z TI TO i1 i2 l1 l2 n1 n2) (u1 : AsSq k1 s.heap l1 xs) (u2 : AsSq k2 s.heap l2 ys) (he : xs[n1]? = none ∨ ys[n2]? = none)
    (q : ∀ h', ZipKeeps z TO i1 i2 s.heap h' → Q none { s with heap := h' }) : wpAny (model prog w) A (pyNext (.ref z)) Q E s := by
  have ty : s.TypeIs (.ref z) "zip" := ⟨_, T.zip, rfl⟩
  unfold pyNext
  refine wpAny_bind (wpAny_attempt (wpAny_callSpecial?_slot (name := Str.ofString "__next__") ty F.slot_zip_next (wpAny_call_entry F.slot_zip_next ty F.entry_zip_next (lastM hh D T u1 u2 he fun h' e kp ⟨o, eo, co⟩ => ?_) (F.args_zip_next_1 _))))
  exact wpAny_bind (wpAny_isInstance (T := "StopIteration") (b := true) ⟨o, eo, co⟩ isSubtype_stop (wpAny_pure (q _ kp)))
end
/-! ### the call of zip -/
abbrev itO (k : Bool) (l : Addr) : Obj := { cls := .type (if k = true then "list_iterator" else "tuple_iterator"), data := .fields #[.ref l, .int 0 0] }
theorem as_new {k : Bool} {h : Heap} {a l : Addr} (e : h.get? a = some (itO k l)) : AsIt k h a l 0 := by
  cases k
  · exact ⟨_, e, rfl, rfl⟩
  · exact ⟨_, e, rfl, rfl⟩
theorem AsSq.push {k : Bool} {h : Heap} {l : Addr} {xs : Array Value} (x : AsSq k h l xs) (o : Obj) : AsSq k (h.push o) l xs := by
  cases k
  · exact Heap.IsTuple.push (show h.IsTuple l xs from x) o
  · exact Heap.IsList.push (show h.IsList l xs from x) o
theorem as_iter {prog : Program} {w : World} {A : Around} {E : Value → Shared → Prop} {s : Shared} {k : Bool} {l : Addr} {xs : Array Value} {Q : Value → Shared → Prop} (hl : AsSq k s.heap l xs)
    (hQ : Q (.ref s.heap.objs.size) { s with heap := s.heap.push (itO k l) }) : wpAny (model prog w) A (pyIter (.ref l)) Q E s := by
  cases k
  · exact wpAny_pyIter_tuple (show s.heap.IsTuple l xs from hl) hQ
  · exact wpAny_pyIter_list (show s.heap.IsList l xs from hl) hQ
/-- what zip makes: two iterators, their pair, a pair for the items; the zip -/
abbrev zmk2 (k1 k2 : Bool) (h : Heap) (l1 l2 : Addr) : Heap := (h.push (itO k1 l1)).push (itO k2 l2)
abbrev zmk3 (k1 k2 : Bool) (h : Heap) (l1 l2 : Addr) : Heap := (zmk2 k1 k2 h l1 l2).push { cls := .type "tuple", data := .seq #[.ref h.objs.size, .ref (h.push (itO k1 l1)).objs.size] }
abbrev zmk4 (k1 k2 : Bool) (h : Heap) (l1 l2 : Addr) : Heap := (zmk3 k1 k2 h l1 l2).push { cls := .type "tuple", data := .seq #[.none, .none] }
abbrev zmk (k1 k2 : Bool) (h : Heap) (l1 l2 : Addr) : Heap := (zmk4 k1 k2 h l1 l2).push { cls := .type "zip", data := .fields #[.none, .bool false, .bool false, .ref (zmk2 k1 k2 h l1 l2).objs.size, .ref (zmk3 k1 k2 h l1 l2).objs.size] }
theorem zmk_size (k1 k2 : Bool) (h : Heap) (l1 l2 : Addr) : (zmk k1 k2 h l1 l2).objs.size = h.objs.size + 5 := by
  simp only [Heap.size_push]
theorem zmk_st (k1 k2 : Bool) (h : Heap) (l1 l2 : Addr) : ZipSt k1 k2 (zmk k1 k2 h l1 l2) (h.objs.size + 4) (h.objs.size + 2) (h.objs.size + 3) h.objs.size (h.objs.size + 1) l1 l2 0 0 := by
  have up : ∀ {g : Heap} {c : Addr} {o p : Obj}, g.get? c = some o → (g.push p).get? c = some o := fun e => Heap.get?_push_of_some _ e
  have new : ∀ {g : Heap} {c : Addr} {o : Obj}, g.objs.size = c → o.isFreed = false → (g.push o).get? c = some o := fun e f => e ▸ Heap.get?_push_size _ f
  have f1 : (itO k1 l1).isFreed = false := by cases k1 <;> rfl
  have f2 : (itO k2 l2).isFreed = false := by cases k2 <;> rfl
  refine ⟨?_, ?_, ⟨.none, .none, up (new (by simp only [Heap.size_push]) rfl)⟩, as_new (up (up (up (up (new rfl f1))))), as_new (up (up (up (new (by simp only [Heap.size_push]) f2))))⟩
  · have e := new (g := zmk4 k1 k2 h l1 l2) (c := h.objs.size + 4) (o := { cls := .type "zip", data := .fields #[.none, .bool false, .bool false, .ref (h.objs.size + 2), .ref (h.objs.size + 3)] }) (by simp only [Heap.size_push]) rfl
    simp only [zmk, zmk4, zmk3, zmk2, Heap.size_push] at e ⊢
    exact e
  · have e := new (g := zmk2 k1 k2 h l1 l2) (c := h.objs.size + 2) (o := { cls := .type "tuple", data := .seq #[.ref h.objs.size, .ref (h.objs.size + 1)] }) (by simp only [Heap.size_push]) rfl
    simp only [zmk, zmk4, zmk3, zmk2, Heap.size_push] at e ⊢
    exact up (up e)
theorem zmk_keep (k1 k2 : Bool) (h : Heap) (l1 l2 : Addr) {c : Addr} {o : Obj} (e : h.get? c = some o) : (zmk k1 k2 h l1 l2).get? c = some o :=
  Heap.get?_push_of_some _ (Heap.get?_push_of_some _ (Heap.get?_push_of_some _ (Heap.get?_push_of_some _ (Heap.get?_push_of_some _ e))))
theorem newM (k1 k2 : Bool) (l1 l2 : Addr) (xs ys : Array Value) : Meets (Builtin.«zip.__new__» ⟨[.type "zip", .ref l1, .ref l2], []⟩) (fun _ R s => AsSq k1 s.heap l1 xs ∧ AsSq k2 s.heap l2 ys ∧ R (.ok (.ret (.ref (zmk4 k1 k2 s.heap l1 l2).objs.size))) { s with heap := zmk k1 k2 s.heap l1 l2 }) := by
  refine .of_wp fun prog w A R s ⟨u1, u2, q⟩ => ?_
  have sub := sub_zip
  have v2 : AsSq k2 (Shared.heap { s with heap := s.heap.push (itO k1 l1) }) l2 ys := u2.push _
  obtain ⟨hp, g, d, tk, os⟩ := s
  wp_walk using as_iter u1, as_iter v2
  exact ⟨_, rfl, q⟩
theorem callM {prog : Program} {w : World} {A : Around} {E : Value → Shared → Prop} {s : Shared} {k1 k2 : Bool} {l1 l2 : Addr} {xs ys : Array Value} {Q : Value → Shared → Prop} (u1 : AsSq k1 s.heap l1 xs) (u2 : AsSq k2 s.heap l2 ys)
    (q : Q (.ref (s.heap.objs.size + 4)) { s with heap := zmk k1 k2 s.heap l1 l2 }) : wpAny (model prog w) A (call (.type "zip") [.ref l1, .ref l2]) Q E s :=
  callType_new F.called_zip (by decide) (F.typeCall_zip_2 _ _) (F.newCall_zip_2 _ _) (fun o => F.args_object_init_3 o _ _) F.entry_zip_new (newM k1 k2 l1 l2 xs ys) ⟨u1, u2, by
    have e : (zmk4 k1 k2 s.heap l1 l2).objs.size = s.heap.objs.size + 4 := by simp only [Heap.size_push]
    rw [e]
    exact ⟨⟨_, (zmk_st k1 k2 s.heap l1 l2).zip, rfl⟩, q⟩⟩
/-! ### its turns, for the loops of the layer -/
def SqM (k : Bool) (K : PySem.W.Frag) (H : Hp) (a : Addr) (xs : List V) : Prop := if k = true then SqL K H a xs else SqT K H a xs
section
variable {X : Cx} {pins : List (Addr × Obj)} {σ : L2.St} {H : Hp} {s : Shared} {k : Bool} {a : Addr} {xs ys : List V}
theorem SqM.at_ (I : Inv X pins σ H s) (h : SqM k X.K H a xs) : ∃ its, Vals xs its ∧ AsSq k s.heap a its.toArray ∧ a < s.heap.objs.size := by
  cases k
  · obtain ⟨its, rv, p, _⟩ := I.tuple (show SqT X.K H a xs from h)
    obtain ⟨o, ho, _⟩ := id p
    exact ⟨its, rv, p, Heap.lt_size ho⟩
  · obtain ⟨its, rv, p, _⟩ := I.list (show SqL X.K H a xs from h)
    exact ⟨its, rv, p.isList, p.lt⟩
theorem SqM.inj (I : Inv X pins σ H s) (h : SqM k X.K H a xs) (h' : SqM k X.K H a ys) : xs = ys := by
  cases k
  · exact I.tuple_inj (show SqT X.K H a xs from h) (show SqT X.K H a ys from h')
  · exact I.list_inj (show SqL X.K H a xs from h) (show SqL X.K H a ys from h')
end
def ItzM (k1 k2 : Bool) (K : PySem.W.Frag) (a b : Addr) : It where
  go := fun i H => ∃ xs ys x y, SqM k1 K H a xs ∧ SqM k2 K H b ys ∧ xs[i]? = some x ∧ ys[i]? = some y
  yld := fun i H v H' => ∃ T x y, v = .ref T ∧ H T = none ∧ H' = upd H T (.tup [x, y]) ∧ (∀ xs, SqM k1 K H a xs → xs[i]? = some x) ∧ ∀ ys, SqM k2 K H b ys → ys[i]? = some y
  stop := fun i H => ∃ xs ys : List V, SqM k1 K H a xs ∧ SqM k2 K H b ys ∧ (xs.length ≤ i ∨ ys.length ≤ i)
/-- the five objects of a zip -/
abbrev five (z TI TO i1 i2 : Addr) : List Addr := [z, TI, TO, i1, i2]
theorem five_out {z TI TO i1 i2 c : Addr} (h : c ∉ five z TI TO i1 i2) : c ≠ z ∧ c ≠ TO ∧ c ≠ i1 ∧ c ≠ i2 := by
  simp only [List.mem_cons, List.not_mem_nil, or_false, not_or] at h
  exact ⟨h.1, h.2.2.1, h.2.2.2.1, h.2.2.2.2⟩
theorem ZipSt.objs {k1 k2 : Bool} {h : Heap} {z TI TO i1 i2 l1 l2 : Addr} {n1 n2 : Nat} (T : ZipSt k1 k2 h z TI TO i1 i2 l1 l2 n1 n2) : ∀ c ∈ five z TI TO i1 i2, ∃ o, h.get? c = some o ∧ ∀ v, o.data ≠ .cell v := by
  obtain ⟨zz, zi, ⟨a, b, zo⟩, z1, z2⟩ := T
  simp only [List.mem_cons, List.not_mem_nil, or_false, forall_eq_or_imp, forall_eq]
  exact ⟨⟨_, zz, fun v => nofun⟩, ⟨_, zi, fun v => nofun⟩, ⟨_, zo, fun v => nofun⟩, z1.obj, z2.obj⟩
theorem ZipSt.keep {k1 k2 : Bool} {h h' : Heap} {z TI TO i1 i2 l1 l2 : Addr} {n1 n2 : Nat} (T : ZipSt k1 k2 h z TI TO i1 i2 l1 l2 n1 n2) (k : ∀ c ∈ five z TI TO i1 i2, ∀ o, h.get? c = some o → h'.get? c = some o) : ZipSt k1 k2 h' z TI TO i1 i2 l1 l2 n1 n2 := by
  simp only [List.mem_cons, List.not_mem_nil, or_false, forall_eq_or_imp, forall_eq] at k
  obtain ⟨kz, kI, kO, kf, ks⟩ := k
  obtain ⟨zz, zi, ⟨a, b, zo⟩, z1, z2⟩ := T
  exact ⟨kz _ zz, kI _ zi, ⟨a, b, kO _ zo⟩, z1.keep kf, z2.keep ks⟩
theorem zip_turns {P : Program} {w : World} {K : PySem.W.Frag} {elts : List Expr} {kk : Nat} {tpos : Pos} {k1 k2 : Bool} {a b z TI TO i1 i2 : Addr} (D : ZipApart z TI TO i1 i2 a b) :
    Turn P w K (.Tuple elts kk tpos) (ItzM k1 k2 K a b) (five z TI TO i1 i2) z (fun i h => ZipSt k1 k2 h z TI TO i1 i2 a b i i) where
  mem := List.mem_cons_self ..
  obj := fun i h T c hc => T.objs c hc
  keep := fun i h h' T k => T.keep k
  self := fun A i s Q E T h => wpAny_pyIter_zip T.zip h
  item := by
    intro X eP ew eK _ i pins s σ H E I hf T go
    subst eP ew eK
    obtain ⟨xs, ys, x, y, qx, qy, hx, hy⟩ := go
    obtain ⟨us, vx, ax, _⟩ := qx.at_ I
    obtain ⟨ws, vy, ay, _⟩ := qy.at_ I
    obtain ⟨u, hu, ru⟩ := vx.get hx
    obtain ⟨v, hv, rv⟩ := vy.get hy
    refine nextGave D T ax ay (x := u) (y := v) (by simpa using hu) (by simpa using hv) fun g1 G => ⟨_, rfl, wpAny_letOwnedTupleGo_zip (s := { s with heap := g1 }) G.zip fun g2 z2 sb => ?_⟩
    -- behind the turn: the pair stands at the heap's end
    have lz : z < s.heap.objs.size := Heap.lt_size T.zip
    have pair := (sb.2 _ (Nat.ne_of_gt lz)).trans G.pair
    have rest : ∀ c o, c ∉ five z TI TO i1 i2 → s.heap.get? c = some o → g2.get? c = some o := fun c o hc e => (sb.2 c (five_out hc).1).trans (G.keep c o (five_out hc) e)
    have good : ObjOk X.prog X.w (upd H s.heap.objs.size (.tup [x, y])) g2 s.heap.objs.size (.tup [x, y]) := ⟨by show 2 ≤ sizeLine; decide, [u, v], .cons ru (.cons rv .nil), ⟨_, pair, rfl, _, rfl⟩⟩
    have J := I.turnedNew (t' := s.toks) (ch := five z TI TO i1 i2) rest hf (Nat.le_refl _) good
    have T2 : ZipSt k1 k2 g2 z TI TO i1 i2 a b (i + 1) (i + 1) :=
      ⟨z2, (sb.2 _ D.TIz).trans (G.keep _ _ ⟨D.TIz, D.TITO, D.TIi1, D.TIi2⟩ T.its), ⟨u, v, (sb.2 _ D.TOz).trans G.out⟩, G.fst.keep fun o e => (sb.2 _ D.i1z).trans e, G.snd.keep fun o e => (sb.2 _ D.i2z).trans e⟩
    refine ⟨.ref s.heap.objs.size, _, J, rfl, ⟨_, x, y, rfl, I.hok.fresh (Nat.le_refl _), rfl, fun l hl => (hl.inj I qx) ▸ hx, fun l hl => (hl.inj I qy) ▸ hy⟩, T2, fun c hc => ?_⟩
    obtain ⟨o, e, _⟩ := T.objs c hc
    rw [upd_ne (Nat.ne_of_lt (Heap.lt_size e))]
    exact (hf c hc).1
  done := by
    intro X eP ew eK hc i pins s σ H E I hf T stop
    subst eP ew eK
    obtain ⟨xs, ys, qx, qy, short⟩ := stop
    obtain ⟨us, vx, ax, _⟩ := qx.at_ I
    obtain ⟨ws, vy, ay, _⟩ := qy.at_ I
    have lx := vx.length
    have ly := vy.length
    refine nextLast (I.ok.hd hc) D T ax ay (short.imp (fun q => by simp; omega) fun q => by simp; omega) fun g kp => ⟨rfl, I.turnedL (t' := s.toks) (ch := five z TI TO i1 i2) (fun c o hc e => kp c o (five_out hc) e) hf⟩
def iZipM (K : PySem.W.Frag) (ta : TA) : TI := fun σ H R => ta σ H fun vs H1 => ∃ k1 k2 a b xs ys, vs = [.ref a, .ref b] ∧ SqM k1 K H1 a xs ∧ SqM k2 K H1 b ys ∧ R (ItzM k1 k2 K a b) H1
theorem pi_zipM {X : Cx} {e e2 : Expr} {ta : TA} {p pos tpos : Pos} {elts : List Expr} {kk : Nat} (hg : Gl X "zip") (hm : X.mg "zip" = none) (ha : PA X [e, e2] ta)
    (hs : starEach [e, e2] X.env = (false, eval e X.env) :: starEach [e2] X.env := by rfl) (hpl : (backTo pos (starEach [e2] X.env)).any (·.1) = false := by rfl) :
    PI X (.Tuple elts kk tpos) (.Call (.Name "zip" p) [e, e2] [] pos) (iZipM X.K ta) := by
  refine ⟨fun pins s σ H R I h => Call_ (ld_blt I hg hm PyProof.Rows.boot_zip (PyProof.Rows.callWith_type1 (thn (ha.run pos pins s σ H _ I h) fun us s1 ⟨vs, H1, J, rs, k1, k2, a, b, xs, ys, ev, qx, qy, q⟩ => ?_) hs hpl))⟩
  subst ev
  obtain ⟨u, us, rfl, ra, rs⟩ : ∃ u us', us = u :: us' ∧ RelV (.ref a) u ∧ Vals [.ref b] us' := by cases rs with | cons r rr => exact ⟨_, _, rfl, r, rr⟩
  obtain ⟨v, us, rfl, rb, rs⟩ : ∃ u us', us = u :: us' ∧ RelV (.ref b) u ∧ Vals [] us' := by cases rs with | cons r rr => exact ⟨_, _, rfl, r, rr⟩
  cases rs
  cases ra
  cases rb
  obtain ⟨_, _, ax, lx⟩ := qx.at_ J
  obtain ⟨_, _, ay, ly⟩ := qy.at_ J
  have st := zmk_st k1 k2 s1.heap a b
  have J2 : Inv X pins σ H1 { s1 with heap := zmk k1 k2 s1.heap a b } := J.kept (t' := s1.toks) fun c o e => zmk_keep k1 k2 s1.heap a b e
  refine callM ax ay (wpAny_pyIter_zip st.zip ⟨_, five (s1.heap.objs.size + 4) (s1.heap.objs.size + 2) (s1.heap.objs.size + 3) s1.heap.objs.size (s1.heap.objs.size + 1), _, _, H1, rfl, J2, zip_turns (PySem.W.ktu_apart s1.heap.objs.size a b lx ly), st, fun c hc => ?_, q⟩)
  have above : s1.heap.objs.size ≤ c := by
    simp only [List.mem_cons, List.not_mem_nil, or_false] at hc
    rcases hc with rfl | rfl | rfl | rfl | rfl <;> first | exact Nat.le_refl _ | exact Nat.le_add_right _ _
  exact J.fpOk above (J.hok.fresh above)
/-! ### in the layer -/
def frzD : D → Option (List D)
  | .lst xs => some xs
  | .tup xs => some xs
  | .scr xs => some xs
  | _ => none
theorem sqM_of {T : Ct} {G H : Hp} {c : List Addr} {S : Sto} {d : D} {v : V} {xs : List D} (w : Wf T G H c S) (r : Rep T G c d v) (e : frzD d = some xs) :
    ∃ k a vs, v = .ref a ∧ (∀ H', (∀ a o, G a = some o → H' a = some o) → SqM k T.K H' a vs) ∧ Reps T G c xs vs ∧ xs.length ≤ sizeLine := by
  cases d with
  | lst ys => cases e; obtain ⟨z, p, vs, rfl, s, t⟩ := inv_lst r; exact ⟨true, p, vs, rfl, fun H' k => SqL.of (k _ _ s), t, z⟩
  | tup ys => cases e; obtain ⟨z, p, vs, rfl, s, t⟩ := inv_tup r; exact ⟨false, p, vs, rfl, fun H' k => sqT_mono k s, t, z⟩
  | scr ys => cases e; obtain ⟨z, p, vs, rfl, s, t⟩ := inv_scr r; exact ⟨true, p, vs, rfl, fun H' k => sqL_mono k s, t, z⟩
  | _ => cases e
def zipD : List D → List D → List D
  | x :: xs, y :: ys => .tup [x, y] :: zipD xs ys
  | _, _ => []
theorem zipD_len : ∀ xs ys : List D, (zipD xs ys).length = min xs.length ys.length
  | [], ys => by unfold zipD; simp
  | x :: xs, [] => by unfold zipD; simp
  | x :: xs, y :: ys => by unfold zipD; rw [List.length_cons, zipD_len xs ys, List.length_cons, List.length_cons]; omega
theorem zipD_at : ∀ {xs ys : List D} {i : Nat} {x y : D}, xs[i]? = some x → ys[i]? = some y → (zipD xs ys)[i]? = some (.tup [x, y])
  | [], _, _, _, _, h, _ => by simp at h
  | _ :: _, [], _, _, _, _, h => by simp at h
  | x0 :: xs, y0 :: ys, 0, x, y, h1, h2 => by simp at h1 h2; unfold zipD; simp [h1, h2]
  | x0 :: xs, y0 :: ys, i + 1, x, y, h1, h2 => by unfold zipD; exact zipD_at (i := i) h1 h2
def iZip (ma : MA) : MI := fun ρ S => (ma ρ S).bind fun ds S1 => match ds with
  | [d1, d2] => (match frzD d1, frzD d2 with
    | some xs, some ys => .ok (zipD xs ys) S1
    | _, _ => .bad)
  | _ => .bad
theorem walkD_zip {T : Ct} {K : PySem.W.Frag} (hK : K = T.K) {G0 : Hp} {c0 : List Addr} {k1 k2 : Bool} {a b : Addr} {xs ys : List D} {vs ws : List V} (h1 : ∀ H', (∀ a o, G0 a = some o → H' a = some o) → SqM k1 T.K H' a vs) (h2 : ∀ H', (∀ a o, G0 a = some o → H' a = some o) → SqM k2 T.K H' b ws)
    (r1 : Reps T G0 c0 xs vs) (r2 : Reps T G0 c0 ys ws) (z : xs.length ≤ sizeLine) : WalkD T G0 c0 (zipD xs ys) (ItzM k1 k2 K a b) := by
  subst hK
  refine ⟨by rw [zipD_len]; omega, fun G H c S w g hc => ?_⟩
  have s1 := h1 H fun a o e => w.sub _ _ (g _ _ e)
  have s2 := h2 H fun a o e => w.sub _ _ (g _ _ e)
  have l1 := r1.length
  have l2 := r2.length
  have hl := zipD_len xs ys
  refine ⟨fun i hi => ?_, ?_, fun i x H' hi hy => ?_⟩
  · have e1 : i < vs.length := by omega
    have e2 : i < ws.length := by omega
    exact ⟨vs, ws, vs[i], ws[i], s1, s2, List.getElem?_eq_getElem e1, List.getElem?_eq_getElem e2⟩
  · exact ⟨vs, ws, s1, s2, by rw [hl]; omega⟩
  · obtain ⟨t, x1, y1, rfl, hn, rfl, q1, q2⟩ := hy
    obtain ⟨d1, e1, p1⟩ := r1.getV (q1 vs s1)
    obtain ⟨d2, e2, p2⟩ := r2.getV (q2 ws s2)
    obtain ⟨w2, ll⟩ := w.laid (o := .tup [x1, y1]) hn
    have m1 : Rep T (upd G t (.tup [x1, y1])) c d1 x1 := (Rep.mono0 g (get_pre hc) d1 x1 p1).mono ll
    have m2 : Rep T (upd G t (.tup [x1, y1])) c d2 y1 := (Rep.mono0 g (get_pre hc) d2 y1 p2).mono ll
    exact ⟨_, _, w2, ll, zipD_at e1 e2, rep_tup (by show 2 ≤ sizeLine; decide) (SqT.of upd_same) (Reps.cons m1 (Reps.cons m2 Reps.nil))⟩
theorem si_zip {X : Cx} {T : Ct} {W : WX} {e e2 : Expr} {ma : MA} {p pos tpos : Pos} {elts : List Expr} {kk : Nat} (ha : SA X T W [e, e2] ma) (hm : X.mg "zip" = none) (hg : Gl X "zip" := by rfl)
    (hs : starEach [e, e2] X.env = (false, eval e X.env) :: starEach [e2] X.env := by rfl) (hpl : (backTo pos (starEach [e2] X.env)).any (·.1) = false := by rfl) :
    SI X T W (.Tuple elts kk tpos) (.Call (.Name "zip" p) [e, e2] [] pos) (iZip ma) := by
  refine ⟨fun hK => PI.imp (pi_zipM hg hm (ha.pa hK) hs hpl) fun σ H Q h => ?_⟩
  obtain ⟨G, c, S, ρ, w, sr, o⟩ := h
  refine ⟨G, c, S, ρ, w, sr, (Out.bind o).imp ?_⟩
  rintro vs H1 ⟨G1, c1, ds, S1, w1, l1, rs, o1⟩
  cases ds with
  | nil => exact o1.elim
  | cons d1 ds =>
    cases ds with
    | nil => exact o1.elim
    | cons d2 ds =>
      cases ds with
      | cons d3 ds => exact o1.elim
      | nil =>
        obtain ⟨v1, us, rfl, r1, r2⟩ := rs.cons_inv
        obtain ⟨v2, us, rfl, rv2, r3⟩ := r2.cons_inv
        obtain rfl := r3.nil_inv
        dsimp only at o1
        cases q1 : frzD d1 with
        | none => rw [q1] at o1; exact o1.elim
        | some xs =>
          cases q2 : frzD d2 with
          | none => rw [q1, q2] at o1; exact o1.elim
          | some ys =>
            rw [q1, q2] at o1
            obtain ⟨k1, a, vs, rfl, f1, t1, z1⟩ := sqM_of w1 r1 q1
            obtain ⟨k2, b, ws, rfl, f2, t2, z2⟩ := sqM_of w1 rv2 q2
            exact ⟨k1, k2, a, b, vs, ws, rfl, by rw [hK]; exact f1 _ w1.sub, by rw [hK]; exact f2 _ w1.sub, o1 _ G1 H1 c1 w1 (Le.refl _ _ _) (walkD_zip hK f1 f2 t1 t2 z1)⟩
end KF
end

section
namespace KF
open PySem PySem.Spec PyProof.Rows L2
/-! ### constants of the module, from the written part -/
mutual
def conB (K : PySem.W.Frag) : D → Value → Bool
  | .non, .none => true
  | .bl b, .bool c => b == c
  | .int i, .int j _ => decide (i = j)
  | .str x, .str y _ => decide (x = y)
  | .tup xs, .ref a => (match K.lookup a with
    | some ⟨.type c, _, .seq its _, _⟩ => decide (c = "tuple") && (decide (its.size ≤ sizeLine) && consB K xs its.toList)
    | _ => false)
  | .fn x, .ref a => decide (a = He.ga K x)
  | _, _ => false
def consB (K : PySem.W.Frag) : List D → List Value → Bool
  | [], [] => true
  | d :: ds, u :: us => conB K d u && consB K ds us
  | _, _ => false
end
def tyOf (K : PySem.W.Frag) : Ct := ⟨K, He.ga K⟩
theorem consB_len {K : PySem.W.Frag} : ∀ {ds : List D} {us : List Value}, consB K ds us = true → ds.length = us.length
  | [], [], _ => rfl
  | [], _ :: _, h => by unfold consB at h; cases h
  | _ :: _, [], h => by unfold consB at h; cases h
  | d :: ds, u :: us, h => by
    unfold consB at h
    rw [List.length_cons, List.length_cons, consB_len (Bool.and_eq_true_iff.mp h).2]
mutual
theorem conB_ok {K : PySem.W.Frag} : ∀ (d : D) (u : Value), conB K d u = true → ∃ v, RelV v u ∧ ∀ G c, Rep (tyOf K) G c d v
  | .non, u, h => by
    cases u with
    | none => exact ⟨.non, rfl, fun _ _ => rep_non⟩
    | _ => unfold conB at h; cases h
  | .bl b, u, h => by
    cases u with
    | bool c =>
      unfold conB at h
      obtain rfl := beq_iff_eq.mp h
      exact ⟨.bl b, rfl, fun _ _ => rep_bl⟩
    | _ => unfold conB at h; cases h
  | .int i, u, h => by
    cases u with
    | int j t =>
      unfold conB at h
      obtain rfl := of_decide_eq_true h
      exact ⟨.int i, ⟨t, rfl⟩, fun _ _ => rep_int⟩
    | _ => unfold conB at h; cases h
  | .str x, u, h => by
    cases u with
    | str y t =>
      unfold conB at h
      obtain rfl := of_decide_eq_true h
      exact ⟨.str x, ⟨t, rfl⟩, fun _ _ => rep_str⟩
    | _ => unfold conB at h; cases h
  | .tup xs, u, h => by
    cases u with
    | ref a =>
      unfold conB at h
      cases q : K.lookup a with
      | none => rw [q] at h; cases h
      | some o =>
        obtain ⟨oc, od, dt, osl⟩ := o
        rw [q] at h
        cases oc with
        | type c =>
          cases dt with
          | seq its n =>
            obtain ⟨h1, h2⟩ := Bool.and_eq_true_iff.mp (show (decide (c = "tuple") && (decide (its.size ≤ sizeLine) && consB K xs its.toList)) = true from h)
            obtain ⟨h3, h4⟩ := Bool.and_eq_true_iff.mp h2
            obtain ⟨vs, r, rs⟩ := consB_ok xs its.toList h4
            have hz : its.size ≤ sizeLine := of_decide_eq_true h3
            refine ⟨.ref a, rfl, fun G c' => ?_⟩
            unfold Rep
            refine ⟨?_, a, vs, rfl, ?_, rs G c'⟩
            · rw [consB_len h4, Array.length_toList]; exact hz
            · exact .inr ⟨_, its, n, q, congrArg Value.type (of_decide_eq_true h1), rfl, hz, r⟩
          | _ => cases h
        | _ => cases dt <;> cases h
    | _ => unfold conB at h; cases h
  | .fn x, u, h => by
    cases u with
    | ref a =>
      unfold conB at h
      obtain rfl := of_decide_eq_true h
      exact ⟨.ref (He.ga K x), rfl, fun _ _ => by unfold Rep; rfl⟩
    | _ => unfold conB at h; cases h
  | .lst xs, u, h => by unfold conB at h; cases h
  | .scr xs, u, h => by unfold conB at h; cases h
  | .cell n, u, h => by unfold conB at h; cases h
  | .exv _ _ _, u, h => by unfold conB at h; cases h
  | .ex0 _, u, h => by unfold conB at h; cases h
theorem consB_ok {K : PySem.W.Frag} : ∀ (ds : List D) (us : List Value), consB K ds us = true → ∃ vs, Vals vs us ∧ ∀ G c, Reps (tyOf K) G c ds vs
  | [], us, h => by
    cases us with
    | nil => exact ⟨[], .nil, fun _ _ => Reps.nil⟩
    | cons u us => unfold consB at h; cases h
  | d :: ds, us, h => by
    cases us with
    | nil => unfold consB at h; cases h
    | cons u us =>
      unfold consB at h
      obtain ⟨h1, h2⟩ := Bool.and_eq_true_iff.mp h
      obtain ⟨v, r, rp⟩ := conB_ok d u h1
      obtain ⟨vs, rs, rps⟩ := consB_ok ds us h2
      exact ⟨v :: vs, .cons r rs, fun G c => Reps.cons (rp G c) (rps G c)⟩
end
/-! ### facts of the head -/
inductive Fx where
  | free (x : Str) | con (x : Str) (d : D) | blt (x : Str) (id : String) | glo (x : Str)
def Fx.ok (K : PySem.W.Frag) : Fx → Bool
  | .free x => He.eqO (PySem.W.nsIn K mainGlobals x) (some none)
  | .con x d => (match PySem.W.nsIn K mainGlobals x with
    | some (some u) => conB K d u
    | _ => false)
  | .blt x id => He.eqO (PySem.W.nsIn K mainGlobals x) (some (some (.builtin id)))
  | .glo x => He.eqO (PySem.W.nsIn K mainGlobals x) (some (some (.ref (He.ga K x))))
section
variable {K : PySem.W.Frag} {h : Heap} {mg : Str → Option Value}
theorem fx_free (X : K.In h) (G : h.Ns mainGlobals mg) {x : Str} (c : (Fx.free x).ok K = true) : mg x = none := PySem.W.mg_none_of X G (He.eqO_ok c)
theorem fx_blt (X : K.In h) (G : h.Ns mainGlobals mg) {x : Str} {id : String} (c : (Fx.blt x id).ok K = true) : mg x = some (.builtin id) := PySem.W.mg_of X G (He.eqO_ok c)
theorem fx_glo (X : K.In h) (G : h.Ns mainGlobals mg) {x : Str} (c : (Fx.glo x).ok K = true) : mg x = some (.ref (He.ga K x)) := PySem.W.mg_of X G (He.eqO_ok c)
theorem fx_con (X : K.In h) (G : h.Ns mainGlobals mg) {x : Str} {d : D} (c : (Fx.con x d).ok K = true) : GloM mg (tyOf K) x d := by
  have c2 : (match PySem.W.nsIn K mainGlobals x with
    | some (some u) => conB K d u
    | _ => false) = true := c
  cases e : PySem.W.nsIn K mainGlobals x with
  | none => rw [e] at c2; cases c2
  | some o =>
    cases o with
    | none => rw [e] at c2; cases c2
    | some u =>
      rw [e] at c2
      obtain ⟨v, r, rp⟩ := conB_ok d u c2
      exact ⟨v, u, PySem.W.mg_of X G e, r, rp⟩
end
/-! ### the hook -/
def obsX (ok : PySem.W.Frag → Bool) (fn : List He.DefD) (K : PySem.W.Frag) : He.AlD := (ok K && fn.all fun d => d.ok K, fn.map fun d => He.fnW K d.at_)
def SaysX (ok : PySem.W.Frag → Bool) (fn : List He.DefD) (K : PySem.W.Frag) : Prop := obsX ok fn K = He.valD fn
def obsXG (n : Nat) (ok : PySem.W.Frag → Bool) (fn : List He.DefD) (g : Addr → Option Obj) : He.AlD := obsX ok fn (He.frG g (He.asD g n))
def hookX (n : Nat) (ok : PySem.W.Frag → Bool) (fn : List He.DefD) : PySem.W.Hook where
  α := He.AlD
  obs := fun s => obsXG n ok fn s.heap.get?
  val := fun _ => He.valD fn
  says := fun _ h => ∃ K : PySem.W.Frag, K.In h ∧ SaysX ok fn K
  of := fun _ _ e => ⟨_, He.frG_in, e⟩
  keeps := fun _ _ _ ⟨K, hK, c⟩ k => ⟨K, PySem.W.Frag.In.keeps hK k, c⟩
theorem obsXG_eq {n : Nat} {ok : PySem.W.Frag → Bool} {fn : List He.DefD} {g : Addr → Option Obj} {s : Shared} (h : ∀ a, g a = s.heap.get? a) : obsXG n ok fn g = (hookX n ok fn).obs s := by
  have e : g = s.heap.get? := funext h
  rw [e] <;> rfl
section
variable {ok : PySem.W.Frag → Bool} {fn : List He.DefD} {K : PySem.W.Frag}
theorem SaysX.ok_ (c : SaysX ok fn K) : ok K = true := (Bool.and_eq_true_iff.mp (show (ok K && fn.all fun d => d.ok K) = true from congrArg (fun z : He.AlD => z.1) c)).1
theorem SaysX.def_ (c : SaysX ok fn K) (i : Nat) {d : He.DefD} (h : fn[i]? = some d := by rfl) : ∃ fd, FunD K d.name d.qual d.params d.body d.scope (d.dvs K) (d.kws K) (He.fAd K d.at_) fd := by
  have c2 := (Bool.and_eq_true_iff.mp (show (ok K && fn.all fun d => d.ok K) = true from congrArg (fun z : He.AlD => z.1) c)).2
  have e : fn.map (fun d => He.fnW K d.at_) = fn.map He.DefD.val := congrArg (fun z : He.AlD => z.2) c
  have e2 : (fn.map fun d => He.fnW K d.at_)[i]? = (fn.map He.DefD.val)[i]? := by rw [e]
  rw [List.getElem?_map, List.getElem?_map, h] at e2
  exact He.DefD.funD (Option.some.inj e2) (List.all_eq_true.mp c2 d (List.mem_of_getElem? h))
theorem all_fact {fx : List Fx} (c : (fx.all fun f => f.ok K) = true) (i : Nat) {f : Fx} (h : fx[i]? = some f := by rfl) : f.ok K = true := List.all_eq_true.mp c f (List.mem_of_getElem? h)
end
/-! ### the end: the law's mirror answers True -/
def CXq : CXT := fun _ _ _ _ _ _ => False
theorem fn_quiet {P : Program} {w : World} {K : PySem.W.Frag} {mg : Str → Option Value} {base : Heap} {k : Nat} {f : Addr} {fd : FuncData} {ps : List Str} {sp : Sp} (F : FnOk P w K mg base (L2.CX P w) k f fd ps sp) :
    FnOk P w K mg base KF.CXq k f fd ps (fun vs H Q _ => sp vs H Q fun _ _ _ => False) := by
  refine ⟨fun vs H Q E h => F.len _ _ _ _ h, fun A outer s H args us vs Q E hr he hb hv hs => ?_⟩
  refine codeAny_mono (F.run A outer s H args us vs Q _ hr he hb hv hs) fun r s' hq => ?_
  cases r with
  | ok fl => cases fl <;> exact hq
  | error e =>
    obtain ⟨a, B, H', cls, d, _, _, _, _, _, _, _, z⟩ := hq
    exact z.elim
theorem sp_law {T : Ct} {m : MF} {H : Hp} {a : Addr} {ns : List Int} (hz : ns.length ≤ sizeLine) (hS : SqL T.K H a (ns.map V.int)) (hm : ∃ S, m [.scr (ns.map D.int)] [] = .ok (.bl true) S) :
    spM T 1 m [.ref a] H (fun v _ => v = .bl true) (fun _ _ _ => False) := by
  obtain ⟨S, hm⟩ := hm
  refine ⟨H, [], [], [.scr (ns.map D.int)], ⟨fun _ _ h => h, rfl, fun n xs p h => by simp at h, by simp⟩, Reps.cons (rep_scr (by rw [List.length_map]; exact hz) hS (ints_reps ns)) Reps.nil, rfl, ?_⟩
  rw [hm]
  exact fun v G' H' c' w l r => inv_bl r
end KF
end

section
namespace KF
open PySem PySem.HandSPX Builtin Builtin.ObjectAttr
/-! ### own classes over Exception -/
abbrev exT : List Value := [.type "Exception", .type "BaseException", .type "object"]
def isRef : Value → Bool
  | .ref _ => true
  | _ => false
/-- own classes, one above another, then Exception's row -/
def refsE (l : List Value) : Bool := l.dropWhile isRef == exT
theorem refs_ind {P : List Value → Prop} (h0 : P exT) (h1 : ∀ c r, P r → P (.ref c :: r)) : ∀ l, refsE l = true → P l
  | [], e => by cases (beq_iff_eq.mp e)
  | a :: r, e => by
    cases ha : isRef a with
    | true =>
      cases a <;> simp only [isRef] at ha <;> try cases ha
      exact h1 _ _ (refs_ind h0 h1 r e)
    | false =>
      have : a :: r = exT := by
        have e2 := beq_iff_eq.mp e
        rwa [List.dropWhile_cons_of_neg (by rw [ha]; decide)] at e2
      rw [this]
      exact h0
theorem refs_pass (self : Value) {l : List Value} (h : refsE l = true) : refuseLoop self "__setattr__" l = pure () :=
  refs_ind (P := fun l => refuseLoop self "__setattr__" l = pure ()) (F.store_Exception.passes self) (fun c r ih => by rw [refuseLoop_ref, ih]) l h
theorem refsE_has (X : String) (l : List Value) (h : refsE l = true) : l.contains (.type X) = exT.contains (.type X) :=
  refs_ind (P := fun l => l.contains (.type X) = exT.contains (.type X)) rfl (fun c r ih => by rw [List.contains_cons, ih]; rfl) l h
theorem refs_some {l : List Value} (h : refsE l = true) : l.isEmpty = false := refs_ind (P := fun l => l.isEmpty = false) rfl (fun _ _ _ => rfl) l h
section
variable {prog : Program} {w : World} {A : Around} {E : Value → Shared → Prop} {R : Result → Shared → Prop} {hp : Heap} {g : Array GenState} {d : Drawn} {t : Nat} {os : OsState}
/-- the first field of such an exception: it gets its dict -/
theorem osaE {K : W.Frag} {f : Str} {tk : Tok} {v : Value} {e C : Addr} {vs : Array Value} {cd : ClassData} (inK : K.In hp) (at_ : hp.get? e = some { cls := .ref C, data := .fields vs }) (cls : W.clsIn K C = some cd) (own : refsE cd.mro = true) (dict : cd.hasDict = true) (free : W.findIn K (.ref C) f = some none)
    (q : ∀ h' tk' dx, hp.objs.size ≤ dx ∧ dx ≠ e → (∀ b o, b ≠ e → hp.get? b = some o → h'.get? b = some o) → h'.get? e = some { cls := .ref C, dict := some dx, data := .fields vs } → h'.Ns1 dx (fun y => if y = f then some v else none) → R (.ok (.ret .none)) ⟨h', g, d, tk', os⟩) :
    codeAny (model prog w) A (.call (.builtin "object.__setattr__") ⟨[.ref e, .str f tk, v], []⟩) R ⟨hp, g, d, t, os⟩ := by
  have inst : W.InstAt hp e { cls := .ref C, data := .fields vs } C none := ⟨at_, rfl, rfl, trivial⟩
  have apart : e ≠ hp.objs.size := Nat.ne_of_lt (Heap.lt_size at_)
  have tops : W.mroIn K C (.type "object") = some true := by
    have has : cd.mro.contains (.type "object") = true := (refsE_has "object" _ own).trans (by decide +kernel)
    unfold W.mroIn
    rw [cls, Option.bind_some, if_neg (by rw [refs_some own]; decide), has]
  have row : W.Looks (model prog w) hp (mroOf (.ref C)) cd.mro := (W.looks_clsIn inK cls).andThen .now
  have data : W.Looks (model prog w) hp (classData C) cd := W.looks_clsIn inK cls
  refine codeAny_call_builtin F.store_object.slot.plain F.store_object.entry (@W.check_slot (model prog w) _ _ ⟨hp, g, d, t, os⟩ "object.__setattr__" "object" "__setattr__" (.ref e) [.str f tk, v] [] _ F.store_object.kind F.store_object.split (inst.type.andThen (W.looks_mroIn inK tops)) (F.store_object.args (.ref e) (.str f tk) v) ?_)
  rw [W.osa_eq, refuse_eq]
  refine wpAny_bind (wpAny_bind (inst.type.at (wpAny_bind (row.at ?_))))
  rw [refs_pass _ own]
  have still : W.Looks (model prog w) hp (storeTaker? none) none := .now
  refine wpAny_pure (wpAny_bind (inst.type.at (wpAny_bind ((W.looks_findIn inK free).at (wpAny_bind (still.at ?_))))))
  show wpAny _ _ (storeInOwnDict (.ref e) (.ref C) (.str f tk) f v false) _ _ _
  rcases cd with ⟨_, _, _, _, _, hasD, _, _, _, _, _⟩
  cases (show hasD = true from dict)
  unfold storeInOwnDict ownDictForStores
  repeat (first | with_reducible refine store_in_new ?_ ?_ | with_reducible refine wpAny_loadPart_at at_ ?_ | with_reducible refine data.at ?_ | wp_step)
  · exact ⟨_, #[], _, (Heap.get?_update_ne _ _ _ _ apart.symm).trans (Heap.get?_push_at rfl rfl), rfl, fun _ h => absurd h (by simp), fun _ => rfl⟩
  · refine fun h' tk' ns sb => q h' tk' hp.objs.size ⟨Nat.le_refl _, apart.symm⟩ (fun b o nb eb => (sb.2 b (Nat.ne_of_lt (Heap.lt_size eb))).trans ((Heap.get?_update_ne _ _ _ _ nb).trans (Heap.get?_push_of_some _ eb))) ((sb.2 e apart).trans (Heap.get?_update_self _ (o := { cls := .ref C, data := .fields vs }) (Heap.get?_push_of_some _ at_) rfl)) ns
end
end KF
namespace KF
open PySem PySem.Spec PyProof.Rows L2
/-- what the written part says of such a class -/
structure OexE (K : PySem.W.Frag) (C : Addr) : Prop where
  cls : ∃ nm q N bs bm sn sub ab col dd k0 k1 k2 k3 k5, K.lookup C = some (excClassObj nm q C N bs bm true sn sub ab col dd k0 k1 k2 k3 k5 "Exception.__new__") ∧ refsE bm = true
  sa : PySem.W.findIn K (.ref C) "__setattr__" = some (some (.builtin "object.__setattr__"))
  exC : PySem.W.subIn K (.ref C) (.type "BaseException") = some true
  tyC : PySem.W.typeIn K (.ref C) = some (.type "type")
  kC : PySem.W.keepIn K (.ref C) = true
section
variable {X : Cx} {pins : List (Addr × Obj)} {σ : L2.St} {H : Hp} {s : Shared} {a C dx : Addr} {f : Str} {y : V} {u : Value} {fs : List (Str × V)} {Q : Unit → Shared → Prop} {E : Value → Shared → Prop} {A : Around}
/-- self.f = y, in an __init__ -/
theorem ost_E (T : OexE X.K C) (I : Inv X pins σ H s) (e : H a = some (exo a C none)) (free : PySem.W.findIn X.K (.ref C) f = some none) (ry : RelV y u)
    (q : ∀ dx s', H dx = none → dx ≠ a → Inv X pins σ (upd (upd H dx (exd dx [(f, y)])) a (exo a C (some dx))) s' → Q () s') : wpAny (model X.prog X.w) A (setAttr (.ref a) f u) Q E s := by
  obtain ⟨_, _, _, _, bm, _, _, _, _, _, _, _, _, _, _, look, own⟩ := T.cls
  obtain ⟨t1, at_⟩ := exo_at I.hok e
  obtain ⟨hp, g, dr, tk, os⟩ := s
  refine PySem.W.set_plain (od := none) I.kIn ⟨at_, rfl, rfl, trivial⟩ T.sa (osaE I.kIn at_ (by unfold PySem.W.clsIn; rw [look] <;> rfl) (show refsE (.ref C :: bm) = true from own) rfl free fun h' tk' dx hd k now ns => ?_)
  have nil : H dx = none := I.hok.fresh hd.1
  -- what was there before is neither the exception nor its dict
  have old : ∀ {b o}, hp.get? b = some o → b ≠ dx := fun z => Nat.ne_of_lt (Nat.lt_of_lt_of_le (Heap.lt_size z) hd.1)
  have oth : ∀ {b}, H b = none → b ≠ a := fun n z => by rw [z, e] at n; cases n
  have far : ∀ {b o}, H b = some o → exo a C none ≠ o → upd (upd H dx (exd dx [(f, y)])) a (exo a C (some dx)) b = some o := fun {b o} z n => by rw [upd_ne (at_ne e z n), upd_ne (ne_of_none z nil)]; exact z
  have U : Un X.fs [] H (upd (upd H dx (exd dx [(f, y)])) a (exo a C (some dx))) hp h' := by
    refine { keep := fun b o z n _ _ => k b o (oth n) z, slot := fun b o z n _ _ => ⟨o.slots, k b o (oth n) z⟩, free := fun b o z n _ => by rw [upd_ne (oth n), upd_ne (old z)]; exact n, there := fun b o z _ => ?_, tups := fun b xs z => far z exo_tup, frzs := fun b o v z => far z exo_frz, tbls := fun b ps z => ⟨#[], by rw [far z exo_tbl]; simp⟩ }
    by_cases hb : b = a
    · rw [hb]; exact ⟨_, now⟩
    · exact ⟨o, k b o hb z⟩
  refine q dx _ nil hd.2 (I.un (t' := tk') U fun b o z => ?_)
  by_cases hb : b = a
  · rw [hb, upd_same] at z
    rw [hb]
    exact Option.some.inj z ▸ exo_ok now
  · rw [upd_ne hb] at z
    by_cases hb2 : b = dx
    · rw [hb2, upd_same] at z
      rw [hb2]
      exact Option.some.inj z ▸ exd_ok ns (relO_put (fs := []) ry fun _ => trivial)
    · rw [upd_ne hb2] at z
      refine (I.hok b o z).stay (fun c v hc w' => k c v ?_ w') (fun c hc => far hc exo_own) fun c xs hc => far hc exo_tup
      rcases hc with rfl | hc
      · exact hb
      · exact at_ne e hc exo_own
end
/-! ### its __init__: one field is set -/
/-- __init__(self, y): self.f = y -/
def spI (K : PySem.W.Frag) (f : Str) : Sp := fun vs H Q _ => ∃ (a C : Addr) (y : V), vs = [.ref a, y] ∧ OexE K C ∧ PySem.W.findIn K (.ref C) f = some none ∧ H a = some (exo a C none) ∧
  ∀ dx, H dx = none → dx ≠ a → Q .non (upd (upd H dx (exd dx [(f, y)])) a (exo a C (some dx)))
theorem init_ok {P : Program} {w : World} {K : PySem.W.Frag} {mg : Str → Option Value} {base : Heap} {f s0 y0 qual : Str} {params : Arguments} {scope : Scope} {fI : Addr} {fd : FuncData} {p1 p2 p3 p4 : Pos} (F : FunD K "__init__" qual params [.Assign [.Attribute (.Name s0 p1) f p2] (.Name y0 p3) p4] scope [] [] fI fd)
    (S : FnScope [s0, y0] [s0, y0] scope) (h0 : Vis scope s0) (h1 : Vis scope y0) (d0 : (s0 == ("__debug__" : Str)) = false) (d1 : (y0 == ("__debug__" : Str)) = false) (c0 : (s0 == ("__classdict__" : Str)) = false) (c1 : (y0 == ("__classdict__" : Str)) = false)
    (hs : ∀ env : PySem.Env, swapsWith (.Name y0 p3) (some (.Attribute (.Name s0 p1) f p2)) p4.line env = pure false) : FnOk P w K mg base (L2.CX P w) 1 fI fd [s0, y0] (spI K f) := by
  refine F.ok S (fun vs H Q E h => ?_) (fun cdv A outer s H vs Q E hr h => ?_)
  · obtain ⟨a, C, y, rfl, _⟩ := h
    rfl
  · obtain ⟨a, C, y, rfl, T, hno, ea, q⟩ := h
    let t : TS := fun D σ H' => σ = start [s0, y0] [V.ref a, y] ∧ H' = H ∧ ∀ dx, H dx = none → dx ≠ a → D.nx σ (upd (upd H dx (exd dx [(f, y)])) a (exo a C (some dx)))
    refine ⟨t, pss_one ⟨fun pins s' σ H' D I ht => ?_⟩, rfl, rfl, fun dx n ne => q dx n ne⟩
    obtain ⟨rfl, rfl, hq⟩ := ht
    refine plainObj_wpAny_Assign_Attribute (thn ((pe_var (i := 1) rfl h1 d1 c1).run pins s' _ _ (fun v H1 => v = y ∧ H1 = H') I ⟨_, rfl, rfl, rfl⟩) fun v s1 ⟨y', H1, I1, r1, e1⟩ => ?_) (hs _)
    obtain ⟨rfl, rfl⟩ := e1
    refine thn ((pe_var (i := 0) rfl h0 d0 c0).run pins s1 _ _ (fun v H2 => v = .ref a ∧ H2 = H1) I1 ⟨_, rfl, rfl, rfl⟩) fun u s2 ⟨x, H2, I2, r2, e2⟩ => ?_
    obtain ⟨rfl, rfl⟩ := e2
    obtain rfl : u = Value.ref a := r2
    exact ost_E T I2 ea hno r1 fun dx s'' n ne J => ⟨_, _, J, hq dx n ne⟩
end KF
end

section
namespace KF
open PySem PySem.Spec PyProof.Rows L2
/-- the heap with an exception of the class at C just made, its arguments' row below it -/
abbrev exh (hp : Heap) (C : Addr) (us : List Value) : Heap := (hp.push (PySem.W.kdv_tup us)).push (PySem.HandSPX.excO C hp.objs.size)
theorem exh_keep {hp : Heap} {C : Addr} {us : List Value} {b : Addr} {o : Obj} (e : hp.get? b = some o) : (exh hp C us).get? b = some o := Heap.get?_push_of_some _ (Heap.get?_push_of_some _ e)
theorem exh_inv {X : Cx} {pins : List (Addr × Obj)} {σ : L2.St} {H : Hp} {hp : Heap} {g : Array GenState} {dr : Drawn} {tk : Nat} {os : OsState} (I : Inv X pins σ H ⟨hp, g, dr, tk, os⟩) (C : Addr) (us : List Value) :
    H (hp.objs.size + 1) = none ∧ Inv X pins σ (upd H (hp.objs.size + 1) (exo (hp.objs.size + 1) C none)) ⟨exh hp C us, g, dr, tk, os⟩ := by
  refine ⟨I.hok.fresh (Nat.le_succ _), I.laid (t' := tk) (a := hp.objs.size + 1) (o := exo (hp.objs.size + 1) C none) (h' := exh hp C us) (fun b o => exh_keep) (Nat.le_succ _) (exo_ok (t1 := hp.objs.size) ?_)⟩
  have e : (exh hp C us).get? (hp.push (PySem.W.kdv_tup us)).objs.size = some (PySem.HandSPX.excO C hp.objs.size) := Heap.get?_push_size _ rfl
  rwa [Heap.size_push] at e
section
variable {X : Cx} {e : Expr} {es : List Expr} {ta : TA} {p pos : Pos}
/-- C(e, ..), C over Exception, with an __init__ of its own -/
theorem pmk_E {CX : CXT} {x : Str} {C fI : Addr} {k : Nat} {fd : FuncData} {ps : List Str} {sp : Sp} (T : OexE X.K C) (init : PySem.W.findIn X.K (.ref C) "__init__" = some (some (.ref fI))) (isF : PySem.W.typeIn X.K (.ref fI) = some (.type "function"))
    (Fn : FnOk X.prog X.w X.K X.mg X.base CX k fI fd ps sp) (room : Room (k + 1) X.A) (bind : Binds X.K fd ps []) (quiet : Passes CX X (fun _ _ _ => False)) (hg : Gl X x) (hm : X.mg x = some (.ref C)) (ha : PA X (e :: es) ta)
    (hdb : (x == ("__debug__" : Str)) = false) (he : starEach (e :: es) X.env = (false, eval e X.env) :: starEach es X.env) (hpl : (backTo pos (starEach es X.env)).any (·.1) = false) : PMk X (.Call (.Name x p) (e :: es) [] pos) (tMkO C sp [] ta) := by
  intro pins s σ H Q I h
  refine wpAny_Call_Name_kw (ld_glob I hg hm (PySem.W.callWith_K (h₀ := X.base) I.ok.mod.kin T.kC (thn (ha.run pos pins s σ H _ I h) fun us s1 ⟨vs, H1, J, rv, small, q⟩ => ⟨J.kIn, ?_⟩) he hpl) hdb)
  obtain ⟨_, _, _, _, bm, _, _, _, _, _, _, _, _, _, _, look, own⟩ := T.cls
  obtain ⟨hp, g, dr, tk, os⟩ := s1
  obtain ⟨nil, J2⟩ := exh_inv J C us
  have wish := q _ nil
  rw [List.append_nil] at wish
  have self : Vals (V.ref (hp.objs.size + 1) :: vs) (Value.ref (hp.objs.size + 1) :: us) := .cons rfl rv
  have many : us.length ≤ sizeLine := by
    rw [← Paired.length rv, sizeLine_eq]
    omega
  have bound : BindsTo ⟨exh hp C us, g, dr, tk, os⟩ fd ⟨Value.ref (hp.objs.size + 1) :: us, []⟩ (ps.zip (Value.ref (hp.objs.size + 1) :: us)) := by
    have b := bind ⟨exh hp C us, g, dr, tk, os⟩ (Value.ref (hp.objs.size + 1) :: us) J2.kIn (by rw [List.append_nil, ← self.length]; exact Fn.len _ _ _ _ wish)
    rwa [List.append_nil] at b
  have walked := Fn.run _ X.stack _ _ ⟨Value.ref (hp.objs.size + 1) :: us, []⟩ _ _ _ (fun _ _ _ => False) (room.make C us []) (J2.env0.make C us []) bound self wish
  show wpAny _ _ (call (.ref C) us) _ _ _
  refine wpAny_call (PySem.HandSPX.call_own F.excBase_Exception (fun Y => refsE_has Y bm own) (J.kIn _ _ look) (PySem.W.looks_findIn J.kIn init) (fun me => PySem.W.bind_fn J.kIn me isF) many (codeAny_mono walked fun r s' hq => ?_))
  match r, hq with
  | .error er, hq => exact quiet pins σ _ _ er s' J2 hq
  | .ok (.ret u), ⟨v, H2, sameOs, bare, un, ok2, ru, ev, d, fs, ea, ed, nd, q2⟩ =>
    subst ev
    obtain ⟨h2, g2, d2, t2, os2⟩ := s'
    exact ⟨ru, mk_end (raises_own T.exC T.tyC) J (Nat.le_succ _) (fun b o => exh_keep) un ok2 sameOs bare ea ed nd q2⟩
  | .ok .next, hq => exact False.elim hq
  | .ok .brk, hq => exact False.elim hq
  | .ok .cont, hq => exact False.elim hq
end
/-- the module's class x, an exception with one field f -/
structure ExM (P : Program) (w : World) (K : PySem.W.Frag) (mg : Str → Option Value) (base : Heap) (T : Ct) (x f : Str) : Prop where
  ox : OexE K (T.fa x)
  hm : mg x = some (.ref (T.fa x))
  hno : PySem.W.findIn K (.ref (T.fa x)) f = some none
  xf : XfC K (T.fa x)
  same : PySem.W.exmOne K (.ref (T.fa x)) (.ref (T.fa x)) = some true
  ex : ∃ (fI : Addr) (fd : FuncData) (s0 y0 : Str), PySem.W.findIn K (.ref (T.fa x)) "__init__" = some (some (.ref fI)) ∧ PySem.W.typeIn K (.ref fI) = some (.type "function") ∧ FnOk P w K mg base (L2.CX P w) 1 fI fd [s0, y0] (spI K f) ∧ Binds K fd [s0, y0] []
abbrev XEx (X : Cx) (T : Ct) (x f : Str) : Prop := ExM X.prog X.w X.K X.mg X.base T x f
section
variable {X : Cx} {T : Ct} {W : WX} {e : Expr} {m : ME} {x f : Str} {p pos pos' : Pos}
theorem pass_none {X : Cx} : Passes (L2.CX X.prog X.w) X (fun _ _ _ => False) := fun pins σ H s e s' I h => by
  obtain ⟨a, B, H', cls, d, _, _, _, _, _, _, _, z⟩ := h
  exact z.elim
def sRaise (x f : Str) (m : ME) : MS := sExp m fun d ρ S => .exc x (some (f, d)) ρ S
theorem ss_raise {j : Nat} (E : XEx X T x f) (hr : Room j X.A) (hj : 2 ≤ j) (hc : X.calm = true) (tk : Takes X W) (h : SE X T W e m) (hg : Gl X x := by rfl) (hdb : (x == ("__debug__" : Str)) = false := by decide)
    (he : starEach (e :: []) X.env = (false, eval e X.env) :: starEach [] X.env := by rfl) (hpl : (backTo pos (starEach [] X.env)).any (·.1) = false := by rfl) :
    SS X T W (.Raise (some (.Call (.Name x p) [e] [] pos)) none pos') (sRaise x f m) := by
  obtain ⟨fI, fd, s0, y0, i1, i2, i3, i4⟩ := E.ex
  refine ⟨fun hK => PS.imp (ps_raise hc tk (pmk_E E.ox i1 i2 i3 (hr.mono hj) i4 pass_none hg E.hm ((sa_cons h sa_nil he).pa hK) hdb he hpl)) fun D σ H h => ?_⟩
  obtain ⟨B, G, c, S, ρ, s, o⟩ := h
  unfold sRaise at o
  have o' := exp_out s o (R := Rep T)
  refine ⟨G, c, S, ρ, s.wf, s.sr, ?_⟩
  unfold aCons
  cases q : m ρ S with
  | bad => rw [q] at o'; exact o'.elim
  | exc C fx S1 => rw [q] at o'; exact o'
  | ok d S1 =>
    rw [q] at o'
    show Out T W σ G H c (Reps T) _ (.ok [d] S1)
    intro vs G1 H1 c1 w1 l1 rs
    obtain ⟨v, us, rfl, r1, r2⟩ := rs.cons_inv
    obtain rfl := r2.nil_inv
    refine ⟨by show 1 ≤ 1000; decide, fun a ha => ⟨a, T.fa x, v, rfl, E.ox, E.hno, upd_same, fun dx hdx hne => ?_⟩⟩
    have hd1 : H1 dx = none := by rw [upd_ne hne] at hdx; exact hdx
    refine ⟨rfl, dx, [(f, v)], upd_same, by rw [upd_ne hne, upd_same], hd1, ?_⟩
    have eH : upd (del (upd (upd (upd H1 a (exo a (T.fa x) none)) dx (exd dx [(f, v)])) a (exo a (T.fa x) (some dx))) a) dx (.xd [(f, v)]) = upd H1 dx (.xd [(f, v)]) := by
      funext b
      by_cases hb : b = dx
      · subst hb; rw [upd_same, upd_same]
      · rw [upd_ne hb, upd_ne hb]
        by_cases hb2 : b = a
        · subst hb2; rw [del_same, ha]
        · rw [del_ne hb2, upd_ne hb2, upd_ne hb, upd_ne hb2]
    rw [eH]
    obtain ⟨w2, l2⟩ := w1.laidN (o := .xd [(f, v)]) hd1
    obtain ⟨G1', c1', d', S1', s1, l1', r1', o1⟩ := o' v G1 H1 c1 w1 l1 r1
    -- the same end, told of the wish itself
    have s1 : Sit T B σ H1 G1 c1 S1 ρ := s.mono w1 l1
    unfold sExp at o
    rw [q] at o
    exact o (some dx) σ G1 (upd H1 dx (.xd [(f, v)])) c1 (s1.mono w2 l2) ⟨dx, v, rfl, upd_same, r1.mono l2⟩
/-! ### try, one clause: the suite returns -/
abbrev XF := Option (Str × D)
/-- what the suite's expression is, by the exception's field -/
def tH (T : Ct) (i : Nat) (x : Str) (h : XF → Option D) (a : Addr) (cls : Value) (d : Option Addr) : TE := fun σ H Q => ∃ G c S fx r, Wf T G H c S ∧ σ[i]? = some (some (.ref a)) ∧ cls = .ref (T.fa x) ∧ XRep T G H c fx d ∧ h fx = some r ∧ ∀ v G' H', Wf T G' H' c S → Le G H c G' H' c → Rep T G' c r v → Q v H'
structure SH (X : Cx) (T : Ct) (i : Nat) (x : Str) (e : Expr) (h : XF → Option D) : Prop where
  pe : X.K = T.K → ∀ (a : Addr) (oe : Obj) (cls : Value) (d : Option Addr) (pn : List (Addr × Obj)), Zc cls d oe → (∃ vs, oe.data = .fields vs) → PE (X.suite a ((a, oe) :: pn)) e (tH T i x h a cls d)
def hFld (f : Str) : XF → Option D := fun fx => match fx with
  | some (g, d) => if g = f then some d else none
  | none => none
theorem sh_fld (i : Nat) {n : Str} {np : Pos} (E : XEx X T x f) (hN : X.N[i]? = some n := by rfl) (hv : Vis X.env.scope n := by first | exact Or.inl rfl | exact Or.inr (Or.inl rfl) | exact Or.inr (Or.inr rfl)) (hd : (n == ("__debug__" : Str)) = false := by decide)
    (hcd : (n == ("__classdict__" : Str)) = false := by decide) (hb : attributeBase (.Name n np) f X.env (eval (.Name n np) X.env) = eval (.Name n np) X.env := by rfl) : SH X T i x (.Attribute (.Name n np) f pos) (hFld f) := by
  refine ⟨fun hK a oe cls d pn hz hf => PE.imp (pe_xf (C := T.fa x) (cls := cls) (d := d) E.xf E.hno hz hf (pe_var hN hv hd hcd) hb) fun σ H Q h => ?_⟩
  obtain ⟨G, c, S, fx, r, w, hs, rfl, xr, hh, q⟩ := h
  refine ⟨_, hs, rfl, rfl, ?_⟩
  cases fx with
  | none => cases hh
  | some gd =>
    obtain ⟨g, dd⟩ := gd
    unfold hFld at hh
    dsimp only at hh
    split at hh
    · next hg =>
      cases hh
      subst hg
      obtain ⟨a2, v, rfl, e1, r1⟩ := xr
      exact ⟨a2, _, v, rfl, e1, by simp [List.lookup], q v G H w (Le.refl _ _ _) r1⟩
    · cases hh
def hTup (z f : Str) : XF → Option D := fun fx => (hFld f fx).map fun d => .tup [.str z, d]
theorem sh_tup (i : Nat) {n z : Str} {np cp tp : Pos} {j x1 : Nat} (E : XEx X T x f) (hN : X.N[i]? = some n := by rfl) (hv : Vis X.env.scope n := by first | exact Or.inl rfl | exact Or.inr (Or.inl rfl) | exact Or.inr (Or.inr rfl)) (hd : (n == ("__debug__" : Str)) = false := by decide)
    (hcd : (n == ("__classdict__" : Str)) = false := by decide) (hb : attributeBase (.Name n np) f X.env (eval (.Name n np) X.env) = eval (.Name n np) X.env := by rfl) : SH X T i x (.Tuple [.Constant (.str z) j cp, .Attribute (.Name n np) f pos] x1 tp) (hTup z f) := by
  refine ⟨fun hK a oe cls d pn hz hf => PE.imp (pe_tup (pa_cons (pe_str (x := z)) (pa_cons (((sh_fld i E hN hv hd hcd hb).pe hK) a oe cls d pn hz hf) pa_nil))) fun σ H Q h => ?_⟩
  obtain ⟨G, c, S, fx, r, w, hs, hcls, xr, hh, q⟩ := h
  unfold hTup at hh
  cases q1 : hFld f fx with
  | none => rw [q1] at hh; cases hh
  | some dd =>
    rw [q1] at hh
    cases hh
    show tH T i x (hFld f) a cls d σ H _
    refine ⟨G, c, S, fx, dd, w, hs, hcls, xr, q1, fun v G' H' w' l' r' => ?_⟩
    refine ⟨by show 2 ≤ sizeLine; decide, fun pp hp => ?_⟩
    obtain ⟨w2, l2⟩ := w'.laid (o := .tup [.str z, v]) hp
    exact q _ _ _ w2 (l'.trans l2) (rep_tup (by show 2 ≤ sizeLine; decide) (SqT.of upd_same) (Reps.cons rep_str (Reps.cons (r'.mono l2) Reps.nil)))
/-- try: body / except x as n: return e -/
def sTry (i : Nat) (x : Str) (mb : MS) (h : XF → Option D) : MS := fun ρ S => match mb ρ S with
  | .exc C fx ρ1 S1 => if C = x ∧ i < ρ1.length then (match h fx with
    | some d => .ret d S1
    | none => .bad) else .bad
  | r => r
theorem ss_try (i : Nat) {n : Str} {body : List Stmt} {np hp rp : Pos} {mb : MS} {h : XF → Option D} (E : XEx X T x f) (hN : X.N.Nodup) (hs : X.stack = X.env :: X.outer) (hf : X.env.frame = some X.env.locals)
    (hb : ∀ (W : WX) (pn : List (Addr × Obj)) (xe : Value → Shared → Prop), Takes (X.tr pn xe) W → PassesOwn (model X.prog X.w) X.A X.env xe → SB (X.tr pn xe) T W body mb) (hh : SH X T i x e h)
    (hi : X.N[i]? = some n := by rfl) (hln : X.env.kindOf n = some .local := by rfl) (hg : Gl X x := by rfl) (hdb : (x == ("__debug__" : Str)) = false := by decide) :
    SS X T W (.Try body [.ExceptHandler (some (.Name x np)) (some n) [.Return (some e) rp] hp] [] [] pos) (sTry i x mb h) := by
  refine ⟨fun hK => PS.imp (ps_try_as (c := .ref (T.fa x)) (tb := fun W => tS T W mb) (ts := fun a cls d => tRet (tH T i x h a cls d)) (Wout := fun _ _ _ _ => False) hs hf hN hi hln ⟨hg, hdb, .inl E.hm⟩ takes0
    (fun W pn xe tk hp => (hb W pn xe tk hp).pss hK) (fun a oe cls d pn hz hf => pss_one (ps_ret (hh.pe hK a oe cls d pn hz hf)))) fun D σ H h => ?_⟩
  obtain ⟨B, G, c, S, ρ, s, o⟩ := h
  refine ⟨B, G, c, S, ρ, s, ?_⟩
  unfold sTry at o
  cases q : mb ρ S with
  | next ρ1 S1 => rw [q] at o; exact o
  | ret d S1 => rw [q] at o; exact o
  | brk ρ1 S1 => rw [q] at o; exact o
  | cont ρ1 S1 => rw [q] at o; exact o
  | bad => rw [q] at o; exact o.elim
  | exc C fx ρ1 S1 =>
    rw [q] at o
    dsimp only at o
    split at o
    · next hc =>
      obtain ⟨rfl, hi2⟩ := hc
      cases q2 : h fx with
      | none => rw [q2] at o; exact o.elim
      | some r =>
        rw [q2] at o
        intro e' σ' G' H' c' s' xr
        have hl : i < σ'.length := by rw [← s'.sr.len]; exact hi2
        refine ⟨true, E.same, fun _ a ha => ?_, fun z => by cases z⟩
        exact ⟨G', c', S1, fx, r, s'.wf, List.getElem?_set_self hl, rfl, xr, q2, fun v G2 H2 w2 l2 r2 => o v G2 H2 c' w2 (s'.le.trans l2) r2⟩
    · exact o.elim
end
end KF
end

section
namespace KF
open PySem PySem.Spec PyProof.Rows L2
/-! ### exceptions: the facts of the head -/
def oexB (K : PySem.W.Frag) (C : Addr) : Bool := match K.lookup C with
  | some ⟨.type t, _, .cls cd, sl⟩ => decide (t = "type") && (match cd.mro, sl.toList with
    | .ref C' :: bm, [_, _, _, _, some (.builtin n), _] => decide (C' = C) && (decide (n = "Exception.__new__") && (!cd.hasDel && (cd.hasDict && refsE bm)))
    | _, _ => false)
  | _ => false
theorem oexB_ok {K : PySem.W.Frag} {C : Addr} (q : oexB K C = true) : ∃ nm qn N bs bm sn sub ab col dd k0 k1 k2 k3 k5, K.lookup C = some (excClassObj nm qn C N bs bm true sn sub ab col dd k0 k1 k2 k3 k5 "Exception.__new__") ∧ refsE bm = true := by
  unfold oexB at q
  split at q
  · rename_i t dd cd sl ho
    obtain ⟨ht, q2⟩ := Bool.and_eq_true_iff.mp q
    have ht := of_decide_eq_true ht
    subst ht
    clear q
    split at q2
    · rename_i C' bm k0 k1 k2 k3 n k5 hm hs
      simp only [Bool.and_eq_true, decide_eq_true_eq, Bool.not_eq_true'] at q2
      obtain ⟨rfl, rfl, hdel, hdict, hb⟩ := q2
      obtain ⟨nm, bs, mro, ns, qn, hd, sn, sub, ab, col, del⟩ := cd
      dsimp only at hm hdel hdict
      subst hm hdel hdict
      have hsl : sl = #[k0, k1, k2, k3, some (.builtin "Exception.__new__"), k5] := by
        obtain ⟨l⟩ := sl
        simp only at hs
        rw [hs]
      subst hsl
      exact ⟨nm, qn, ns, bs, bm, sn, sub, ab, col, dd, k0, k1, k2, k3, k5, ho, hb⟩
    · cases q2
  · cases q
def exB (x f : Str) (K : PySem.W.Frag) : Bool := oexB K (He.ga K x) && (He.eqO (PySem.W.findIn K (.ref (He.ga K x)) "__setattr__") (some (some (.builtin "object.__setattr__"))) &&
  (decide (PySem.W.subIn K (.ref (He.ga K x)) (.type "BaseException") = some true) && (decide (PySem.W.typeIn K (.ref (He.ga K x)) = some (.type "type")) && (PySem.W.keepIn K (.ref (He.ga K x)) &&
  (He.eqO (PySem.W.findIn K (.ref (He.ga K x)) f) (some none) && (xfB K (He.ga K x) && (decide (PySem.W.exmOne K (.ref (He.ga K x)) (.ref (He.ga K x)) = some true) &&
  (He.eqO (PySem.W.findIn K (.ref (He.ga K x)) "__init__") (some (some (.ref (He.ma K (He.ga K x) "__init__")))) && decide (PySem.W.typeIn K (.ref (He.ma K (He.ga K x) "__init__")) = some (.type "function"))))))))))
theorem exM_of {P : Program} {w : World} {K : PySem.W.Frag} {mg : Str → Option Value} {base : Heap} {x f s0 y0 : Str} {fd : FuncData} (c : exB x f K = true) (hm : mg x = some (.ref (He.ga K x)))
    (F1 : FnOk P w K mg base (L2.CX P w) 1 (He.ma K (He.ga K x) "__init__") fd [s0, y0] (spI K f)) (hb : Binds K fd [s0, y0] []) : ExM P w K mg base (tyOf K) x f := by
  unfold exB at c
  simp only [Bool.and_eq_true, decide_eq_true_eq] at c
  obtain ⟨c1, c2, c3, c4, c5, c6, c7, c8, c9, c10⟩ := c
  exact ⟨⟨oexB_ok c1, He.eqO_ok c2, c3, c4, c5⟩, hm, He.eqO_ok c6, xfB_ok c7, c8, _, fd, s0, y0, He.eqO_ok c9, c10, F1, hb⟩
def clsB : Stmt → List Stmt
  | .ClassDef (body := b) .. => b
  | _ => []
def initS (st : Stmt) : Stmt := (clsB st).getD 0 (.Pass ⟨0, 0, 0, 0⟩)
end KF
end

section
namespace KF
open PySem PySem.Spec PyProof.Rows L2
open PySem.Sem (wp)
/-! ### enumerate, of a list or a tuple -/
theorem asDraws {prog : Program} {w : World} {A : Around} (hh : A.handled = none) (k : Bool) {it l : Addr} (ne : l ≠ it) (items : Array Value) :
    Draws prog w A it [it, l] items.size (fun i v => items[i]? = some v) (fun i h => AsIt k h it l i ∧ AsSq k h l items) where
  live := fun i h st => by
    obtain ⟨o, e, _⟩ := st.1.obj
    exact ⟨o, e⟩
  frame := fun i h h' st kp => ⟨st.1.keep fun o e => kp it (by simp) o e, by
    obtain ⟨_, u⟩ := st
    cases k
    · exact Heap.IsTuple.at (show h.IsTuple l items from u) fun o e => kp l (by simp) o e
    · exact Heap.IsList.at (show h.IsList l items from u) fun o e => kp l (by simp) o e⟩
  item := fun i s Q E hi st q => as_item st.1 st.2 (x := items[i]) (by simp [hi]) fun h' t sb => q _ h' s.toks (by simp [hi]) ⟨t, st.2.ext sb.extBut ne⟩ sb
  done := fun s Q E st q => as_end hh st.1 st.2 (by simp) q
abbrev enO (h : Heap) : Obj := { cls := .type "enumerate", data := .fields #[.none, .bool false, .ref h.objs.size, rawInt 0, .none, .none] }
theorem newE (k : Bool) (l : Addr) (xs : Array Value) : Meets (Builtin.«enumerate.__new__» ⟨[.type "enumerate", .ref l], []⟩) (fun _ R s => AsSq k s.heap l xs ∧ R (.ok (.ret (.ref (s.heap.push (itO k l)).objs.size))) { s with heap := (s.heap.push (itO k l)).push (enO s.heap) }) := by
  refine .of_wp fun prog w A R s ⟨u, q⟩ => ?_
  have sub := sub_enumerate
  obtain ⟨hp, g, d, tk, os⟩ := s
  wp_walk using as_iter u
  refine wpAny_stack_any fun st => wpAny_pure ?_
  split
  · rename_i c _ _ _ _ _
    cases (c == Value.type "enumerate") <;> (wp_walk using as_iter u; exact ⟨_, rfl, q⟩)
  · wp_walk using as_iter u
    exact ⟨_, rfl, q⟩
theorem callE {prog : Program} {w : World} {A : Around} {E : Value → Shared → Prop} {s : Shared} {k : Bool} {l : Addr} {xs : Array Value} {Q : Value → Shared → Prop} (u : AsSq k s.heap l xs)
    (q : ∀ h', IsEnum h' (s.heap.objs.size + 1) s.heap.objs.size 0 .none → AsIt k h' s.heap.objs.size l 0 → (∀ b o, s.heap.get? b = some o → h'.get? b = some o) → Q (.ref (s.heap.objs.size + 1)) { s with heap := h' }) :
    wpAny (model prog w) A (call (.type "enumerate") [.ref l]) Q E s := by
  have size : (s.heap.push (itO k l)).objs.size = s.heap.objs.size + 1 := Heap.size_push ..
  have free : (itO k l).isFreed = false := by cases k <;> rfl
  have en : IsEnum ((s.heap.push (itO k l)).push (enO s.heap)) (s.heap.objs.size + 1) s.heap.objs.size 0 .none := by
    rw [← size]
    exact Heap.get?_push_size _ rfl
  refine callType_new F.called_enumerate (by decide) (F.typeCall_enumerate_1 _) (F.newCall_enumerate_1 _) (fun o => F.args_object_init_2 o _) F.entry_enumerate_new (newE k l xs) ⟨u, ?_⟩
  show _ ∧ _
  rw [size]
  exact ⟨⟨_, en, rfl⟩, q _ en (as_new (Heap.get?_push_of_some _ (Heap.get?_push_size _ free))) fun b o e => Heap.get?_push_of_some _ (Heap.get?_push_of_some _ e)⟩
def IteM (k : Bool) (K : PySem.W.Frag) (a : Addr) : It where
  go := fun i H => ∃ xs x, SqM k K H a xs ∧ xs[i]? = some x
  yld := fun i H v H' => ∃ T x, v = .ref T ∧ H T = none ∧ H' = upd H T (.tup [.int (i : Nat), x]) ∧ ∀ xs, SqM k K H a xs → xs[i]? = some x
  stop := fun i H => ∃ xs : List V, SqM k K H a xs ∧ xs.length ≤ i
theorem enum_turns {P : Program} {w : World} {K : PySem.W.Frag} {elts : List Expr} {kk : Nat} {tpos : Pos} {k : Bool} (a e it : Addr) (ne : e ≠ it) (na : a ≠ it) (nae : a ≠ e) :
    Turn P w K (.Tuple elts kk tpos) (IteM k K a) [e, it] e (fun i h => (∃ old, IsEnum h e it ((i : Nat) : Int) old) ∧ AsIt k h it a i) where
  mem := List.mem_cons_self ..
  obj := fun i h st c hc => by
    obtain ⟨⟨old, en⟩, t⟩ := st
    rcases List.mem_cons.mp hc with rfl | hc
    · exact ⟨_, en, fun v => nofun⟩
    · rw [List.mem_singleton.mp hc]; exact t.obj
  keep := fun i h h' st kp => ⟨let ⟨old, en⟩ := st.1; ⟨old, kp e (by simp) _ en⟩, st.2.keep fun o z => kp it (by simp) o z⟩
  self := fun A i s Q E st h => let ⟨_, en⟩ := st.1; wpAny_pyIter_enum en h
  item := by
    intro X eP ew eK hc i pins s σ H E I hf st go
    subst eP ew eK
    obtain ⟨⟨old, en⟩, t⟩ := st
    obtain ⟨xs, x, q, hx⟩ := go
    obtain ⟨us, vx, ax, _⟩ := q.at_ I
    obtain ⟨u, hu, ru⟩ := vx.get hx
    have hi : i < us.toArray.size := by have := (List.getElem?_eq_some_iff.mp hu).1; simpa using this
    have D := asDraws (prog := X.prog) (w := X.w) (A := X.A.in1) (by exact I.ok.hd hc) k na us.toArray
    have le : e < s.heap.objs.size := Heap.lt_size en
    refine wpAny_pyNext_enum_itemD D en ⟨t, ax⟩ hi ne (by simp [ne, Ne.symm nae]) fun v h1 tk hv out st1 pair size kp => ⟨_, rfl, wpAny_letOwnedTupleGo_enum (s := { s with heap := h1, toks := tk + 1 }) out fun h2 en2 sb => ?_⟩
    obtain rfl : v = u := by
      have e1 : us.toArray[i]? = some u := by simpa using hu
      exact Option.some.inj (hv.symm.trans e1)
    have pair2 := (sb.2 _ (Nat.ne_of_gt le)).trans pair
    have rest : ∀ c o, c ∉ [e, it] → s.heap.get? c = some o → h2.get? c = some o := fun c o h z => (sb.2 c fun w => h (by simp [w])).trans (kp c o (fun w => h (by simp [w])) (fun w => h (by simp [w])) z)
    have good : ObjOk X.prog X.w (upd H s.heap.objs.size (.tup [.int (i : Nat), x])) h2 s.heap.objs.size (.tup [.int (i : Nat), x]) := ⟨by show 2 ≤ sizeLine; decide, [.int i tk, v], .cons ⟨_, rfl⟩ (.cons ru .nil), ⟨_, pair2, rfl, _, rfl⟩⟩
    have J := I.turnedNew (t' := tk + 1) (ch := [e, it]) rest hf (Nat.le_refl _) good
    refine ⟨.ref s.heap.objs.size, _, J, rfl, ⟨_, x, rfl, I.hok.fresh (Nat.le_refl _), rfl, fun l hl => (hl.inj I q) ▸ hx⟩, ⟨⟨v, by rw [show ((i + 1 : Nat) : Int) = (i : Int) + 1 by omega]; exact en2⟩, st1.1.keep fun o z => (sb.2 it ne.symm).trans z⟩, fun c hcm => ?_⟩
    have lc : c < s.heap.objs.size := by
      rcases List.mem_cons.mp hcm with rfl | h
      · exact le
      · rw [List.mem_singleton.mp h]; exact t.lt
    rw [upd_ne (Nat.ne_of_lt lc)]
    exact (hf c hcm).1
  done := by
    intro X eP ew eK hc i pins s σ H E I hf st stop
    subst eP ew eK
    obtain ⟨⟨old, en⟩, t⟩ := st
    obtain ⟨xs, q, hx⟩ := stop
    obtain ⟨us, vx, ax, _⟩ := q.at_ I
    have lx := vx.length
    have short : us.toArray[i]? = none := by simp; omega
    have ty : s.TypeIs (.ref e) "enumerate" := ⟨_, en, rfl⟩
    obtain ⟨f0, f1, f2, f3, f4, f5⟩ := hf it (by simp)
    unfold pyNext
    refine wpAny_bind (wpAny_attempt (wpAny_callSpecial?_slot (name := Str.ofString "__next__") ty F.slot_enumerate_next (wpAny_call_entry F.slot_enumerate_next ty F.entry_enumerate_next (wpAny_bind (m := field (.ref e) 2) (wpAny_field en rfl (x := .ref it) rfl (wpAny_bind (as_end (I.ok.hd hc) t ax short fun h' x eb ⟨o, eo, co⟩ => ?_)))) (F.args_enumerate_next_1 _))))
    exact wpAny_bind (wpAny_isInstance (T := "StopIteration") (b := true) ⟨o, eo, co⟩ isSubtype_stop (wpAny_pure ⟨rfl, I.turned (t' := s.toks) (fun b o hb z => eb b o hb z) f0 f1 f3 f4 f5⟩))
def iEnumM (K : PySem.W.Frag) (ta : TA) : TI := fun σ H R => ta σ H fun vs H1 => ∃ k a xs, vs = [.ref a] ∧ SqM k K H1 a xs ∧ R (IteM k K a) H1
theorem pi_enumM {X : Cx} {e : Expr} {ta : TA} {p pos tpos : Pos} {elts : List Expr} {kk : Nat} (hg : Gl X "enumerate") (hm : X.mg "enumerate" = none) (ha : PA X [e] ta) (hs : starEach [e] X.env = [(false, eval e X.env)] := by rfl) :
    PI X (.Tuple elts kk tpos) (.Call (.Name "enumerate" p) [e] [] pos) (iEnumM X.K ta) := by
  refine ⟨fun pins s σ H R I h => Call_ (ld_blt I hg hm boot_enumerate (PyProof.Rows.callWith_type1 (thn (ha.run pos pins s σ H _ I h) fun us s1 ⟨vs, H1, J, rs, k, a, xs, ev, q, r⟩ => ?_) hs rfl))⟩
  subst ev
  cases rs with
  | cons ra rr =>
    cases rr
    cases ra
    obtain ⟨_, _, ax, la⟩ := q.at_ J
    have n1 : a ≠ s1.heap.objs.size := Nat.ne_of_lt la
    have n2 : a ≠ s1.heap.objs.size + 1 := Nat.ne_of_lt (Nat.lt_succ_of_lt la)
    refine callE ax fun h' en t kp => wpAny_pyIter_enum en ⟨_, [s1.heap.objs.size + 1, s1.heap.objs.size], _, _, H1, rfl, J.kept (t' := s1.toks) kp, enum_turns a (s1.heap.objs.size + 1) s1.heap.objs.size (Nat.succ_ne_self _) n1 n2, ⟨⟨.none, en⟩, t⟩, fun c hc => ?_, r⟩
    have above : s1.heap.objs.size ≤ c := by
      rcases List.mem_cons.mp hc with rfl | h
      · exact Nat.le_succ _
      · rw [List.mem_singleton.mp h]; exact Nat.le_refl _
    exact J.fpOk above (J.hok.fresh above)
/-! ### in the layer -/
def enumD (xs : List D) : List D := (List.range xs.length).map fun (i : Nat) => D.tup [.int (i : Int), xs.getD i .non]
theorem enumD_len (xs : List D) : (enumD xs).length = xs.length := by simp [enumD]
theorem enumD_at {xs : List D} {i : Nat} {d : D} (h : xs[i]? = some d) : (enumD xs)[i]? = some (.tup [.int (i : Int), d]) := by
  have hi := (List.getElem?_eq_some_iff.mp h).1
  unfold enumD
  rw [List.getElem?_map, List.getElem?_range hi]
  simp [List.getD, h]
def iEnumerate (ma : MA) : MI := fun ρ S => (ma ρ S).bind fun ds S1 => match ds with
  | [d1] => (match frzD d1 with
    | some xs => .ok (enumD xs) S1
    | _ => .bad)
  | _ => .bad
theorem walkD_enum {T : Ct} {K : PySem.W.Frag} (hK : K = T.K) {G0 : Hp} {c0 : List Addr} {k : Bool} {a : Addr} {xs : List D} {vs : List V} (h1 : ∀ H', (∀ a o, G0 a = some o → H' a = some o) → SqM k T.K H' a vs) (r1 : Reps T G0 c0 xs vs) (z : xs.length ≤ sizeLine) : WalkD T G0 c0 (enumD xs) (IteM k K a) := by
  subst hK
  refine ⟨by rw [enumD_len]; exact z, fun G H c S w g hc => ?_⟩
  have s1 := h1 H fun a o e => w.sub _ _ (g _ _ e)
  have l1 := r1.length
  have hl := enumD_len xs
  refine ⟨fun i hi => ?_, ?_, fun i x H' hi hy => ?_⟩
  · have e1 : i < vs.length := by omega
    exact ⟨vs, vs[i], s1, List.getElem?_eq_getElem e1⟩
  · exact ⟨vs, s1, by rw [hl]; omega⟩
  · obtain ⟨t, x1, rfl, hn, rfl, q1⟩ := hy
    obtain ⟨d1, e1, p1⟩ := r1.getV (q1 vs s1)
    obtain ⟨w2, ll⟩ := w.laid (o := .tup [.int (i : Nat), x1]) hn
    have m1 : Rep T (upd G t (.tup [.int (i : Nat), x1])) c d1 x1 := (Rep.mono0 g (get_pre hc) d1 x1 p1).mono ll
    exact ⟨_, _, w2, ll, enumD_at e1, rep_tup (by show 2 ≤ sizeLine; decide) (SqT.of upd_same) (Reps.cons rep_int (Reps.cons m1 Reps.nil))⟩
theorem si_enumerate {X : Cx} {T : Ct} {W : WX} {e : Expr} {ma : MA} {p pos tpos : Pos} {elts : List Expr} {kk : Nat} (ha : SA X T W [e] ma) (hm : X.mg "enumerate" = none) (hg : Gl X "enumerate" := by rfl) (hs : starEach [e] X.env = [(false, eval e X.env)] := by rfl) :
    SI X T W (.Tuple elts kk tpos) (.Call (.Name "enumerate" p) [e] [] pos) (iEnumerate ma) := by
  refine ⟨fun hK => PI.imp (pi_enumM hg hm (ha.pa hK) hs) fun σ H Q h => ?_⟩
  obtain ⟨G, c, S, ρ, w, sr, o⟩ := h
  refine ⟨G, c, S, ρ, w, sr, (Out.bind o).imp ?_⟩
  rintro vs H1 ⟨G1, c1, ds, S1, w1, l1, rs, o1⟩
  cases ds with
  | nil => exact o1.elim
  | cons d1 ds =>
    cases ds with
    | cons d2 ds => exact o1.elim
    | nil =>
      obtain ⟨v1, us, rfl, r1, r2⟩ := rs.cons_inv
      obtain rfl := r2.nil_inv
      dsimp only at o1
      cases q1 : frzD d1 with
      | none => rw [q1] at o1; exact o1.elim
      | some xs =>
        rw [q1] at o1
        obtain ⟨k, a, vs, rfl, f1, t1, z1⟩ := sqM_of w1 r1 q1
        exact ⟨k, a, vs, rfl, by rw [hK]; exact f1 _ w1.sub, o1 _ G1 H1 c1 w1 (Le.refl _ _ _) (walkD_enum hK f1 t1 z1)⟩
end KF
end

section
namespace KF
open PySem PySem.Spec PyProof.Rows L2
/-! ### exceptions as values: made, looked at -/
section
variable {X : Cx} {e : Expr} {es : List Expr} {ta : TA} {te : TE} {p pos : Pos}
def tMkV (C : Addr) (sp : Sp) (ta : TA) : TE := fun σ H Q => ta σ H fun vs H1 => vs.length ≤ 1000 ∧ ∀ a, H1 a = none → sp (.ref a :: vs) (upd H1 a (exo a C none)) (fun v H2 => v = .non ∧ Q (.ref a) H2) (fun _ _ _ => False)
/-- C(e, ..) as a value -/
theorem pe_mkV {CX : CXT} {x : Str} {C fI : Addr} {k : Nat} {fd : FuncData} {ps : List Str} {sp : Sp} (T : OexE X.K C) (init : PySem.W.findIn X.K (.ref C) "__init__" = some (some (.ref fI))) (isF : PySem.W.typeIn X.K (.ref fI) = some (.type "function"))
    (Fn : FnOk X.prog X.w X.K X.mg X.base CX k fI fd ps sp) (room : Room (k + 1) X.A) (bind : Binds X.K fd ps []) (quiet : Passes CX X (fun _ _ _ => False)) (hg : Gl X x) (hm : X.mg x = some (.ref C)) (ha : PA X (e :: es) ta)
    (hdb : (x == ("__debug__" : Str)) = false) (he : starEach (e :: es) X.env = (false, eval e X.env) :: starEach es X.env) (hpl : (backTo pos (starEach es X.env)).any (·.1) = false) : PE X (.Call (.Name x p) (e :: es) [] pos) (tMkV C sp ta) := by
  refine ⟨fun pins s σ H Q I h => ?_⟩
  refine wpAny_Call_Name_kw (ld_glob I hg hm (PySem.W.callWith_K (h₀ := X.base) I.ok.mod.kin T.kC (thn (ha.run pos pins s σ H _ I h) fun us s1 ⟨vs, H1, J, rv, small, q⟩ => ⟨J.kIn, ?_⟩) he hpl) hdb)
  obtain ⟨_, _, _, _, bm, _, _, _, _, _, _, _, _, _, _, look, own⟩ := T.cls
  obtain ⟨hp, g, dr, tk, os⟩ := s1
  obtain ⟨nil, J2⟩ := exh_inv J C us
  have wish := q _ nil
  have self : Vals (V.ref (hp.objs.size + 1) :: vs) (Value.ref (hp.objs.size + 1) :: us) := .cons rfl rv
  have many : us.length ≤ sizeLine := by
    rw [← Paired.length rv, sizeLine_eq]
    omega
  have bound : BindsTo ⟨exh hp C us, g, dr, tk, os⟩ fd ⟨Value.ref (hp.objs.size + 1) :: us, []⟩ (ps.zip (Value.ref (hp.objs.size + 1) :: us)) := by
    have b := bind ⟨exh hp C us, g, dr, tk, os⟩ (Value.ref (hp.objs.size + 1) :: us) J2.kIn (by rw [List.append_nil, ← self.length]; exact Fn.len _ _ _ _ wish)
    rwa [List.append_nil] at b
  have walked := Fn.run _ X.stack _ _ ⟨Value.ref (hp.objs.size + 1) :: us, []⟩ _ _ _ (fun _ _ _ => False) (room.make C us []) (J2.env0.make C us []) bound self wish
  show wpAny _ _ (call (.ref C) us) _ _ _
  refine wpAny_call (PySem.HandSPX.call_own F.excBase_Exception (fun Y => refsE_has Y bm own) (J.kIn _ _ look) (PySem.W.looks_findIn J.kIn init) (fun me => PySem.W.bind_fn J.kIn me isF) many (codeAny_mono walked fun r s' hq => ?_))
  match r, hq with
  | .error er, hq => exact quiet pins σ _ _ er s' J2 hq
  | .ok (.ret u), ⟨v, H2, sameOs, bare, un, ok2, ru, ev, q2⟩ =>
    subst ev
    exact ⟨ru, J2.after ⟨.ref (hp.objs.size + 1), H2, sameOs, bare, un, ok2, rfl, q2⟩⟩
  | .ok .next, hq => exact False.elim hq
  | .ok .brk, hq => exact False.elim hq
  | .ok .cont, hq => exact False.elim hq
/-- C() of a class without an __init__ of its own, as a value -/
theorem pe_mk0 {C : Addr} {bmB : List Value} {B newId initId : String} {x : Str} (F : ExcBaseFacts B newId initId bmB) (q : PySem.W.excIn X.K C bmB newId = true) (gC : X.mg x = some (.ref C)) (kC : PySem.W.keepIn X.K (.ref C) = true) (hg : Gl X x) (hdb : (x == ("__debug__" : Str)) = false := by decide) :
    PE X (.Call (.Name x p) [] [] pos) (fun σ H Q => ∀ a, H a = none → Q (.ref a) (upd H a (exo a C none))) := by
  refine ⟨fun pins s σ H Q I h => ?_⟩
  refine wpAny_Call_Name_kw (ld_glob I hg gC ?_ hdb)
  refine PySem.W.callWith_K0 I.kIn kC ?_
  obtain ⟨bm, N, nm, qn, bs, hdct, sn, sub, ab, col, dd, k0, k1, k2, k3, k5, mN, hC, hN, hni, T⟩ := exc_obj I.kIn q
  refine wpAny_call_exc_subT F T hC hN hni (fun h' a hm => ?_) (by show 0 ≤ sizeLine; omega)
  have hn : H a = none := I.hok.gone hm.new
  obtain ⟨t, ht, _, _⟩ := hm.there
  exact ⟨.ref a, upd H a (exo a C none), I.laidN hm.keeps hm.new hn (exo_ok ht), rfl, h a hn⟩
/-- a field of such a value -/
theorem pe_xv {f : Str} (he : PE X e te) (hb : attributeBase e f X.env (eval e X.env) = eval e X.env := by rfl) :
    PE X (.Attribute e f pos) (fun σ H Q => te σ H fun x H1 => ∃ a C dx fs v, x = .ref a ∧ H1 a = some (exo a C (some dx)) ∧ H1 dx = some (exd dx fs) ∧ XfC X.K C ∧ PySem.W.findIn X.K (.ref C) f = some none ∧ fs.lookup f = some v ∧ Q v H1) := by
  refine ⟨fun pins s σ H Q I h => ?_⟩
  refine attr_of hb (thn (he.run pins s σ H _ I h) fun u s1 hh => ?_)
  obtain ⟨x, H1, I1, rx, a, C, dx, fs, v, ex, ea, ed, T, hno, l, q⟩ := hh
  subst ex
  obtain rfl : u = Value.ref a := rx
  obtain ⟨t1, ha⟩ := exo_at I1.hok ea
  obtain ⟨mA, hns, hr⟩ := exd_at I1.hok ed
  obtain ⟨od, ho, hl⟩ := lookIn_ns hns
  obtain ⟨u, hu, ru⟩ := RelO.some_of (v := v) (o := mA f) (by rw [← l]; exact hr f)
  have J : PySem.W.InstAt s1.heap a _ C (some od) := ⟨ha, rfl, rfl, ho⟩
  exact HandSPX.exc_get I1.kIn J T.ga T.gg T.exC (PySem.W.findObj_own T.hdC hno rfl (by rw [hl, hu])) (handed_of ru) ⟨v, H1, I1.tok _, ru, q⟩
/-- isinstance(x, c), x such a value -/
def rIsV (K : PySem.W.Frag) : List V → Hp → VK → Prop := fun xs H Q => ∃ (a C : Addr) (od : Option Addr) (c : V) (cv : Value) (b : Bool), xs = [.ref a, c] ∧ H a = some (exo a C od) ∧ ExcC K C ∧ (∀ u, RelV c u → u = cv) ∧ (∀ dx, od = some dx → ∃ fs, H dx = some (exd dx fs)) ∧ PySem.W.kitOne K (.ref C) cv = some b ∧ Q (.bl b) H
theorem call_isV : CallR X (.builtin "isinstance") (rIsV X.K) := by
  intro pins s σ H xs us Q I r h
  obtain ⟨a, C, od, c, cv, b, rfl, ea, T, hcv, hd, e, q⟩ := h
  obtain ⟨u1, u2, rfl, r1, r2⟩ := vals2 r
  have ec := hcv _ r2
  subst ec
  cases r1
  obtain ⟨t1, ha⟩ := exo_at I.hok ea
  have hc : (PySem.W.clsIn X.K C).isSome = true := by
    obtain ⟨cd, hcd, _⟩ := PySem.W.any_some T.hd
    rw [hcd]
    rfl
  cases od with
  | none =>
    have J : PySem.W.InstAt s.heap a _ C none := ⟨ha, rfl, rfl, trivial⟩
    exact PySem.W.kia_one (PySem.W.kitx_exc hc T.hg T.hk T.hs T.ha T.hn T.ht T.hm) I.kIn J e (fun z => nomatch z) fun tk => ⟨.bl b, H, I.tok tk, rfl, q⟩
  | some dx =>
    obtain ⟨fs, ed⟩ := hd dx rfl
    obtain ⟨mA, hns, hr⟩ := exd_at I.hok ed
    obtain ⟨od, ho, hl⟩ := lookIn_ns hns
    have J : PySem.W.InstAt s.heap a _ C (some od) := ⟨ha, rfl, rfl, ho⟩
    exact PySem.W.kia_one (PySem.W.kitx_exc hc T.hg T.hk T.hs T.ha T.hn T.ht T.hm) I.kIn J e (fun z => nomatch z) fun tk => ⟨.bl b, H, I.tok tk, rfl, q⟩
end
end KF
end

section
namespace KF
open PySem PySem.Spec PyProof.Rows L2
section
variable {X : Cx} {T : Ct} {W : WX} {e : Expr} {m : ME} {x f : Str} {p pos pos' : Pos}
/-- x(e), an exception as a value -/
def eMkV (x f : Str) (m : ME) : ME := fun ρ S => (m ρ S).bind fun d S1 => .ok (.exv x f d) S1
/-- where it lies -/
theorem exv_laid {G H : Hp} {c : List Addr} {S : Sto} {a dx : Addr} {d : D} {v : V} (w : Wf T G H c S) (ha : H a = none) (hd : H dx = none) (hne : dx ≠ a) (r : Rep T G c d v) :
    ∃ G', Wf T G' (upd (upd (upd H a (exo a (T.fa x) none)) dx (exd dx [(f, v)])) a (exo a (T.fa x) (some dx))) c S ∧ Le G H c G' (upd (upd (upd H a (exo a (T.fa x) none)) dx (exd dx [(f, v)])) a (exo a (T.fa x) (some dx))) c ∧ Rep T G' c (.exv x f d) (.ref a) := by
  have eH : upd (upd (upd H a (exo a (T.fa x) none)) dx (exd dx [(f, v)])) a (exo a (T.fa x) (some dx)) = upd (upd H dx (exd dx [(f, v)])) a (exo a (T.fa x) (some dx)) := by
    funext b
    by_cases hb : b = a
    · subst hb; rw [upd_same, upd_same]
    · rw [upd_ne hb, upd_ne hb]
      by_cases hb2 : b = dx
      · subst hb2; rw [upd_same, upd_same]
      · rw [upd_ne hb2, upd_ne hb2, upd_ne hb]
  rw [eH]
  obtain ⟨w2, l2⟩ := w.laid (o := exd dx [(f, v)]) hd
  have ha2 : upd H dx (exd dx [(f, v)]) a = none := by rw [upd_ne (Ne.symm hne)]; exact ha
  obtain ⟨w3, l3⟩ := w2.laid (o := exo a (T.fa x) (some dx)) ha2
  refine ⟨_, w3, l2.trans l3, rep_exv (dx := dx) (u := v) upd_same ?_ (r.mono (l2.trans l3))⟩
  rw [upd_ne hne]
  exact upd_same
theorem se_mkV {j : Nat} (E : XEx X T x f) (hr : Room j X.A) (hj : 2 ≤ j) (h : SE X T W e m) (hg : Gl X x := by rfl) (hdb : (x == ("__debug__" : Str)) = false := by decide)
    (he : starEach (e :: []) X.env = (false, eval e X.env) :: starEach [] X.env := by rfl) (hpl : (backTo pos (starEach [] X.env)).any (·.1) = false := by rfl) :
    SE X T W (.Call (.Name x p) [e] [] pos) (eMkV x f m) := by
  obtain ⟨fI, fd, s0, y0, i1, i2, i3, i4⟩ := E.ex
  refine ⟨fun hK => PE.imp (pe_mkV E.ox i1 i2 i3 (hr.mono hj) i4 pass_none hg E.hm ((sa_cons h sa_nil he).pa hK) hdb he hpl) fun σ H Q h => ?_⟩
  obtain ⟨G, c, S, ρ, w, sr, o⟩ := h
  refine ⟨G, c, S, ρ, w, sr, ?_⟩
  unfold eMkV at o
  unfold aCons
  cases q : m ρ S with
  | bad => rw [q] at o; exact o.elim
  | exc C fx S1 => rw [q] at o; exact o
  | ok d S1 =>
    rw [q] at o
    show Out T W σ G H c (Reps T) _ (.ok [d] S1)
    intro vs G1 H1 c1 w1 l1 rs
    obtain ⟨v, us, rfl, r1, r2⟩ := rs.cons_inv
    obtain rfl := r2.nil_inv
    refine ⟨by show 1 ≤ 1000; decide, fun a ha => ⟨a, T.fa x, v, rfl, E.ox, E.hno, upd_same, fun dx hdx hne => ⟨rfl, ?_⟩⟩⟩
    have hd1 : H1 dx = none := by rw [upd_ne hne] at hdx; exact hdx
    obtain ⟨G2, w2, l2, r2⟩ := exv_laid (x := x) (f := f) w1 ha hd1 hne r1
    exact o _ G2 _ c1 w2 (l1.trans l2) r2
/-- the module's class x, an exception without an __init__ -/
structure ExZ (K : PySem.W.Frag) (mg : Str → Option Value) (T : Ct) (x : Str) : Prop where
  q : PySem.W.excIn K (T.fa x) exT "Exception.__new__" = true
  hm : mg x = some (.ref (T.fa x))
  kC : PySem.W.keepIn K (.ref (T.fa x)) = true
  exC : PySem.W.subIn K (.ref (T.fa x)) (.type "BaseException") = some true
  tyC : PySem.W.typeIn K (.ref (T.fa x)) = some (.type "type")
abbrev XZ (X : Cx) (T : Ct) (x : Str) : Prop := ExZ X.K X.mg T x
def eMk0 (x : Str) : ME := fun _ S => .ok (.ex0 x) S
theorem se_mk0 (E : XZ X T x) (hg : Gl X x := by rfl) (hdb : (x == ("__debug__" : Str)) = false := by decide) : SE X T W (.Call (.Name x p) [] [] pos) (eMk0 x) := by
  refine ⟨fun hK => PE.imp (pe_mk0 F.excBase_Exception E.q E.hm E.kC hg hdb) fun σ H Q h => ?_⟩
  obtain ⟨G, c, S, ρ, w, sr, o⟩ := h
  intro a ha
  obtain ⟨w2, l2⟩ := w.laid (o := exo a (T.fa x) none) ha
  exact o _ _ _ c w2 l2 (rep_ex0 upd_same)
/-- e.f, e an exception of one of the classes tb -/
def gFld (f : Str) (tb : List Str) : G1 := fun d => match d with
  | .exv x g d => if g = f ∧ x ∈ tb then some d else none
  | _ => none
theorem se_fld (tb : List Str) (E : ∀ x ∈ tb, XEx X T x f) (h : SE X T W e m) (hb : attributeBase e f X.env (eval e X.env) = eval e X.env := by rfl) : SE X T W (.Attribute e f pos) (eUn (gFld f tb) m) := by
  refine ⟨fun hK => PE.imp (pe_xv (h.pe hK) hb) fun σ H Q h => ?_⟩
  obtain ⟨G, c, S, ρ, w, sr, o⟩ := h
  refine ⟨G, c, S, ρ, w, sr, (Out.bind o).imp ?_⟩
  rintro v H1 ⟨G1, c1, d1, S1, w1, l1, r1, o1⟩
  unfold op1 gFld at o1
  cases d1 with
  | exv x g d =>
    dsimp only at o1
    split at o1
    · next q =>
      split at q
      · next hc =>
        cases q
        obtain ⟨rfl, hx⟩ := hc
        obtain ⟨a, dx, u, rfl, h1, h2, r2⟩ := inv_exv r1
        exact ⟨a, _, dx, _, u, rfl, w1.sub _ _ h1, w1.sub _ _ h2, (E x hx).xf, (E x hx).hno, by simp [List.lookup], o1 u G1 H1 c1 w1 (Le.refl _ _ _) r2⟩
      · cases q
    · exact o1.elim
  | _ => exact o1.elim
/-- isinstance(e, y), e an exception of one of the classes tb -/
def clsOf : D → Option Str
  | .exv x _ _ => some x
  | .ex0 x => some x
  | _ => none
def gIsV (tb : List (Str × Bool)) : G1 := fun d => match clsOf d with
  | some x => (tb.lookup x).map D.bl
  | none => none
/-- what the classes tb say of a class -/
def IsT (K : PySem.W.Frag) (T : Ct) (cv : Value) (tb : List (Str × Bool)) : Prop := ∀ q ∈ tb, ExcC K (T.fa q.1) ∧ PySem.W.kitOne K (.ref (T.fa q.1)) cv = some q.2
theorem lookup_mem {α : Type} {tb : List (Str × α)} {x : Str} {b : α} (h : tb.lookup x = some b) : (x, b) ∈ tb := by
  induction tb with
  | nil => cases h
  | cons p r ih =>
    obtain ⟨k, a⟩ := p
    rw [List.lookup_cons] at h
    cases q : x == k with
    | true =>
      rw [q] at h
      cases h
      rw [beq_iff_eq.mp q]
      exact List.mem_cons_self ..
    | false =>
      rw [q] at h
      exact List.mem_cons_of_mem _ (ih h)
theorem isV_read {cv : Value} {cvV : V} {tb : List (Str × Bool)} (hK : X.K = T.K) (Z : IsT X.K T cv tb) (hc : ∀ u, RelV cvV u → u = cv) {σ : L2.St} {H : Hp} {Q : VK} (h : tE T W (eUn (gIsV tb) m) σ H Q) :
    tE T W m σ H fun v H1 => rIsV X.K [v, cvV] H1 Q := by
  obtain ⟨G, c, S, ρ, w, sr, o⟩ := h
  refine ⟨G, c, S, ρ, w, sr, (Out.bind o).imp ?_⟩
  rintro v H1 ⟨G1, c1, d1, S1, w1, l1, r1, o1⟩
  unfold op1 gIsV at o1
  cases d1 with
  | exv x g d =>
    simp only [clsOf] at o1
    cases q : tb.lookup x with
    | none => rw [q] at o1; exact o1.elim
    | some b =>
      rw [q] at o1
      obtain ⟨a, dx, u, rfl, h1, h2, r2⟩ := inv_exv r1
      obtain ⟨z1, z2⟩ := Z _ (lookup_mem q)
      exact ⟨a, _, some dx, cvV, cv, b, rfl, w1.sub _ _ h1, z1, hc, fun d' e => by cases e; exact ⟨_, w1.sub _ _ h2⟩, z2, o1 _ G1 H1 c1 w1 (Le.refl _ _ _) rep_bl⟩
  | ex0 x =>
    simp only [clsOf] at o1
    cases q : tb.lookup x with
    | none => rw [q] at o1; exact o1.elim
    | some b =>
      rw [q] at o1
      obtain ⟨a, rfl, h1⟩ := inv_ex0 r1
      obtain ⟨z1, z2⟩ := Z _ (lookup_mem q)
      exact ⟨a, _, none, cvV, cv, b, rfl, w1.sub _ _ h1, z1, hc, fun d' e => (by cases e), z2, o1 _ G1 H1 c1 w1 (Le.refl _ _ _) rep_bl⟩
  | _ => exact o1.elim
theorem se_isO {y : Str} {py : Pos} (tb : List (Str × Bool)) (Z : IsT X.K T (.ref (T.fa y)) tb) (hy : X.mg y = some (.ref (T.fa y))) (ha : SE X T W e m) (hm : X.mg "isinstance" = none) (hg : Gl X "isinstance" := by rfl) (hgy : Gl X y := by rfl)
    (hdb : (y == ("__debug__" : Str)) = false := by decide) (s1 : starEach [e, .Name y py] X.env = (false, eval e X.env) :: starEach [.Name y py] X.env := by rfl) (s2 : starEach [.Name y py] X.env = (false, eval (.Name y py) X.env) :: starEach [] X.env := by rfl)
    (hpl : (backTo pos (starEach [.Name y py] X.env)).any (·.1) = false := by rfl) : SE X T W (.Call (.Name "isinstance" p) [e, .Name y py] [] pos) (eUn (gIsV tb) m) :=
  ⟨fun hK => PE.imp (pe_callB call_isV hg hm PyProof.Rows.boot_isinstance (pa_cons (ha.pe hK) (pa_cons (pe_glob (v := .ref (T.fa y)) hgy hy rfl hdb) pa_nil s2) s1) (by decide) (by decide) s1 hpl) fun σ H Q h => isV_read (cvV := .ref (T.fa y)) hK Z (fun _ z => z) h⟩
theorem se_isB {n : String} {ys : Str} {py : Pos} (tb : List (Str × Bool)) (Z : IsT X.K T (.type n) tb) (ha : SE X T W e m) (hm : X.mg "isinstance" = none) (hm2 : X.mg ys = none) (hy : bootBuiltins ys = some (.type n)) (hg : Gl X "isinstance" := by rfl) (hgy : Gl X ys := by rfl) (hn : ys ≠ "__name__" := by decide)
    (hdb : (ys == ("__debug__" : Str)) = false := by decide) (s1 : starEach [e, .Name ys py] X.env = (false, eval e X.env) :: starEach [.Name ys py] X.env := by rfl) (s2 : starEach [.Name ys py] X.env = (false, eval (.Name ys py) X.env) :: starEach [] X.env := by rfl)
    (hpl : (backTo pos (starEach [.Name ys py] X.env)).any (·.1) = false := by rfl) : SE X T W (.Call (.Name "isinstance" p) [e, .Name ys py] [] pos) (eUn (gIsV tb) m) :=
  ⟨fun hK => PE.imp (pe_callB call_isV hg hm PyProof.Rows.boot_isinstance (pa_cons (ha.pe hK) (pa_cons (pe_bltn (v := .ty n) hgy hm2 hy rfl hn hdb) pa_nil s2) s1) (by decide) (by decide) s1 hpl) fun σ H Q h => isV_read (cvV := .ty n) hK Z (fun _ z => z) h⟩
end
end KF
end

section
namespace KF
open PySem PySem.Spec PyProof.Rows L2
section
variable {X : Cx} {T : Ct} {W : WX} {e : Expr} {m : ME} {x f : Str} {p pos pos' : Pos}
/-- raise x(), x without an __init__ -/
theorem pmk_0 {C : Addr} {bmB : List Value} {B newId initId : String} {x : Str} (F : ExcBaseFacts B newId initId bmB) (q : PySem.W.excIn X.K C bmB newId = true) (gC : X.mg x = some (.ref C)) (kC : PySem.W.keepIn X.K (.ref C) = true) (r : Raises X (.ref C)) (hg : Gl X x) (hdb : (x == ("__debug__" : Str)) = false := by decide) :
    PMk X (.Call (.Name x p) [] [] pos) (fun _ H Q => Q (.ref C) none H) := by
  intro pins s σ H Q I h
  refine wpAny_Call_Name_kw (ld_glob I hg gC ?_ hdb)
  refine PySem.W.callWith_K0 I.kIn kC ?_
  obtain ⟨bm, N, nm, qn, bs, hdct, sn, sub, ab, col, dd, k0, k1, k2, k3, k5, mN, hC, hN, hni, T⟩ := exc_obj I.kIn q
  refine wpAny_call_exc_subT F T hC hN hni (fun h' a hm => ?_) (by show 0 ≤ sizeLine; omega)
  exact mk_of I hm r h (I.hok.gone hm.new)
def sRaise0 (x : Str) : MS := fun ρ S => .exc x none ρ S
theorem ss_raise0 (E : XZ X T x) (hc : X.calm = true) (tk : Takes X W) (hg : Gl X x := by rfl) (hdb : (x == ("__debug__" : Str)) = false := by decide) : SS X T W (.Raise (some (.Call (.Name x p) [] [] pos)) none pos') (sRaise0 x) := by
  refine ⟨fun hK => PS.imp (ps_raise hc tk (pmk_0 F.excBase_Exception E.q E.hm E.kC (raises_own E.exC E.tyC) hg hdb)) fun D σ H h => ?_⟩
  obtain ⟨B, G, c, S, ρ, s, o⟩ := h
  exact o none σ G H c s rfl
/-- isinstance(n, c), n the exception that the suite holds -/
def rIsX (K : PySem.W.Frag) (C a : Addr) (d : Option Addr) : List V → Hp → VK → Prop := fun xs H Q => ∃ (c : V) (cv : Value) (b : Bool), xs = [.ref a, c] ∧ (∀ u, RelV c u → u = cv) ∧ (∀ dd, d = some dd → ∃ fs, H dd = some (.xd fs)) ∧ ExcC K C ∧ PySem.W.kitOne K (.ref C) cv = some b ∧ Q (.bl b) H
theorem call_isX {a C : Addr} {d : Option Addr} {oe : Obj} {pn : List (Addr × Obj)} (hz : Zc (.ref C) d oe) (hf : ∃ vs, oe.data = .fields vs) : CallR (X.suite a ((a, oe) :: pn)) (.builtin "isinstance") (rIsX X.K C a d) := by
  intro pins s σ H xs us Q I r h
  obtain ⟨c, cv, b, rfl, hcv, hd, T, e, q⟩ := h
  obtain ⟨u1, u2, rfl, r1, r2⟩ := vals2 r
  have ec := hcv _ r2
  subst ec
  cases r1
  obtain ⟨ha, _⟩ := I.pin (a, oe) (List.mem_append_left _ List.mem_cons_self)
  obtain ⟨vs, hv⟩ := hf
  have hc : (PySem.W.clsIn X.K C).isSome = true := by
    obtain ⟨cd, hcd, _⟩ := PySem.W.any_some T.hd
    rw [hcd]
    rfl
  cases d with
  | none =>
    have J : PySem.W.InstAt s.heap a oe C none := ⟨ha, hz.1, by unfold PySem.W.notCls; rw [hv] <;> rfl, by rw [hz.2]; trivial⟩
    exact PySem.W.kia_one (PySem.W.kitx_exc hc T.hg T.hk T.hs T.ha T.hn T.ht T.hm) I.kIn J e (fun z => nomatch z) fun tk => ⟨.bl b, H, I.tok tk, rfl, q⟩
  | some dd =>
    obtain ⟨fs, ed⟩ := hd dd rfl
    have hx : ObjOk X.prog X.w H s.heap dd (.xd fs) := I.hok dd _ ed
    obtain ⟨mA, hns, hr⟩ := hx
    obtain ⟨od, ho, hl⟩ := lookIn_ns hns
    have J : PySem.W.InstAt s.heap a oe C (some od) := ⟨ha, hz.1, by unfold PySem.W.notCls; rw [hv] <;> rfl, by rw [hz.2]; exact ho⟩
    exact PySem.W.kia_one (PySem.W.kitx_exc hc T.hg T.hk T.hs T.ha T.hn T.ht T.hm) I.kIn J e (fun z => nomatch z) fun tk => ⟨.bl b, H, I.tok tk, rfl, q⟩
/-- the suite's answer -/
def tHB (T : Ct) (i : Nat) (a C : Addr) (d : Option Addr) (b : Bool) : TE := fun σ H Q => σ[i]? = some (some (.ref a)) ∧ (∀ dd, d = some dd → ∃ fs, H dd = some (.xd fs)) ∧ Q (.bl b) H
/-- try: body / except y as n: return isinstance(n, z) -/
def sTryB (i : Nat) (tb : List (Str × Bool)) (mb : MS) : MS := fun ρ S => match mb ρ S with
  | .exc C fx ρ1 S1 => if i < ρ1.length then (match tb.lookup C with
    | some b => .ret (.bl b) S1
    | none => .bad) else .bad
  | r => r
theorem ss_tryB (i : Nat) {n y z : Str} {body : List Stmt} {np hp rp ip zp cp n2 : Pos} {mb : MS} (tb : List (Str × Bool)) (hyN : X.mg y = some (.ref (T.fa y))) (hzN : X.mg z = some (.ref (T.fa z))) (hE : ∀ q ∈ tb, PySem.W.exmOne X.K (.ref (T.fa q.1)) (.ref (T.fa y)) = some true) (Z : IsT X.K T (.ref (T.fa z)) tb)
    (hN : X.N.Nodup) (hs : X.stack = X.env :: X.outer) (hf : X.env.frame = some X.env.locals) (hm : X.mg "isinstance" = none)
    (hb : ∀ (W : WX) (pn : List (Addr × Obj)) (xe : Value → Shared → Prop), Takes (X.tr pn xe) W → PassesOwn (model X.prog X.w) X.A X.env xe → SB (X.tr pn xe) T W body mb)
    (hi : X.N[i]? = some n := by rfl) (hln : X.env.kindOf n = some .local := by rfl) (hg : Gl X y := by rfl) (hdb : (y == ("__debug__" : Str)) = false := by decide)
    (hgi : Gl X "isinstance" := by rfl) (hgz : Gl X z := by rfl) (hzd : (z == ("__debug__" : Str)) = false := by decide) (hnd : (n == ("__debug__" : Str)) = false := by decide) (hcd : (n == ("__classdict__" : Str)) = false := by decide)
    (hv : Vis X.env.scope n := by first | exact Or.inl rfl | exact Or.inr (Or.inl rfl) | exact Or.inr (Or.inr rfl))
    (s1 : starEach [.Name n n2, .Name z zp] X.env = (false, eval (.Name n n2) X.env) :: starEach [.Name z zp] X.env := by rfl) (s2 : starEach [.Name z zp] X.env = (false, eval (.Name z zp) X.env) :: starEach [] X.env := by rfl)
    (hpl : (backTo cp (starEach [.Name z zp] X.env)).any (·.1) = false := by rfl) :
    SS X T W (.Try body [.ExceptHandler (some (.Name y np)) (some n) [.Return (some (.Call (.Name "isinstance" ip) [.Name n n2, .Name z zp] [] cp)) rp] hp] [] [] pos) (sTryB i tb mb) := by
  have hsu : ∀ (a : Addr) (oe : Obj) (cls : Value) (d : Option Addr) (pn : List (Addr × Obj)), Zc cls d oe → (∃ vs, oe.data = .fields vs) → PE (X.suite a ((a, oe) :: pn)) (.Call (.Name "isinstance" ip) [.Name n n2, .Name z zp] [] cp)
      (fun σ H Q => ∃ C b, cls = .ref C ∧ ExcC X.K C ∧ PySem.W.kitOne X.K (.ref C) (.ref (T.fa z)) = some b ∧ tHB T i a C d b σ H Q) := fun a oe cls d pn hz hf => by
    refine ⟨fun pins s σ H Q I h => ?_⟩
    obtain ⟨C, b, rfl, h1, h2, h3, h4, h5⟩ := h
    exact (pe_callB (call_isX hz hf) hgi hm PyProof.Rows.boot_isinstance (pa_cons (pe_var hi hv hnd hcd) (pa_cons (pe_glob (v := .ref (T.fa z)) hgz hzN rfl hzd) pa_nil s2) s1) (by decide) (by decide) s1 hpl).run pins s σ H Q I ⟨_, h3, .ref (T.fa z), .ref (T.fa z), b, rfl, fun _ z => z, h4, h1, h2, h5⟩
  refine ⟨fun hK => PS.imp (ps_try_as (c := .ref (T.fa y)) (tb := fun W => tS T W mb) (ts := fun a cls d => tRet (fun σ H Q => ∃ C b, cls = .ref C ∧ ExcC X.K C ∧ PySem.W.kitOne X.K (.ref C) (.ref (T.fa z)) = some b ∧ tHB T i a C d b σ H Q)) (Wout := fun _ _ _ _ => False) hs hf hN hi hln ⟨hg, hdb, .inl hyN⟩ takes0
    (fun W pn xe tk hp => (hb W pn xe tk hp).pss hK) (fun a oe cls d pn hz hf => pss_one (ps_ret (hsu a oe cls d pn hz hf)))) fun D σ H h => ?_⟩
  obtain ⟨B, G, c, S, ρ, s, o⟩ := h
  refine ⟨B, G, c, S, ρ, s, ?_⟩
  unfold sTryB at o
  cases q : mb ρ S with
  | next ρ1 S1 => rw [q] at o; exact o
  | ret d S1 => rw [q] at o; exact o
  | brk ρ1 S1 => rw [q] at o; exact o
  | cont ρ1 S1 => rw [q] at o; exact o
  | bad => rw [q] at o; exact o.elim
  | exc C fx ρ1 S1 =>
    rw [q] at o
    dsimp only at o
    split at o
    · next hi2 =>
      cases q2 : tb.lookup C with
      | none => rw [q2] at o; exact o.elim
      | some b =>
        rw [q2] at o
        have hmem := lookup_mem q2
        obtain ⟨z1, z2⟩ := Z _ hmem
        intro e' σ' G' H' c' s' xr
        have hl : i < σ'.length := by rw [← s'.sr.len]; exact hi2
        refine ⟨true, hE _ hmem, fun _ a ha => ?_, fun z => by cases z⟩
        refine ⟨_, b, rfl, z1, z2, List.getElem?_set_self hl, fun dd hdd => ?_, o (.bl b) G' H' c' s'.wf s'.le rep_bl⟩
        cases fx with
        | none => rw [show e' = none from xr] at hdd; cases hdd
        | some gd =>
          obtain ⟨g, d0⟩ := gd
          obtain ⟨a2, v, e1, e2, _⟩ := xr
          rw [e1] at hdd
          cases hdd
          exact ⟨_, e2⟩
    · exact o.elim
end
end KF
end

section
namespace KF
open PySem PySem.HandSPX Builtin PySem.Calls
/-! ### an own exception made with keywords -/
section
variable {M : Model} {A : Around} {E : Value → Shared → Prop} {h : Heap} {g : Array GenState} {d : Drawn} {t : Nat} {os : OsState}
variable {nm q : Str} {C N : Addr} {bs bm bmB : List Value} {hdct : Bool} {sn : List Str} {sub : List Value} {ab : Bool} {col : Option Bool} {dd : Option Addr} {k0 k1 k2 k3 k5 : Option Value} {B newId initId : String} {fn : Str} {va : Value}
theorem kw_check (FB : ExcBaseFacts B newId initId bmB) (below : ∀ X : String, bm.contains (.type X) = bmB.contains (.type X)) {Q : Unit → Shared → Prop}
    (hC : h.get? C = some (excClassObj nm q C N bs bm hdct sn sub ab col dd k0 k1 k2 k3 k5 newId)) (hq : Q () ⟨h, g, d, t, os⟩) : wpAny M A (checkBuiltinCall newId ⟨[.ref C], [(fn, va)]⟩) Q E ⟨h, g, d, t, os⟩ := by
  have under : (Value.ref C :: bm).contains (.type B) = true := by rw [List.contains_cons, below, FB.hasB, Bool.or_true]
  have star := FB.noStar
  simp only [checkBuiltinCall, FB.newKind, FB.newSplit, FB.newRow]
  repeat (first | refine wpAny_loadPart_at hC ?_ | (refine wpAny_isSubtype_exc hC ?_; rw [under]) | refine wpAny_staticBase_exc hC ?_ | refine wpAny_madeBy_exc hC ?_ | simp only [bne_self_eq_false, Bool.false_eq_true, if_false] | wp_step)
  exact hq
theorem kw_type {Q : Unit → Shared → Prop} (hC : h.get? C = some (excClassObj nm q C N bs bm hdct sn sub ab col dd k0 k1 k2 k3 k5 newId)) (hq : Q () ⟨h, g, d, t, os⟩) :
    wpAny M A (checkBuiltinCall "type.__call__" ⟨[.ref C], [(fn, va)]⟩) Q E ⟨h, g, d, t, os⟩ := by
  have sub := tc_sub
  have ty : (⟨h, g, d, t, os⟩ : Shared).TypeIs (.ref C) "type" := ⟨_, hC, rfl⟩
  simp only [checkBuiltinCall, tc_kind, tc_split]
  repeat (any_goals (first | assumption | with_reducible refine wpAny_loadPart_at hC ?_ | with_reducible refine wpAny_onRaise ?_ | with_reducible refine wpAny_map ?_ | wp_step))
end
section
variable {prog : Program} {w : World} {A : Around} {E : Value → Shared → Prop} {R : Result → Shared → Prop} {h : Heap} {g : Array GenState} {d : Drawn} {t : Nat} {os : OsState}
variable {nm q : Str} {C N : Addr} {bs bm bmB : List Value} {hdct : Bool} {sn : List Str} {sub : List Value} {ab : Bool} {col : Option Bool} {dd : Option Addr} {k0 k1 k2 k3 k5 : Option Value} {B newId initId : String} {fn : Str} {va : Value}
theorem kw_new (FB : ExcBaseFacts B newId initId bmB) (below : ∀ X : String, bm.contains (.type X) = bmB.contains (.type X)) (hC : h.get? C = some (excClassObj nm q C N bs bm hdct sn sub ab col dd k0 k1 k2 k3 k5 newId))
    (hq : R (.ok (.ret (.ref (h.objs.size + 1)))) ⟨(h.push (W.kdv_tup [])).push (excO C h.objs.size), g, d, t, os⟩) : codeAny (model prog w) A (.builtin newId ⟨[.ref C], [(fn, va)]⟩) R ⟨h, g, d, t, os⟩ := by
  have ends := FB.ends
  have u1 : (Value.ref C :: bm).contains (.type B) = true := by rw [List.contains_cons, below, FB.hasB, Bool.or_true]
  have u2 : (Value.ref C :: bm).contains (.type "AttributeError") = false := by rw [List.contains_cons, below, FB.noAttr]; rfl
  have u3 : (Value.ref C :: bm).contains (.type "NameError") = false := by rw [List.contains_cons, below, FB.noName]; rfl
  refine codeAny_builtinAt FB.entry ?_
  unfold Builtin.«BaseException.__new__»
  refine wpAt_bind ?_
  show wpAt _ _ _ (stack >>= _) _ _ _
  refine wpAt_bind (wpAt_stack fun p below => wpAt_of_wpAny ?_)
  wp_walk
  refine wpAt_of_wpAny ?_
  rw [FB.owner]
  repeat (first | with_reducible refine wpAny_madeHere_exc FB.canon hC ?_ | with_reducible refine wpAny_loadPart_at hC ?_ | (with_reducible refine wpAny_isSubtype_exc hC ?_; first | rw [u1] | rw [u2] | rw [u3]) | wp_step)
  show R _ _
  rw [Heap.size_push]
  exact hq
theorem kw_made (FB : ExcBaseFacts B newId initId bmB) (below : ∀ X : String, bm.contains (.type X) = bmB.contains (.type X)) {fI : Addr} {Q : Fin → Shared → Prop}
    (hC : h.get? C = some (excClassObj nm q C N bs bm hdct sn sub ab col dd k0 k1 k2 k3 k5 newId)) (hi : W.Looks (model prog w) h (typeLookup (.ref C) "__init__") (some (.ref fI))) (hb : ∀ self, W.Looks (model prog w) h (bindSpecial (.ref fI) self) (.ref fI, [self]))
    (hq : codeAny (model prog w) A (.call (.ref fI) ⟨[.ref (h.objs.size + 1)], [(fn, va)]⟩) (fun r s' => match r with | .ok (.ret v) => v = .none ∧ Q (.done (.ret (.ref (h.objs.size + 1)))) s' | .ok _ => False | .error e => E e s') ⟨(h.push (W.kdv_tup [])).push (excO C h.objs.size), g, d, t, os⟩) :
    wpAny (model prog w) A (Builtin.«type.__call__» ⟨[.ref C], [(fn, va)]⟩) Q E ⟨h, g, d, t, os⟩ := by
  repeat (first | with_reducible refine wpAny_loadPart_at hC ?_ | with_reducible refine wpAny_madeBy_exc hC ?_ | wp_step)
  refine codeAny_call_builtin_code (Code.quiet_builtin _ FB.quiet) (kw_check FB below hC ?_)
  refine kw_new FB below hC ?_
  show wpAny _ _ _ _ _ _
  have keep : ∀ b o, h.get? b = some o → ((h.push (W.kdv_tup [])).push (excO C h.objs.size)).get? b = some o := fun b o e => Heap.get?_push_of_some _ (Heap.get?_push_of_some _ e)
  have cls := keep _ _ hC
  have made : ((h.push (W.kdv_tup [])).push (excO C h.objs.size)).get? (h.objs.size + 1) = some (excO C h.objs.size) := by heap_get
  have self : (Value.ref C :: bm).contains (.ref C) = true := by simp
  have i1 := hi.keeps keep
  have b1 := (hb (.ref (h.objs.size + 1))).keeps keep
  unfold isInstance
  repeat (first | with_reducible refine wpAny_loadPart_at made ?_ | (with_reducible refine wpAny_isSubtype_exc cls ?_; rw [self]) | wp_step)
  show wpAny _ _ (typeLookup (.ref C) _) _ _ _
  refine i1.at ?_
  refine wpAny_holding (wpAny_bind (b1.at ?_))
  refine wpAny_bind (wpAny_call (codeAny_mono hq fun r s' z => ?_))
  rcases r with e | (v | _ | _ | _) <;> first | exact z | exact z.elim | skip
  obtain ⟨rfl, z⟩ := z
  first
    | exact wpAny_pure (wpAny_pure z)
    | (wp_walk; exact z)
theorem kw_call (FB : ExcBaseFacts B newId initId bmB) (below : ∀ X : String, bm.contains (.type X) = bmB.contains (.type X)) {fI : Addr}
    (hC : h.get? C = some (excClassObj nm q C N bs bm hdct sn sub ab col dd k0 k1 k2 k3 k5 newId)) (hi : W.Looks (model prog w) h (typeLookup (.ref C) "__init__") (some (.ref fI))) (hb : ∀ self, W.Looks (model prog w) h (bindSpecial (.ref fI) self) (.ref fI, [self]))
    (hq : codeAny (model prog w) (A.under (.builtin "type.__call__" ⟨[.ref C], [(fn, va)]⟩)) (.call (.ref fI) ⟨[.ref (h.objs.size + 1)], [(fn, va)]⟩) (W.InitBack (h.objs.size + 1) R) ⟨(h.push (W.kdv_tup [])).push (excO C h.objs.size), g, d, t, os⟩) :
    codeAny (model prog w) A (.call (.ref C) ⟨[], [(fn, va)]⟩) R ⟨h, g, d, t, os⟩ := by
  have f1 := tc_lookup
  have f2 := tc_bind (.ref C)
  have ty : (⟨h, g, d, t, os⟩ : Shared).TypeIs (.ref C) "type" := ⟨_, hC, rfl⟩
  refine codeAny_of_tree ?_
  show wpAny _ _ (callAny (.ref C) _) _ _ _
  repeat (any_goals (first | assumption | with_reducible refine wpAny_loadPart_at hC ?_ | wp_step))
  refine ⟨rfl, ?_⟩
  refine codeAny_call_builtin_at (Code.quiet_builtin _ (by decide +kernel)) entry_typeCall (kw_type hC (kw_made FB below hC hi hb ?_))
  refine codeAny_mono hq fun r s' z => ?_
  rcases r with e | (v | _ | _ | _) <;> exact z
end
end KF
end

section
namespace KF
open PySem PySem.Spec PyProof.Rows L2
/-- .. whose __init__ takes the field's value by the field's name too -/
structure ExN (P : Program) (w : World) (K : PySem.W.Frag) (mg : Str → Option Value) (base : Heap) (T : Ct) (x f : Str) : Prop where
  m : ExM P w K mg base T x f
  ex : ∃ (fI : Addr) (fd : FuncData) (s0 : Str), PySem.W.findIn K (.ref (T.fa x)) "__init__" = some (some (.ref fI)) ∧ PySem.W.typeIn K (.ref fI) = some (.type "function") ∧ FnOk P w K mg base (L2.CX P w) 1 fI fd [s0, f] (spI K f) ∧ ∀ (s : Shared) (u v : Value), K.In s.heap → BindsTo s fd ⟨[u], [(f, v)]⟩ [(s0, u), (f, v)]
abbrev XEn (X : Cx) (T : Ct) (x f : Str) : Prop := ExN X.prog X.w X.K X.mg X.base T x f
theorem kwBinds {K : PySem.W.Frag} {x qual s0 f : Str} {params : Arguments} {body : List Stmt} {scope : Scope} {fI : Addr} {fd : FuncData} (F : FunD K x qual params body scope [] [] fI fd)
    (h : ∀ (kV doc pm : Value) (an : Option Addr) (cdv ct u v : Value), bindArgs (PySem.W.fnOf x qual params body scope .none kV doc pm an cdv ct) ⟨[u], [(f, v)]⟩ = pure [(s0, u), (f, v)]) (s : Shared) (u v : Value) (_ : K.In s.heap) : BindsTo s fd ⟨[u], [(f, v)]⟩ [(s0, u), (f, v)] := by
  obtain ⟨oc, od, dV, kV, doc, pm, an, cdv, ct, osl, rfl, lk, hcd, hD, hK⟩ := F.ex
  rcases hD with ⟨e, rfl⟩ | ⟨e, _⟩
  · exact .of_eq (h kV doc pm an cdv ct u v)
  · exact absurd rfl e
section
variable {X : Cx} {T : Ct} {W : WX} {e : Expr} {m : ME} {x f : Str} {p pos kpos : Pos}
theorem se_mkVK {j : Nat} (E : XEn X T x f) (hr : Room j X.A) (hj : 2 ≤ j) (h : SE X T W e m) (hg : Gl X x := by rfl) (hdb : (x == ("__debug__" : Str)) = false := by decide)
    (hall : (backToKw pos (keywordEach [⟨some f, e, kpos⟩] X.env)).all (·.1.isSome) = true := by rfl) (hks : (backToKw pos (keywordEach [⟨some f, e, kpos⟩] X.env)).filterMap (·.1) = [f] := by rfl)
    (hpl : ((backTo pos (starEach [] X.env)).any (·.1) || (backToKw pos (keywordEach [⟨some f, e, kpos⟩] X.env)).any (·.1.isNone)) = false := by rfl) :
    SE X T W (.Call (.Name x p) [] [⟨some f, e, kpos⟩] pos) (eMkV x f m) := by
  obtain ⟨fI, fd, s0, i1, i2, i3, i4⟩ := E.ex
  refine ⟨fun hK => ⟨fun pins s σ H Q I h0 => ?_⟩⟩
  obtain ⟨G, c, S, ρ, w, sr, o⟩ := h0
  have om : Out T W σ G H c (Reps T) (fun vs H1 => ∃ v, vs = [v] ∧ ∃ G1 c1 d S1, Wf T G1 H1 c1 S1 ∧ Le G H c G1 H1 c1 ∧ Rep T G1 c1 d v ∧ Out T W σ G1 H1 c1 (Rep T) Q (.ok (.exv x f d) S1)) (aCons m aNil ρ S) := by
    unfold eMkV at o
    unfold aCons
    cases q : m ρ S with
    | bad => rw [q] at o; exact o.elim
    | exc C fx S1 => rw [q] at o; exact o
    | ok d S1 =>
      rw [q] at o
      show Out T W σ G H c (Reps T) _ (.ok [d] S1)
      intro vs G1 H1 c1 w1 l1 rs
      obtain ⟨v, us, rfl, r1, r2⟩ := rs.cons_inv
      obtain rfl := r2.nil_inv
      exact ⟨v, rfl, G1, c1, d, S1, w1, l1, r1, Out.le (r := Rs.ok (D.exv x f d) S1) o l1⟩
  refine wpAny_Call_Name_kw (ld_glob I hg E.m.hm ?_ hdb)
  refine PySem.W.callWith_KW0 (h₀ := X.base) I.ok.mod.kin E.m.ox.kC hall (thn (((sk_cons h sk_nil).pk hK).run pos pins s σ H _ I ⟨G, c, S, ρ, w, sr, om⟩) fun ws s1 ⟨zs, H1, J, rz, v, ev, G1, c1, d, S1, w1, l1, r1, o1⟩ => ⟨J.kIn, ?_⟩) hpl
  subst ev
  rw [hks]
  obtain ⟨u, us, rfl, ru, rr⟩ : ∃ u us', ws = u :: us' ∧ RelV v u ∧ Vals [] us' := by cases rz with | cons r rr => exact ⟨_, _, rfl, r, rr⟩
  cases rr
  obtain ⟨_, _, _, _, bm, _, _, _, _, _, _, _, _, _, _, look, own⟩ := E.m.ox.cls
  obtain ⟨hp, g, dr, tk, os⟩ := s1
  obtain ⟨nil, J2⟩ := exh_inv J (T.fa x) []
  have wish : spI X.K f [.ref (hp.objs.size + 1), v] (upd H1 (hp.objs.size + 1) (exo (hp.objs.size + 1) (T.fa x) none)) (fun y H2 => y = .non ∧ Q (.ref (hp.objs.size + 1)) H2) (fun _ _ _ => False) := by
    refine ⟨hp.objs.size + 1, T.fa x, v, rfl, E.m.ox, E.m.hno, upd_same, fun dx hdx hne => ⟨rfl, ?_⟩⟩
    have hd1 : H1 dx = none := by rw [upd_ne hne] at hdx; exact hdx
    obtain ⟨G2, w2, l2, r2⟩ := exv_laid (x := x) (f := f) w1 nil hd1 hne r1
    exact o1 _ G2 _ c1 w2 l2 r2
  have self : Vals [V.ref (hp.objs.size + 1), v] [Value.ref (hp.objs.size + 1), u] := .cons rfl (.cons ru .nil)
  have walked := i3.run _ X.stack ⟨exh hp (T.fa x) [], g, dr, tk, os⟩ _ ⟨[Value.ref (hp.objs.size + 1)], [(f, u)]⟩ _ _ _ (fun _ _ _ => False) ((hr.mono hj).make (T.fa x) [] [(f, u)]) (J2.env0.make (T.fa x) [] [(f, u)]) (i4 _ _ u J2.kIn) self wish
  show wpAny _ _ (call (.ref (T.fa x)) [] [(f, u)]) _ _ _
  refine wpAny_call (kw_call F.excBase_Exception (fun Y => refsE_has Y bm own) (J.kIn _ _ look) (PySem.W.looks_findIn J.kIn i1) (fun me => PySem.W.bind_fn J.kIn me i2) (codeAny_mono walked fun r s' hq => ?_))
  match r, hq with
  | .error er, hq => exact pass_none pins σ _ _ er s' J2 hq
  | .ok (.ret u), ⟨v, H2, sameOs, bare, un, ok2, ru, ev, q2⟩ =>
    subst ev
    exact ⟨ru, J2.after ⟨.ref (hp.objs.size + 1), H2, sameOs, bare, un, ok2, rfl, q2⟩⟩
  | .ok .next, hq => exact False.elim hq
  | .ok .brk, hq => exact False.elim hq
  | .ok .cont, hq => exact False.elim hq
end
end KF
end

section
namespace KF
open PySem PySem.Spec PyProof.Rows L2
/-! ### exceptions as values: the facts of the head -/
theorem all_nil {α : Type} {P : α → Prop} : ∀ x ∈ ([] : List α), P x := fun _ h => absurd h (by simp)
theorem all_cons {α : Type} {P : α → Prop} {a : α} {l : List α} (h : P a) (t : ∀ x ∈ l, P x) : ∀ x ∈ a :: l, P x := fun x hx => by
  rcases List.mem_cons.mp hx with rfl | hx
  · exact h
  · exact t x hx
def excB (K : PySem.W.Frag) (C : Addr) : Bool := He.eqO (PySem.W.findIn K (.ref C) "__getattribute__") (some (some (.builtin "BaseException.__getattribute__"))) && (He.eqO (PySem.W.findIn K (.ref C) "__getattr__") (some none) && (decide (PySem.W.subIn K (.ref C) (.type "BaseException") = some true) && (PySem.W.hasDictIn K C &&
  (He.eqO (PySem.W.findIn K (.ref C) "__class__") (some (some (.builtin "object.__class__"))) && (He.eqO (PySem.W.specialIn K (.builtin "object.__class__") "__get__") (some (some (.builtin "getset_descriptor.__get__"))) && (decide (PySem.W.takesIn K (.builtin "object.__class__") = some true) && decide (PySem.W.mroIn K C (.type "object") = some true)))))))
theorem excB_ok {K : PySem.W.Frag} {C : Addr} (q : excB K C = true) : ExcC K C := by
  unfold excB at q
  simp only [Bool.and_eq_true, decide_eq_true_eq] at q
  obtain ⟨h1, h2, h3, h4, h5, h6, h7, h8⟩ := q
  exact ⟨He.eqO_ok h1, He.eqO_ok h2, h3, h4, He.eqO_ok h5, He.eqO_ok h6, h7, h8⟩
def isTB (cv : PySem.W.Frag → Value) (tb : List (Str × Bool)) (K : PySem.W.Frag) : Bool := tb.all fun q => excB K (He.ga K q.1) && decide (PySem.W.kitOne K (.ref (He.ga K q.1)) (cv K) = some q.2)
theorem isTB_ok {cv : PySem.W.Frag → Value} {tb : List (Str × Bool)} {K : PySem.W.Frag} (h : isTB cv tb K = true) : IsT K (tyOf K) (cv K) tb := fun q hq => by
  unfold isTB at h
  rw [List.all_eq_true] at h
  obtain ⟨h1, h2⟩ := Bool.and_eq_true_iff.mp (h q hq)
  exact ⟨excB_ok h1, of_decide_eq_true h2⟩
def exzB (x : Str) (K : PySem.W.Frag) : Bool := PySem.W.excIn K (He.ga K x) exT "Exception.__new__" && (PySem.W.keepIn K (.ref (He.ga K x)) && (decide (PySem.W.subIn K (.ref (He.ga K x)) (.type "BaseException") = some true) && decide (PySem.W.typeIn K (.ref (He.ga K x)) = some (.type "type"))))
theorem exzB_ok {x : Str} {K : PySem.W.Frag} {mg : Str → Option Value} (h : exzB x K = true) (hm : mg x = some (.ref (He.ga K x))) : ExZ K mg (tyOf K) x := by
  unfold exzB at h
  simp only [Bool.and_eq_true, decide_eq_true_eq] at h
  obtain ⟨h1, h2, h3, h4⟩ := h
  exact ⟨h1, hm, h2, h3, h4⟩
def exmB (y : Str) (tb : List (Str × Bool)) (K : PySem.W.Frag) : Bool := tb.all fun q => decide (PySem.W.exmOne K (.ref (He.ga K q.1)) (.ref (He.ga K y)) = some true)
theorem exmB_ok {y : Str} {tb : List (Str × Bool)} {K : PySem.W.Frag} (h : exmB y tb K = true) : ∀ q ∈ tb, PySem.W.exmOne K (.ref ((tyOf K).fa q.1)) (.ref ((tyOf K).fa y)) = some true := fun q hq => by
  unfold exmB at h
  rw [List.all_eq_true] at h
  exact of_decide_eq_true (h q hq)
theorem exN_of {P : Program} {w : World} {K : PySem.W.Frag} {mg : Str → Option Value} {base : Heap} {x f s0 : Str} {fd : FuncData} (c : exB x f K = true) (m : ExM P w K mg base (tyOf K) x f) (F1 : FnOk P w K mg base (L2.CX P w) 1 (He.ma K (He.ga K x) "__init__") fd [s0, f] (spI K f))
    (hk : ∀ (s : Shared) (u v : Value), K.In s.heap → BindsTo s fd ⟨[u], [(f, v)]⟩ [(s0, u), (f, v)]) : ExN P w K mg base (tyOf K) x f := by
  unfold exB at c
  simp only [Bool.and_eq_true, decide_eq_true_eq] at c
  obtain ⟨c1, c2, c3, c4, c5, c6, c7, c8, c9, c10⟩ := c
  exact ⟨m, _, fd, s0, He.eqO_ok c9, c10, F1, hk⟩
end KF
end

section
namespace KF
open PySem
noncomputable section
def d_LEAST_RING : D := .int 3
def d_MANNERS : D := .tup [.str "any", .str "left", .str "right", .str "straight"]
def d_MOST_CORNERS : D := .int 10
def d_MOST_PLACE : D := .int 99
def d_MOST_RING : D := .int 8
def d_MOST_RINGS : D := .int 3
def d_is_place : D := .fn "is_place"
def b_is_integer : MS := (sRet (eAnd (eUn (gIsi [.int]) (eVar 0)) (eNot (eUn (gIsi [.bl]) (eVar 0)))))
def m_is_integer : MF := bodyM 1 b_is_integer
def b_is_within : MS := (sRet (eAnd (eCall 1 m_is_integer (aCons (eVar 0) aNil)) (eChain gLe gLe (eVar 1) (eVar 0) (eVar 2))))
def m_is_within : MF := bodyM 3 b_is_within
def b_is_sequence : MS := (sRet (eUn (gIsi [.lst, .tup]) (eVar 0)))
def m_is_sequence : MF := bodyM 1 b_is_sequence
def b_is_row : MS := (sRet (eAnd (eCall 1 m_is_sequence (aCons (eVar 0) aNil)) (eChain gLe gLe (eVar 1) (eCB gLen (aCons (eVar 0) aNil)) (eVar 2))))
def m_is_row : MF := bodyM 3 b_is_row
def b_is_manner : MS := (sRet (eAnd (eUn (gIsi [.str]) (eVar 0)) (eBin gIn (eVar 0) (eC d_MANNERS))))
def m_is_manner : MF := bodyM 1 b_is_manner
def b_is_letter_shaped : MS := (sSeq (sIf (eOr (eNot (eCall 3 m_is_row (aCons (eVar 0) (aCons (eC (.int 1)) (aCons (eC d_MOST_RINGS) aNil))))) (eNot (eCB (g1 hAll) (aCons (eLst (eLC (List.map (fun x => x.2) ([("ring", 1)] : List (Str × Nat))) (iSeq (eVar 0)) (gVar 1) cYes (eCall 3 m_is_row (aCons (eVar 1) (aCons (eC d_LEAST_RING) (aCons (eC d_MOST_RING) aNil)))))) aNil))))
      (sRet (eC (.bl false)))
      sNil)
    (sSeq (sIf (eBin gGt (eCB (g1 hSum) (aCons (eLst (eLC (List.map (fun x => x.2) ([("ring", 1)] : List (Str × Nat))) (iSeq (eVar 0)) (gVar 1) cYes (eCB gLen (aCons (eVar 1) aNil)))) aNil)) (eC d_MOST_CORNERS))
      (sRet (eC (.bl false)))
      sNil)
    (sRet (eCB (g1 hAll) (aCons (eLst (eLC2 (List.map (fun x => x.2) ([("ring", 1), ("manner", 2)] : List (Str × Nat))) (iSeq (eVar 0)) (gVar 1) cYes [2] (iSeq (eVar 1)) (gVar 2) cYes (eCall 1 m_is_manner (aCons (eVar 2) aNil)))) aNil)))))
def m_is_letter_shaped : MF := bodyM 3 b_is_letter_shaped
def b_is_place : MS := (sRet (eAnd (eCall 3 m_is_row (aCons (eVar 0) (aCons (eC (.int 2)) (aCons (eC (.int 2)) aNil)))) (eCB (g1 hAll) (aCons (eLst (eLC (List.map (fun x => x.2) ([("number", 1)] : List (Str × Nat))) (iSeq (eVar 0)) (gVar 1) cYes (eCall 3 m_is_within (aCons (eVar 1) (aCons (eUn gNeg (eC d_MOST_PLACE)) (aCons (eC d_MOST_PLACE) aNil)))))) aNil))))
def m_is_place : MF := bodyM 2 b_is_place
def b_has_places : MS := (sSeq (sIf (eNot (eCall 3 m_is_row (aCons (eVar 1) (aCons (eCB gLen (aCons (eVar 0) aNil)) (aCons (eCB gLen (aCons (eVar 0) aNil)) aNil)))))
      (sRet (eC (.bl false)))
      sNil)
    (sSeq (sFor (iZip (aCons (eVar 0) (aCons (eVar 1) aNil))) (gTupM 2 (gsCons (gVar 3) (gsCons (gVar 4) gsNil)))
      (sIf (eOr (eNot (eCall 3 m_is_row (aCons (eVar 4) (aCons (eCB gLen (aCons (eVar 3) aNil)) (aCons (eCB gLen (aCons (eVar 3) aNil)) aNil))))) (eNot (eCB (g1 hAll) (aCons (eLst (eLC (List.map (fun x => x.2) ([("place", 5)] : List (Str × Nat))) (iSeq (eVar 4)) (gVar 5) cYes (eCallL 2 1 [("is_place", m_is_place)] (aCons (eVar 5) aNil)))) aNil))))
      (sRet (eC (.bl false)))
      sNil))
    (sRet (eC (.bl true)))))
def m_has_places : MF := bodyM 6 b_has_places
def b_is_drawing_shaped : MS := (sRet (eCall 3 m_has_places (aCons (eVar 0) (aCons (eVar 1) (aCons (eC d_is_place) aNil)))))
def m_is_drawing_shaped : MF := bodyM 2 b_is_drawing_shaped
def b_check_letter : MS := (sIf (eNot (eCall 1 m_is_letter_shaped (aCons (eVar 0) aNil)))
      (sRaise "BadValue" "at" (eC (.int 0)))
      sNil)
def m_check_letter : MF := bodyM 1 b_check_letter
def b_is_letter : MS := (sRet (eCall 1 m_is_letter_shaped (aCons (eVar 0) aNil)))
def m_is_letter : MF := bodyM 1 b_is_letter
def b_is_drawing : MS := (sSeq (sDrop (eCall 1 m_check_letter (aCons (eVar 0) aNil)))
    (sRet (eCall 2 m_is_drawing_shaped (aCons (eVar 0) (aCons (eVar 1) aNil)))))
def m_is_drawing : MF := bodyM 2 b_is_drawing
def b_f_law_so (r : MF) : MS := (sSeq (sIf (eBin (gIs false) (eVar 1) (eC .non))
      (sRet (eBin (gIs false) (eVar 0) (eC .non)))
      sNil)
    (sSeq (sIf (eUn (gIsi [.tup]) (eVar 1))
      (sSeq (sIf (eOr (eNot (eUn (gIsi [.tup]) (eVar 0))) (eBin gNe (eCB gLen (aCons (eVar 0) aNil)) (eCB gLen (aCons (eVar 1) aNil))))
      (sRet (eC (.bl false)))
      sNil)
    (sSeq (sFor (iRange1 (aCons (eCB gLen (aCons (eVar 1) aNil)) aNil)) (gVar 2)
      (sIf (eNot (eCall 2 r (aCons (eBin gIx (eVar 0) (eVar 2)) (aCons (eBin gIx (eVar 1) (eVar 2)) aNil))))
      (sRet (eC (.bl false)))
      sNil))
    (sRet (eC (.bl true)))))
      sNil)
    (sSeq (sIf (eOr (eUn (gIsi [.bl]) (eVar 1)) (eUn (gIsi [.bl]) (eVar 0)))
      (sRet (eAnd (eUn (gIsi [.bl]) (eVar 1)) (eAnd (eUn (gIsi [.bl]) (eVar 0)) (eBin gEq (eVar 0) (eVar 1)))))
      sNil)
    (sSeq (sIf (eUn (gIsi [.int]) (eVar 1))
      (sRet (eAnd (eUn (gIsi [.int]) (eVar 0)) (eBin gEq (eVar 0) (eVar 1))))
      sNil)
    (sRet (eAnd (eUn (gIsi [.str]) (eVar 1)) (eAnd (eUn (gIsi [.str]) (eVar 0)) (eBin gEq (eVar 0) (eVar 1)))))))))
def m_f_law_so : Nat → MF
  | 0 => mBad
  | k + 1 => bodyM 3 (b_f_law_so (m_f_law_so k))
def b_f_law_numbers : MS := (sSeq (sSetOwn 1 (aSmall aNil))
    (sSeq (sFor (iSeq (eSl (eVar 0) oNo (oOf (eC (.int 63))))) (gVar 2)
      (sIf (eBin gGe (eVar 2) (eBin gPow (eC (.int 10)) (eC (.int 18))))
      (sSeq (sSet 3 (eVar 2))
    (sFor (iRange1 (aCons (eC (.int 60)) aNil)) (gVar 4)
      (sSeq (sIf (eBin gEq (eVar 3) (eC (.int 0)))
      sBrk
      sNil)
    (sSeq (sApp 1 (eBin gMod (eCB gInt (aCons (eVar 3) aNil)) (eC (.int 997))))
    (sSet 3 (eBin gDiv (eVar 3) (eC (.int 997))))))))
      (sFor (iRange1 (aCons (eC (.int 4)) aNil)) (gVar 4)
      (sSeq (sSet 5 (eBin gMod (eCB gInt (aCons (eBin gAdd (eBin gAdd (eBin gMul (eVar 2) (eC (.int 48271))) (eBin gMul (eVar 4) (eC (.int 69621)))) (eC (.int 11))) aNil)) (eC (.int 2147483647))))
    (sApp 1 (eBin gMod (eCB gInt (aCons (eBin gAdd (eBin gMul (eVar 5) (eC (.int 16807))) (eVar 4)) aNil)) (eC (.int 2147483629))))))))
    (sSeq (sIf (eBin gEq (eLenOwn 1) (eC (.int 0)))
      (sApp 1 (eC (.int 0)))
      sNil)
    (sFz 1 (sRet (eVar 1))))))
def m_f_law_numbers : MF := bodyM 6 b_f_law_numbers
def b_f_law_draw : MS := (sSeq (sIf (eBin gLt (eVar 1) (eCB gLen (aCons (eVar 0) aNil)))
      (sRet (eBin gMod (eCB gInt (aCons (eBin gIx (eVar 0) (eVar 1)) aNil)) (eVar 2)))
      sNil)
    (sSeq (sSet 3 (eBin gMod (eCB gInt (aCons (eBin gAdd (eBin gAdd (eBin gMul (eBin gIx (eVar 0) (eBin gMod (eCB gInt (aCons (eVar 1) aNil)) (eCB gLen (aCons (eVar 0) aNil)))) (eC (.int 40692))) (eBin gMul (eVar 1) (eC (.int 7919)))) (eC (.int 3))) aNil)) (eC (.int 2147483399))))
    (sRet (eBin gMod (eCB gInt (aCons (eBin gMod (eCB gInt (aCons (eBin gAdd (eBin gMul (eVar 3) (eC (.int 48271))) (eVar 1)) aNil)) (eC (.int 2147483647))) aNil)) (eVar 2)))))
def m_f_law_draw : MF := bodyM 4 b_f_law_draw
def b_f_law_take : MS := (sSeq (sPutC (eBin gAdd (eBin gIx (eVar 1) (eC (.int 0))) (eC (.int 1))) (eVar 1) (eC (.int 0)))
    (sRet (eCall 3 m_f_law_draw (aCons (eVar 0) (aCons (eBin gSub (eBin gIx (eVar 1) (eC (.int 0))) (eC (.int 1))) (aCons (eVar 2) aNil))))))
def m_f_law_take : MF := bodyM 3 b_f_law_take
def b_f_law_whole : MS := (sRet (eAnd (eUn (gIsi [.int]) (eVar 0)) (eNot (eUn (gIsi [.bl]) (eVar 0)))))
def m_f_law_whole : MF := bodyM 1 b_f_law_whole
def b_f_law_listed (r : MF) : MS := (sSeq (sIf (eUn (gIsi [.tup]) (eVar 0))
      (sRet (eLst (eLC (List.map (fun x => x.2) ([("one", 1)] : List (Str × Nat))) (iSeq (eVar 0)) (gVar 1) cYes (eCall 1 r (aCons (eVar 1) aNil)))))
      sNil)
    (sRet (eVar 0)))
def m_f_law_listed : Nat → MF
  | 0 => mBad
  | k + 1 => bodyM 2 (b_f_law_listed (m_f_law_listed k))
def b_f_law_tupled (r : MF) : MS := (sSeq (sIf (eOr (eUn (gIsi [.lst]) (eVar 0)) (eUn (gIsi [.tup]) (eVar 0)))
      (sRet (eCB gTuple (aCons (eLst (eLC (List.map (fun x => x.2) ([("one", 1)] : List (Str × Nat))) (iSeq (eVar 0)) (gVar 1) cYes (eCall 1 r (aCons (eVar 1) aNil)))) aNil)))
      sNil)
    (sRet (eVar 0)))
def m_f_law_tupled : Nat → MF
  | 0 => mBad
  | k + 1 => bodyM 2 (b_f_law_tupled (m_f_law_tupled k))
def b_f_law_either (r : MF) : MS := (sSeq (sIf (eUn (gIsi [.tup]) (eVar 2))
      (sSeq (sSet 3 (eLst (eLC (List.map (fun x => x.2) ([("one", 4)] : List (Str × Nat))) (iSeq (eVar 2)) (gVar 4) cYes (eCall 3 r (aCons (eVar 0) (aCons (eVar 1) (aCons (eVar 4) aNil)))))))
    (sRet (eIf (eBin gEq (eCall 3 m_f_law_take (aCons (eVar 0) (aCons (eVar 1) (aCons (eC (.int 2)) aNil)))) (eC (.int 0))) (eVar 3) (eCB gTuple (aCons (eVar 3) aNil)))))
      sNil)
    (sRet (eVar 2)))
def m_f_law_either : Nat → MF
  | 0 => mBad
  | k + 1 => bodyM 5 (b_f_law_either (m_f_law_either k))
def b_f_law_handed : MS := (sSeq (sSet 3 (eCall 3 m_f_law_take (aCons (eVar 0) (aCons (eVar 1) (aCons (eC (.int 3)) aNil)))))
    (sSeq (sIf (eBin gEq (eVar 3) (eC (.int 2)))
      (sRet (eCall 3 (m_f_law_either 12) (aCons (eVar 0) (aCons (eVar 1) (aCons (eVar 2) aNil)))))
      sNil)
    (sRet (eIf (eBin gEq (eVar 3) (eC (.int 0))) (eCall 1 (m_f_law_listed 12) (aCons (eVar 2) aNil)) (eVar 2)))))
def m_f_law_handed : MF := bodyM 4 b_f_law_handed
def b_f_law_pick : MS := (sRet (eBin gIx (eVar 2) (eCall 3 m_f_law_take (aCons (eVar 0) (aCons (eVar 1) (aCons (eCB gLen (aCons (eVar 2) aNil)) aNil))))))
def m_f_law_pick : MF := bodyM 3 b_f_law_pick
def b_f_law_is_letter : MS := (sSeq (sIf (eOr (eNot (eUn (gIsi [.tup]) (eVar 0))) (eNot (eChain gLe gLe (eC (.int 1)) (eCB gLen (aCons (eVar 0) aNil)) (eC (.int 3)))))
      (sRet (eC (.bl false)))
      sNil)
    (sSeq (sSet 1 (eC (.int 0)))
    (sSeq (sFor (iSeq (eVar 0)) (gVar 2)
      (sSeq (sIf (eOr (eNot (eUn (gIsi [.tup]) (eVar 2))) (eNot (eChain gLe gLe (eC (.int 3)) (eCB gLen (aCons (eVar 2) aNil)) (eC (.int 8)))))
      (sRet (eC (.bl false)))
      sNil)
    (sSeq (sFor (iSeq (eVar 2)) (gVar 3)
      (sIf (eOr (eNot (eUn (gIsi [.str]) (eVar 3))) (eBin gNotIn (eVar 3) (eTup (aCons (eC (.str "any")) (aCons (eC (.str "left")) (aCons (eC (.str "right")) (aCons (eC (.str "straight")) aNil)))))))
      (sRet (eC (.bl false)))
      sNil))
    (sSet 1 (eBin gAdd (eVar 1) (eCB gLen (aCons (eVar 2) aNil)))))))
    (sRet (eBin gLt (eVar 1) (eC (.int 11)))))))
def m_f_law_is_letter : MF := bodyM 4 b_f_law_is_letter
def b_f_law_is_place : MS := (sSeq (sIf (eOr (eNot (eUn (gIsi [.tup]) (eVar 0))) (eOr (eBin gNe (eCB gLen (aCons (eVar 0) aNil)) (eC (.int 2))) (eOr (eNot (eCall 1 m_f_law_whole (aCons (eBin gIx (eVar 0) (eC (.int 0))) aNil))) (eNot (eCall 1 m_f_law_whole (aCons (eBin gIx (eVar 0) (eC (.int 1))) aNil))))))
      (sRet (eC (.bl false)))
      sNil)
    (sRet (eAnd (eChain gLe gLe (eUn gNeg (eC (.int 99))) (eBin gIx (eVar 0) (eC (.int 0))) (eC (.int 99))) (eChain gLe gLe (eUn gNeg (eC (.int 99))) (eBin gIx (eVar 0) (eC (.int 1))) (eC (.int 99))))))
def m_f_law_is_place : MF := bodyM 1 b_f_law_is_place
def b_f_law_is_drawing : MS := (sSeq (sIf (eOr (eNot (eUn (gIsi [.tup]) (eVar 1))) (eBin gNe (eCB gLen (aCons (eVar 1) aNil)) (eCB gLen (aCons (eVar 0) aNil))))
      (sRet (eC (.bl false)))
      sNil)
    (sSeq (sFor (iRange1 (aCons (eCB gLen (aCons (eVar 0) aNil)) aNil)) (gVar 2)
      (sSeq (sIf (eOr (eNot (eUn (gIsi [.tup]) (eBin gIx (eVar 1) (eVar 2)))) (eBin gNe (eCB gLen (aCons (eBin gIx (eVar 1) (eVar 2)) aNil)) (eCB gLen (aCons (eBin gIx (eVar 0) (eVar 2)) aNil))))
      (sRet (eC (.bl false)))
      sNil)
    (sIf (eBin gGt (eCB gLen (aCons (eLst (eLC (List.map (fun x => x.2) ([("one", 3)] : List (Str × Nat))) (iSeq (eBin gIx (eVar 1) (eVar 2))) (gVar 3) (eNot (eCall 1 m_f_law_is_place (aCons (eVar 3) aNil))) (eVar 3))) aNil)) (eC (.int 0)))
      (sRet (eC (.bl false)))
      sNil)))
    (sRet (eC (.bl true)))))
def m_f_law_is_drawing : MF := bodyM 4 b_f_law_is_drawing
def b_f_law_corners : MS := (sSeq (sSet 1 (eLst (aSmall aNil)))
    (sSeq (sFor (iRange1 (aCons (eCB gLen (aCons (eVar 0) aNil)) aNil)) (gVar 2)
      (sSet 1 (eBin gAdd (eVar 1) (eLst (eLC (List.map (fun x => x.2) ([("k", 3)] : List (Str × Nat))) (iRange1 (aCons (eCB gLen (aCons (eBin gIx (eVar 0) (eVar 2)) aNil)) aNil)) (gVar 3) cYes (eTup (aCons (eVar 2) (aCons (eVar 3) aNil))))))))
    (sRet (eVar 1))))
def m_f_law_corners : MF := bodyM 4 b_f_law_corners
def b_f_law_next : MS := (sRet (eTup (aCons (eBin gIx (eVar 1) (eC (.int 0))) (aCons (eBin gMod (eCB gInt (aCons (eBin gAdd (eBin gIx (eVar 1) (eC (.int 1))) (eC (.int 1))) aNil)) (eCB gLen (aCons (eBin gIx (eVar 0) (eBin gIx (eVar 1) (eC (.int 0)))) aNil))) aNil))))
def m_f_law_next : MF := bodyM 2 b_f_law_next
def b_f_law_before : MS := (sRet (eTup (aCons (eBin gIx (eVar 1) (eC (.int 0))) (aCons (eBin gMod (eCB gInt (aCons (eBin gSub (eBin gIx (eVar 1) (eC (.int 1))) (eC (.int 1))) aNil)) (eCB gLen (aCons (eBin gIx (eVar 0) (eBin gIx (eVar 1) (eC (.int 0)))) aNil))) aNil))))
def m_f_law_before : MF := bodyM 2 b_f_law_before
def b_f_law_at : MS := (sRet (eBin gIx (eBin gIx (eVar 0) (eBin gIx (eVar 1) (eC (.int 0)))) (eBin gIx (eVar 1) (eC (.int 1)))))
def m_f_law_at : MF := bodyM 2 b_f_law_at
def b_f_law_letter : MS := (sSeq (sSet 2 (eBin gAdd (eC (.int 1)) (eBin gDiv (eCall 3 m_f_law_take (aCons (eVar 0) (aCons (eVar 1) (aCons (eC (.int 5)) aNil)))) (eC (.int 2)))))
    (sSeq (sSetOwn 3 (aSmall aNil))
    (sSeq (sSet 4 (eC (.int 10)))
    (sSeq (sFor (iRange1 (aCons (eVar 2) aNil)) (gVar 5)
      (sSeq (sSet 6 (eCB gMin2 (aCons (eC (.int 8)) (aCons (eBin gSub (eVar 4) (eBin gMul (eC (.int 3)) (eBin gSub (eBin gSub (eVar 2) (eC (.int 1))) (eVar 5)))) aNil))))
    (sSeq (sSet 7 (eBin gAdd (eC (.int 3)) (eCall 3 m_f_law_take (aCons (eVar 0) (aCons (eVar 1) (aCons (eCB gMax2 (aCons (eC (.int 1)) (aCons (eBin gSub (eVar 6) (eC (.int 2))) aNil))) aNil))))))
    (sSeq (sSet 4 (eBin gSub (eVar 4) (eVar 7)))
    (sSeq (sSetOwn 8 (aSmall aNil))
    (sSeq (sFor (iRange1 (aCons (eVar 7) aNil)) (gVar 9)
      (sApp 8 (eBin gIx (eLst (aSmall (aCons (eC (.str "any")) (aCons (eC (.str "any")) (aCons (eC (.str "left")) (aCons (eC (.str "right")) (aCons (eC (.str "straight")) aNil))))))) (eCall 3 m_f_law_take (aCons (eVar 0) (aCons (eVar 1) (aCons (eC (.int 5)) aNil)))))))
    (sFz 8 (sApp 3 (eCB gTuple (aCons (eVar 8) aNil))))))))))
    (sFz 3 (sRet (eCB gTuple (aCons (eVar 3) aNil))))))))
def m_f_law_letter : MF := bodyM 10 b_f_law_letter
def b_f_law_ways : MS := (sRet (eLst (aSmall (aCons (eTup (aCons (eC (.int 8)) (aCons (eC (.int 0)) aNil))) (aCons (eTup (aCons (eC (.int 7)) (aCons (eC (.int 4)) aNil))) (aCons (eTup (aCons (eC (.int 4)) (aCons (eC (.int 7)) aNil))) (aCons (eTup (aCons (eC (.int 0)) (aCons (eC (.int 8)) aNil))) (aCons (eTup (aCons (eUn gNeg (eC (.int 4))) (aCons (eC (.int 7)) aNil))) (aCons (eTup (aCons (eUn gNeg (eC (.int 7))) (aCons (eC (.int 4)) aNil))) (aCons (eTup (aCons (eUn gNeg (eC (.int 8))) (aCons (eC (.int 0)) aNil))) (aCons (eTup (aCons (eUn gNeg (eC (.int 7))) (aCons (eUn gNeg (eC (.int 4))) aNil))) (aCons (eTup (aCons (eUn gNeg (eC (.int 4))) (aCons (eUn gNeg (eC (.int 7))) aNil))) (aCons (eTup (aCons (eC (.int 0)) (aCons (eUn gNeg (eC (.int 8))) aNil))) (aCons (eTup (aCons (eC (.int 4)) (aCons (eUn gNeg (eC (.int 7))) aNil))) (aCons (eTup (aCons (eC (.int 7)) (aCons (eUn gNeg (eC (.int 4))) aNil))) aNil)))))))))))))))
def m_f_law_ways : MF := bodyM 0 b_f_law_ways
def b_f_law_ring_places : MS := (sSeq (sSet 5 (eCB gSorted (aCons (eLst (eLC (List.map (fun x => x.2) ([("k", 7)] : List (Str × Nat))) (iRange1 (aCons (eVar 2) aNil)) (gVar 7) cYes (eCall 3 m_f_law_take (aCons (eVar 0) (aCons (eVar 1) (aCons (eC (.int 12)) aNil)))))) aNil)))
    (sSeq (sSetOwn 6 (aSmall aNil))
    (sSeq (sFor (iRange1 (aCons (eVar 2) aNil)) (gVar 7)
      (sSeq (sSet 8 (eIf (eBin gGt (eCall 3 m_f_law_take (aCons (eVar 0) (aCons (eVar 1) (aCons (eC (.int 3)) aNil)))) (eC (.int 0))) (eBin gIx (eCall 0 m_f_law_ways aNil) (eBin gMod (eCB gInt (aCons (eBin gAdd (eBin gIx (eVar 5) (eVar 7)) (eVar 7)) aNil)) (eC (.int 12)))) (eBin gIx (eCall 0 m_f_law_ways aNil) (eBin gMod (eCB gInt (aCons (eBin gDiv (eBin gMul (eC (.int 12)) (eVar 7)) (eVar 2)) aNil)) (eC (.int 12))))))
    (sSeq (sSet 9 (eBin gAdd (eC (.int 1)) (eCall 3 m_f_law_take (aCons (eVar 0) (aCons (eVar 1) (aCons (eVar 4) aNil))))))
    (sApp 6 (eTup (aCons (eBin gAdd (eBin gIx (eVar 3) (eC (.int 0))) (eBin gDiv (eBin gMul (eBin gIx (eVar 8) (eC (.int 0))) (eVar 9)) (eC (.int 2)))) (aCons (eBin gAdd (eBin gIx (eVar 3) (eC (.int 1))) (eBin gDiv (eBin gMul (eBin gIx (eVar 8) (eC (.int 1))) (eVar 9)) (eC (.int 2)))) aNil)))))))
    (sFz 6 (sRet (eVar 6))))))
def m_f_law_ring_places : MF := bodyM 10 b_f_law_ring_places
def b_f_law_clip : MS := (sRet (eTup (aCons (eCB gMax2 (aCons (eUn gNeg (eC (.int 99))) (aCons (eCB gMin2 (aCons (eC (.int 99)) (aCons (eBin gIx (eVar 0) (eC (.int 0))) aNil))) aNil))) (aCons (eCB gMax2 (aCons (eUn gNeg (eC (.int 99))) (aCons (eCB gMin2 (aCons (eC (.int 99)) (aCons (eBin gIx (eVar 0) (eC (.int 1))) aNil))) aNil))) aNil))))
def m_f_law_clip : MF := bodyM 1 b_f_law_clip
def b_f_law_drawing : MS := (sSeq (sSetOwn 3 (aSmall aNil))
    (sSeq (sSet 4 (eCall 3 m_f_law_take (aCons (eVar 0) (aCons (eVar 1) (aCons (eC (.int 4)) aNil)))))
    (sSeq (sFor (iRange1 (aCons (eCB gLen (aCons (eVar 2) aNil)) aNil)) (gVar 5)
      (sSeq (sSet 6 (eCB gLen (aCons (eBin gIx (eVar 2) (eVar 5)) aNil)))
    (sSeq (sSet 7 (eBin gIx (eLst (aSmall (aCons (eTup (aCons (eC (.int 0)) (aCons (eC (.int 0)) aNil))) (aCons (eTup (aCons (eBin gSub (eBin gMul (eC (.int 60)) (eVar 5)) (eC (.int 50))) (aCons (eC (.int 0)) aNil))) (aCons (eTup (aCons (eC (.int 0)) (aCons (eC (.int 0)) aNil))) (aCons (eTup (aCons (eBin gSub (eCall 3 m_f_law_take (aCons (eVar 0) (aCons (eVar 1) (aCons (eC (.int 40)) aNil)))) (eC (.int 20))) (aCons (eBin gSub (eCall 3 m_f_law_take (aCons (eVar 0) (aCons (eVar 1) (aCons (eC (.int 40)) aNil)))) (eC (.int 20))) aNil))) aNil)))))) (eVar 4)))
    (sSeq (sIf (eBin gLt (eVar 4) (eC (.int 3)))
      (sSeq (sSet 8 (eBin gDiv (eBin gIx (eLst (aSmall (aCons (eC (.int 16)) (aCons (eC (.int 6)) (aCons (eC (.int 16)) aNil))))) (eVar 4)) (eIf (eBin gNe (eVar 4) (eC (.int 1))) (eBin gAdd (eC (.int 1)) (eBin gMul (eC (.int 2)) (eVar 5))) (eC (.int 1)))))
    (sSeq (sSetOwn 9 (aSmall aNil))
    (sFor (iRange1 (aCons (eVar 6) aNil)) (gVar 10)
      (sSeq (sSet 11 (eBin gIx (eCall 0 m_f_law_ways aNil) (eBin gMod (eCB gInt (aCons (eBin gDiv (eBin gMul (eC (.int 12)) (eVar 10)) (eVar 6)) aNil)) (eC (.int 12)))))
    (sSeq (sSet 12 (eCB gMax2 (aCons (eC (.int 2)) (aCons (eBin gSub (eVar 8) (eCall 3 m_f_law_take (aCons (eVar 0) (aCons (eVar 1) (aCons (eC (.int 2)) aNil))))) aNil))))
    (sApp 9 (eTup (aCons (eBin gAdd (eBin gIx (eVar 7) (eC (.int 0))) (eBin gDiv (eBin gMul (eBin gIx (eVar 11) (eC (.int 0))) (eVar 12)) (eC (.int 2)))) (aCons (eBin gAdd (eBin gIx (eVar 7) (eC (.int 1))) (eBin gDiv (eBin gMul (eBin gIx (eVar 11) (eC (.int 1))) (eVar 12)) (eC (.int 2)))) aNil)))))))))
      (sSet 9 (eCall 5 m_f_law_ring_places (aCons (eVar 0) (aCons (eVar 1) (aCons (eVar 6) (aCons (eVar 7) (aCons (eC (.int 9)) aNil))))))))
    (sFz 9 (sApp 3 (eCB gTuple (aCons (eLst (eLC (List.map (fun x => x.2) ([("one", 13)] : List (Str × Nat))) (iSeq (eVar 9)) (gVar 13) cYes (eCall 1 m_f_law_clip (aCons (eVar 13) aNil)))) aNil))))))))
    (sFz 3 (sRet (eCB gTuple (aCons (eVar 3) aNil)))))))
def m_f_law_drawing : MF := bodyM 14 b_f_law_drawing
def b_f_law_varied : MS := (sSeq (sSetOwn 3 (aSmall aNil))
    (sSeq (sSet 4 (eTup (aCons (eBin gSub (eCall 3 m_f_law_take (aCons (eVar 0) (aCons (eVar 1) (aCons (eC (.int 9)) aNil)))) (eC (.int 4))) (aCons (eBin gSub (eCall 3 m_f_law_take (aCons (eVar 0) (aCons (eVar 1) (aCons (eC (.int 9)) aNil)))) (eC (.int 4))) aNil))))
    (sSeq (sSet 5 (eBin gIx (eLst (aSmall (aCons (eC (.int 1)) (aCons (eC (.int 3)) (aCons (eC (.int 9)) (aCons (eC (.int 40)) aNil)))))) (eCall 3 m_f_law_take (aCons (eVar 0) (aCons (eVar 1) (aCons (eC (.int 4)) aNil))))))
    (sSeq (sSet 6 (eBin gAdd (eC (.int 1)) (eCall 3 m_f_law_take (aCons (eVar 0) (aCons (eVar 1) (aCons (eC (.int 4)) aNil))))))
    (sSeq (sFor (iSeq (eVar 2)) (gVar 7)
      (sSeq (sSetOwn 8 (aSmall aNil))
    (sSeq (sFor (iSeq (eVar 7)) (gVar 9)
      (sSeq (sIf (eBin gEq (eCall 3 m_f_law_take (aCons (eVar 0) (aCons (eVar 1) (aCons (eVar 6) aNil)))) (eC (.int 0)))
      (sSeq (sPar 10 11 (aCons (eBin gSub (eCall 3 m_f_law_take (aCons (eVar 0) (aCons (eVar 1) (aCons (eBin gAdd (eBin gMul (eC (.int 2)) (eVar 5)) (eC (.int 1))) aNil)))) (eVar 5)) (aCons (eBin gSub (eCall 3 m_f_law_take (aCons (eVar 0) (aCons (eVar 1) (aCons (eBin gAdd (eBin gMul (eC (.int 2)) (eVar 5)) (eC (.int 1))) aNil)))) (eVar 5)) aNil)))
    (sSet 9 (eTup (aCons (eBin gAdd (eBin gIx (eVar 9) (eC (.int 0))) (eVar 10)) (aCons (eBin gAdd (eBin gIx (eVar 9) (eC (.int 1))) (eVar 11)) aNil)))))
      sNil)
    (sApp 8 (eCall 1 m_f_law_clip (aCons (eTup (aCons (eBin gAdd (eBin gIx (eVar 9) (eC (.int 0))) (eBin gIx (eVar 4) (eC (.int 0)))) (aCons (eBin gAdd (eBin gIx (eVar 9) (eC (.int 1))) (eBin gIx (eVar 4) (eC (.int 1)))) aNil))) aNil)))))
    (sFz 8 (sApp 3 (eCB gTuple (aCons (eVar 8) aNil)))))))
    (sFz 3 (sRet (eCB gTuple (aCons (eVar 3) aNil)))))))))
def m_f_law_varied : MF := bodyM 12 b_f_law_varied
def b_f_law_masters : MS := (sSeq (sSetOwn 4 (aSmall (aCons (eCall 3 m_f_law_drawing (aCons (eVar 0) (aCons (eVar 1) (aCons (eVar 2) aNil)))) aNil)))
    (sSeq (sFor (iRange1 (aCons (eCall 3 m_f_law_take (aCons (eVar 0) (aCons (eVar 1) (aCons (eVar 3) aNil)))) aNil)) (gVar 5)
      (sIf (eBin gEq (eCall 3 m_f_law_take (aCons (eVar 0) (aCons (eVar 1) (aCons (eC (.int 6)) aNil)))) (eC (.int 0)))
      (sApp 4 (eCall 3 m_f_law_drawing (aCons (eVar 0) (aCons (eVar 1) (aCons (eVar 2) aNil)))))
      (sApp 4 (eCall 3 m_f_law_varied (aCons (eVar 0) (aCons (eVar 1) (aCons (eIxOwn 4 (eC (.int 0))) aNil)))))))
    (sFz 4 (sRet (eCB gTuple (aCons (eVar 4) aNil))))))
def m_f_law_masters : MF := bodyM 6 b_f_law_masters
def b_f_law_fitted : MS := (sSeq (sSetOwn 4 (aSmall aNil))
    (sSeq (sFor (iRange1 (aCons (eCB gLen (aCons (eVar 2) aNil)) aNil)) (gVar 5)
      (sSeq (sSetOwn 6 (aSmall aNil))
    (sSeq (sFor (iRange1 (aCons (eCB gLen (aCons (eBin gIx (eVar 2) (eVar 5)) aNil)) aNil)) (gVar 7)
      (sSeq (sSet 8 (eCall 2 m_f_law_at (aCons (eVar 3) (aCons (eCall 2 m_f_law_before (aCons (eVar 2) (aCons (eTup (aCons (eVar 5) (aCons (eVar 7) aNil))) aNil))) aNil))))
    (sSeq (sSet 9 (eBin gIx (eBin gIx (eVar 3) (eVar 5)) (eVar 7)))
    (sSeq (sSet 10 (eCall 2 m_f_law_at (aCons (eVar 3) (aCons (eCall 2 m_f_law_next (aCons (eVar 2) (aCons (eTup (aCons (eVar 5) (aCons (eVar 7) aNil))) aNil))) aNil))))
    (sSeq (sSet 11 (eBin gSub (eBin gMul (eBin gSub (eBin gIx (eVar 9) (eC (.int 0))) (eBin gIx (eVar 8) (eC (.int 0)))) (eBin gSub (eBin gIx (eVar 10) (eC (.int 1))) (eBin gIx (eVar 9) (eC (.int 1))))) (eBin gMul (eBin gSub (eBin gIx (eVar 9) (eC (.int 1))) (eBin gIx (eVar 8) (eC (.int 1)))) (eBin gSub (eBin gIx (eVar 10) (eC (.int 0))) (eBin gIx (eVar 9) (eC (.int 0)))))))
    (sSeq (sSet 12 (eIf (eBin gGt (eVar 11) (eC (.int 0))) (eC (.str "left")) (eIf (eBin gLt (eVar 11) (eC (.int 0))) (eC (.str "right")) (eC (.str "straight")))))
    (sApp 6 (eIf (eBin gGt (eCall 3 m_f_law_take (aCons (eVar 0) (aCons (eVar 1) (aCons (eC (.int 4)) aNil)))) (eC (.int 0))) (eVar 12) (eC (.str "any"))))))))))
    (sFz 6 (sApp 4 (eCB gTuple (aCons (eVar 6) aNil)))))))
    (sFz 4 (sRet (eCB gTuple (aCons (eVar 4) aNil))))))
def m_f_law_fitted : MF := bodyM 13 b_f_law_fitted
def b_f_law_fourth : MS := (sRet (eCB gMax2 (aCons (eUn gNeg (eC (.int 96))) (aCons (eBin gMul (eBin gDiv (eCB gInt (aCons (eVar 0) aNil)) (eC (.int 4))) (eC (.int 4))) aNil))))
def m_f_law_fourth : MF := bodyM 1 b_f_law_fourth
def b_f_law_straightened : MS := (sSeq (sSet 4 (eLst (eLC (List.map (fun x => x.2) ([("ring", 10)] : List (Str × Nat))) (iSeq (eVar 2)) (gVar 10) cYes (eNewC (eLC (List.map (fun x => x.2) ([("place", 5)] : List (Str × Nat))) (iSeq (eVar 10)) (gVar 5) cYes (eTup (aCons (eCall 1 m_f_law_fourth (aCons (eBin gIx (eVar 5) (eC (.int 0))) aNil)) (aCons (eCall 1 m_f_law_fourth (aCons (eBin gIx (eVar 5) (eC (.int 1))) aNil)) aNil))))))))
    (sSeq (sPar 6 7 (aCons (eCall 2 m_f_law_before (aCons (eVar 0) (aCons (eVar 1) aNil))) (aCons (eCall 2 m_f_law_next (aCons (eVar 0) (aCons (eVar 1) aNil))) aNil)))
    (sSeq (sPar 8 9 (aCons (eBin gIx (eBin gIx (eVar 4) (eBin gIx (eVar 6) (eC (.int 0)))) (eBin gIx (eVar 6) (eC (.int 1)))) (aCons (eBin gIx (eBin gIx (eVar 4) (eBin gIx (eVar 7) (eC (.int 0)))) (eBin gIx (eVar 7) (eC (.int 1)))) aNil)))
    (sSeq (sSet 5 (eTup (aCons (eBin gAdd (eBin gIx (eVar 8) (eC (.int 0))) (eBin gMul (eBin gDiv (eBin gSub (eBin gIx (eVar 9) (eC (.int 0))) (eBin gIx (eVar 8) (eC (.int 0)))) (eC (.int 4))) (eVar 3))) (aCons (eBin gAdd (eBin gIx (eVar 8) (eC (.int 1))) (eBin gMul (eBin gDiv (eBin gSub (eBin gIx (eVar 9) (eC (.int 1))) (eBin gIx (eVar 8) (eC (.int 1)))) (eC (.int 4))) (eVar 3))) aNil))))
    (sSeq (sPutC (eCall 1 m_f_law_clip (aCons (eVar 5) aNil)) (eBin gIx (eVar 4) (eBin gIx (eVar 1) (eC (.int 0)))) (eBin gIx (eVar 1) (eC (.int 1))))
    (sRet (eCB gTuple (aCons (eLst (eLC (List.map (fun x => x.2) ([("ring", 10)] : List (Str × Nat))) (iSeq (eVar 4)) (gVar 10) cYes (eCB gTuple (aCons (eVar 10) aNil)))) aNil))))))))
def m_f_law_straightened : MF := bodyM 11 b_f_law_straightened
def b_f_law_turned_ring : MS := (sSeq (sPar 6 7 (aCons (eBin gSub (eCall 3 m_f_law_take (aCons (eVar 0) (aCons (eVar 1) (aCons (eC (.int 5)) aNil)))) (eC (.int 2))) (aCons (eBin gSub (eCall 3 m_f_law_take (aCons (eVar 0) (aCons (eVar 1) (aCons (eC (.int 5)) aNil)))) (eC (.int 2))) aNil)))
    (sSeq (sIf (eOr (eAnd (eBin gEq (eVar 6) (eC (.int 0))) (eBin gEq (eVar 7) (eC (.int 0)))) (eBin gEq (eCall 3 m_f_law_take (aCons (eVar 0) (aCons (eVar 1) (aCons (eC (.int 2)) aNil)))) (eC (.int 0))))
      (sAsg (eBin gIx (eLst (aSmall (aCons (eTup (aCons (eC (.int 1)) (aCons (eC (.int 0)) aNil))) (aCons (eTup (aCons (eC (.int 0)) (aCons (eC (.int 1)) aNil))) (aCons (eTup (aCons (eUn gNeg (eC (.int 1))) (aCons (eC (.int 0)) aNil))) (aCons (eTup (aCons (eC (.int 0)) (aCons (eUn gNeg (eC (.int 1))) aNil))) aNil)))))) (eCall 3 m_f_law_take (aCons (eVar 0) (aCons (eVar 1) (aCons (eC (.int 4)) aNil))))) (gTupM 2 (gsCons (gVar 6) (gsCons (gVar 7) gsNil))))
      sNil)
    (sSeq (sSetOwn 4 (aSmall aNil))
    (sSeq (sFor (iRange1 (aCons (eVar 2) aNil)) (gVar 5)
      (sSeq (sSet 8 (eBin gIx (eCall 0 m_f_law_ways aNil) (eBin gMod (eCB gInt (aCons (eBin gDiv (eBin gMul (eC (.int 12)) (eVar 5)) (eVar 2)) aNil)) (eC (.int 12)))))
    (sApp 4 (eTup (aCons (eBin gSub (eBin gAdd (eBin gIx (eVar 3) (eC (.int 0))) (eBin gMul (eBin gIx (eVar 8) (eC (.int 0))) (eVar 6))) (eBin gMul (eBin gIx (eVar 8) (eC (.int 1))) (eVar 7))) (aCons (eBin gAdd (eBin gAdd (eBin gIx (eVar 3) (eC (.int 1))) (eBin gMul (eBin gIx (eVar 8) (eC (.int 0))) (eVar 7))) (eBin gMul (eBin gIx (eVar 8) (eC (.int 1))) (eVar 6))) aNil))))))
    (sFz 4 (sRet (eCB gTuple (aCons (eVar 4) aNil))))))))
def m_f_law_turned_ring : MF := bodyM 9 b_f_law_turned_ring
def b_f_law_turned_drawing : MS := (sSeq (sSetOwn 3 (aSmall aNil))
    (sSeq (sFor (iRange1 (aCons (eCB gLen (aCons (eVar 2) aNil)) aNil)) (gVar 4)
      (sSeq (sSet 5 (eIf (eBin gEq (eCB gLen (aCons (eVar 2) aNil)) (eC (.int 1))) (eTup (aCons (eC (.int 0)) (aCons (eC (.int 0)) aNil))) (eTup (aCons (eBin gSub (eBin gMul (eC (.int 80)) (eVar 4)) (eC (.int 40))) (aCons (eC (.int 0)) aNil)))))
    (sApp 3 (eCall 4 m_f_law_turned_ring (aCons (eVar 0) (aCons (eVar 1) (aCons (eCB gLen (aCons (eBin gIx (eVar 2) (eVar 4)) aNil)) (aCons (eVar 5) aNil))))))))
    (sFz 3 (sRet (eCB gTuple (aCons (eVar 3) aNil))))))
def m_f_law_turned_drawing : MF := bodyM 6 b_f_law_turned_drawing
def b_f_law_turned_letter : MS := (sSeq (sSetOwn 2 (aSmall aNil))
    (sSeq (sFor (iRange1 (aCons (eBin gAdd (eC (.int 1)) (eCall 3 m_f_law_take (aCons (eVar 0) (aCons (eVar 1) (aCons (eC (.int 2)) aNil))))) aNil)) (gVar 3)
      (sApp 2 (eCB gTuple (aCons (eLst (eLC (List.map (fun x => x.2) ([("k", 4)] : List (Str × Nat))) (iRange1 (aCons (eBin gAdd (eC (.int 3)) (eCall 3 m_f_law_take (aCons (eVar 0) (aCons (eVar 1) (aCons (eC (.int 2)) aNil))))) aNil)) (gVar 4) cYes (eBin gIx (eLst (aSmall (aCons (eC (.str "left")) (aCons (eC (.str "any")) aNil)))) (eCall 3 m_f_law_take (aCons (eVar 0) (aCons (eVar 1) (aCons (eC (.int 2)) aNil))))))) aNil))))
    (sFz 2 (sRet (eCB gTuple (aCons (eVar 2) aNil))))))
def m_f_law_turned_letter : MF := bodyM 5 b_f_law_turned_letter
def b_f_law_scene : MS := (sSeq (sIf (eBin gEq (eCall 3 m_f_law_take (aCons (eVar 0) (aCons (eVar 1) (aCons (eC (.int 3)) aNil)))) (eC (.int 0)))
      (sSeq (sSet 3 (eCall 2 m_f_law_turned_letter (aCons (eVar 0) (aCons (eVar 1) aNil))))
    (sRet (eTup (aCons (eVar 3) (aCons (eCB gTuple (aCons (eLst (eLC (List.map (fun x => x.2) ([("k", 9)] : List (Str × Nat))) (iRange1 (aCons (eBin gAdd (eC (.int 1)) (eCall 3 m_f_law_take (aCons (eVar 0) (aCons (eVar 1) (aCons (eVar 2) aNil))))) aNil)) (gVar 9) cYes (eCall 3 m_f_law_turned_drawing (aCons (eVar 0) (aCons (eVar 1) (aCons (eVar 3) aNil)))))) aNil)) aNil)))))
      sNil)
    (sSeq (sSet 3 (eCall 2 m_f_law_letter (aCons (eVar 0) (aCons (eVar 1) aNil))))
    (sSeq (sSet 4 (eCall 4 m_f_law_masters (aCons (eVar 0) (aCons (eVar 1) (aCons (eVar 3) (aCons (eVar 2) aNil))))))
    (sSeq (sIf (eBin gEq (eCall 3 m_f_law_take (aCons (eVar 0) (aCons (eVar 1) (aCons (eC (.int 3)) aNil)))) (eC (.int 0)))
      (sSeq (sSet 5 (eCall 3 m_f_law_pick (aCons (eVar 0) (aCons (eVar 1) (aCons (eCall 1 m_f_law_corners (aCons (eVar 3) aNil)) aNil)))))
    (sIf (eBin gGt (eCB gLen (aCons (eBin gIx (eVar 3) (eBin gIx (eVar 5) (eC (.int 0)))) aNil)) (eC (.int 3)))
      (sSeq (sSet 6 (eBin gAdd (eC (.int 1)) (eCall 3 m_f_law_take (aCons (eVar 0) (aCons (eVar 1) (aCons (eC (.int 3)) aNil))))))
    (sSeq (sSetOwn 7 (aSmall aNil))
    (sSeq (sFor (iSeq (eVar 4)) (gVar 8)
      (sSeq (sApp 7 (eCall 4 m_f_law_straightened (aCons (eVar 3) (aCons (eVar 5) (aCons (eVar 8) (aCons (eVar 6) aNil))))))
    (sSet 6 (eBin gIx (eLst (aSmall (aCons (eVar 6) (aCons (eVar 6) (aCons (eC (.int 1)) (aCons (eC (.int 2)) (aCons (eC (.int 3)) (aCons (eC (.int 5)) (aCons (eC (.int 0)) aNil))))))))) (eCall 3 m_f_law_take (aCons (eVar 0) (aCons (eVar 1) (aCons (eC (.int 7)) aNil))))))))
    (sFz 7 (sSet 4 (eCB gTuple (aCons (eVar 7) aNil)))))))
      sNil))
      sNil)
    (sSeq (sIf (eBin gGt (eCall 3 m_f_law_take (aCons (eVar 0) (aCons (eVar 1) (aCons (eC (.int 5)) aNil)))) (eC (.int 0)))
      (sSet 3 (eCall 4 m_f_law_fitted (aCons (eVar 0) (aCons (eVar 1) (aCons (eVar 3) (aCons (eBin gIx (eVar 4) (eC (.int 0))) aNil))))))
      sNil)
    (sRet (eTup (aCons (eVar 3) (aCons (eVar 4) aNil)))))))))
def m_f_law_scene : MF := bodyM 10 b_f_law_scene
def b_f_law_changed_part (r : MF) : MS := (sSeq (sIf (eAnd (eUn (gIsi [.tup]) (eVar 2)) (eAnd (eBin gGt (eCB gLen (aCons (eVar 2) aNil)) (eC (.int 0))) (eBin gGt (eCall 3 m_f_law_take (aCons (eVar 0) (aCons (eVar 1) (aCons (eC (.int 6)) aNil)))) (eC (.int 0)))))
      (sSeq (sSet 4 (eCall 3 m_f_law_take (aCons (eVar 0) (aCons (eVar 1) (aCons (eCB gLen (aCons (eVar 2) aNil)) aNil)))))
    (sRet (eBin gAdd (eBin gAdd (eSl (eVar 2) oNo (oOf (eVar 4))) (eTup (aCons (eCall 3 r (aCons (eVar 0) (aCons (eVar 1) (aCons (eBin gIx (eVar 2) (eVar 4)) aNil)))) aNil))) (eSl (eVar 2) (oOf (eBin gAdd (eVar 4) (eC (.int 1)))) oNo))))
      sNil)
    (sSeq (sSet 3 (eCall 3 m_f_law_take (aCons (eVar 0) (aCons (eVar 1) (aCons (eC (.int 5)) aNil)))))
    (sSeq (sIf (eAnd (eUn (gIsi [.tup]) (eVar 2)) (eAnd (eBin gEq (eVar 3) (eC (.int 0))) (eBin gGt (eCB gLen (aCons (eVar 2) aNil)) (eC (.int 0)))))
      (sRet (eBin gAdd (eVar 2) (eSl (eVar 2) oNo (oOf (eC (.int 1))))))
      sNil)
    (sSeq (sIf (eAnd (eUn (gIsi [.tup]) (eVar 2)) (eAnd (eBin gEq (eVar 3) (eC (.int 1))) (eBin gGt (eCB gLen (aCons (eVar 2) aNil)) (eC (.int 0)))))
      (sRet (eSl (eVar 2) (oOf (eC (.int 1))) oNo))
      sNil)
    (sSeq (sIf (eAnd (eUn (gIsi [.int]) (eVar 2)) (eBin gLt (eVar 3) (eC (.int 3))))
      (sRet (eBin gIx (eLst (aSmall (aCons (eBin gAdd (eVar 2) (eC (.int 1))) (aCons (eC (.int 99)) (aCons (eC (.int 100)) (aCons (eUn gNeg (eC (.int 99))) (aCons (eUn gNeg (eC (.int 100))) (aCons (eC .non) (aCons (eC (.bl true)) (aCons (eC (.int 0)) aNil)))))))))) (eCall 3 m_f_law_take (aCons (eVar 0) (aCons (eVar 1) (aCons (eC (.int 8)) aNil))))))
      sNil)
    (sSeq (sIf (eAnd (eUn (gIsi [.str]) (eVar 2)) (eBin gLt (eVar 3) (eC (.int 3))))
      (sRet (eBin gIx (eLst (aSmall (aCons (eC (.str "any")) (aCons (eC (.str "left")) (aCons (eC (.str "right")) (aCons (eC (.str "straight")) (aCons (eC (.str "Any")) (aCons (eC (.str "")) (aCons (eC (.str "lef")) (aCons (eC (.str "any ")) aNil)))))))))) (eCall 3 m_f_law_take (aCons (eVar 0) (aCons (eVar 1) (aCons (eC (.int 8)) aNil))))))
      sNil)
    (sRet (eBin gIx (eLst (aSmall (aCons (eC .non) (aCons (eC (.int 7)) (aCons (eC (.bl true)) (aCons (eC (.str "")) (aCons (eTup aNil) (aCons (eTup (aCons (eC (.int 0)) (aCons (eC (.int 0)) aNil))) (aCons (eTup (aCons (eC (.str "any")) (aCons (eC (.str "any")) (aCons (eC (.str "any")) aNil)))) (aCons (eC (.str "any")) aNil)))))))))) (eCall 3 m_f_law_take (aCons (eVar 0) (aCons (eVar 1) (aCons (eC (.int 8)) aNil))))))))))))
def m_f_law_changed_part : Nat → MF
  | 0 => mBad
  | k + 1 => bodyM 5 (b_f_law_changed_part (m_f_law_changed_part k))
def b_f_law_told : MS := (sTry 1 "BadValue" (sRet (eCall 2 m_is_drawing (aCons (eVar 0) (aCons (eC (.int 7)) aNil)))) (hTup "bad" "at"))
def m_f_law_told : MF := bodyM 2 b_f_law_told
def b_law : MS := (sSeq (sSet 1 (eCall 1 m_f_law_numbers (aCons (eVar 0) aNil)))
    (sSeq (sSetCell 2 (aSmall (aCons (eC (.int 0)) aNil)))
    (sSeq (sAsg (eCall 3 m_f_law_scene (aCons (eVar 1) (aCons (eVar 2) (aCons (eC (.int 2)) aNil)))) (gTupM 2 (gsCons (gVar 6) (gsCons (gVar 7) gsNil))))
    (sSeq (sSet 3 (eCall 3 m_f_law_handed (aCons (eVar 1) (aCons (eVar 2) (aCons (eVar 6) aNil)))))
    (sSeq (sIf (eOr (eNot (eCall 2 (m_f_law_so 12) (aCons (eCall 1 m_is_letter (aCons (eVar 3) aNil)) (aCons (eC (.bl true)) aNil)))) (eNot (eCall 2 (m_f_law_so 12) (aCons (eCall 1 (m_f_law_tupled 12) (aCons (eVar 3) aNil)) (aCons (eVar 6) aNil)))))
      (sRet (eC (.bl false)))
      sNil)
    (sSeq (sFor (iRange1 (aCons (eC (.int 6)) aNil)) (gVar 4)
      (sSeq (sSet 8 (eCall 3 (m_f_law_changed_part 12) (aCons (eVar 1) (aCons (eVar 2) (aCons (eVar 6) aNil)))))
    (sSeq (sIf (eNot (eCall 2 (m_f_law_so 12) (aCons (eCall 1 m_is_letter (aCons (eCall 3 m_f_law_handed (aCons (eVar 1) (aCons (eVar 2) (aCons (eVar 8) aNil)))) aNil)) (aCons (eCall 1 m_f_law_is_letter (aCons (eVar 8) aNil)) aNil))))
      (sRet (eC (.bl false)))
      sNil)
    (sSeq (sIf (eAnd (eNot (eCall 1 m_f_law_is_letter (aCons (eVar 8) aNil))) (eNot (eCall 2 (m_f_law_so 12) (aCons (eCall 1 m_f_law_told (aCons (eCall 3 m_f_law_handed (aCons (eVar 1) (aCons (eVar 2) (aCons (eVar 8) aNil)))) aNil)) (aCons (eTup (aCons (eC (.str "bad")) (aCons (eC (.int 0)) aNil))) aNil)))))
      (sRet (eC (.bl false)))
      sNil)
    (sSeq (sSet 9 (eCall 3 (m_f_law_changed_part 12) (aCons (eVar 1) (aCons (eVar 2) (aCons (eBin gIx (eVar 7) (eC (.int 0))) aNil)))))
    (sIf (eNot (eCall 2 (m_f_law_so 12) (aCons (eCall 2 m_is_drawing (aCons (eCall 3 m_f_law_handed (aCons (eVar 1) (aCons (eVar 2) (aCons (eVar 6) aNil)))) (aCons (eCall 3 m_f_law_handed (aCons (eVar 1) (aCons (eVar 2) (aCons (eVar 9) aNil)))) aNil))) (aCons (eCall 2 m_f_law_is_drawing (aCons (eVar 6) (aCons (eVar 9) aNil))) aNil))))
      (sRet (eC (.bl false)))
      sNil))))))
    (sSeq (sFor (iSeq (eTup (aCons (eTup (aCons (eC (.int 3)) (aCons (eC (.int 3)) (aCons (eC (.int 4)) aNil)))) (aCons (eTup (aCons (eC (.int 3)) (aCons (eC (.int 4)) (aCons (eC (.int 4)) aNil)))) (aCons (eTup (aCons (eC (.int 8)) aNil)) (aCons (eTup (aCons (eC (.int 9)) aNil)) (aCons (eTup (aCons (eC (.int 2)) aNil)) (aCons (eTup (aCons (eC (.int 3)) (aCons (eC (.int 7)) aNil))) (aCons (eTup (aCons (eC (.int 4)) (aCons (eC (.int 7)) aNil))) (aCons (eTup (aCons (eC (.int 3)) (aCons (eC (.int 3)) (aCons (eC (.int 3)) (aCons (eC (.int 3)) aNil))))) (aCons (eTup aNil) (aCons (eTup (aCons (eC (.int 10)) aNil)) (aCons (eTup (aCons (eC (.int 5)) (aCons (eC (.int 5)) aNil))) (aCons (eTup (aCons (eC (.int 3)) (aCons (eC (.int 3)) (aCons (eC (.int 3)) aNil)))) aNil)))))))))))))) (gVar 5)
      (sSeq (sSet 10 (eCB gTuple (aCons (eLst (eLC (List.map (fun x => x.2) ([("many", 11)] : List (Str × Nat))) (iSeq (eVar 5)) (gVar 11) cYes (eSl (eTup (aCons (eC (.str "any")) (aCons (eC (.str "left")) (aCons (eC (.str "right")) (aCons (eC (.str "straight")) (aCons (eC (.str "any")) (aCons (eC (.str "any")) (aCons (eC (.str "any")) (aCons (eC (.str "any")) (aCons (eC (.str "any")) (aCons (eC (.str "any")) aNil))))))))))) oNo (oOf (eVar 11))))) aNil)))
    (sIf (eNot (eCall 2 (m_f_law_so 12) (aCons (eCall 1 m_is_letter (aCons (eCall 3 m_f_law_handed (aCons (eVar 1) (aCons (eVar 2) (aCons (eVar 10) aNil)))) aNil)) (aCons (eCall 1 m_f_law_is_letter (aCons (eVar 10) aNil)) aNil))))
      (sRet (eC (.bl false)))
      sNil)))
    (sRet (eC (.bl true))))))))))
def m_law : MF := bodyM 12 b_law
end
end KF
end

section
namespace KF
open PySem L2
/-! ### what each construct means, at slots and a store (printed by eqgen.py) -/
/-- a statement, at slots and a store -/
def WS (s : MS) (ρ : Env) (S : Sto) (G : RS → Prop) : Prop := G (s ρ S)
theorem q_eVar (i : Nat) (ρ : Env) (S : Sto) : eVar i ρ S = (match ρ[i]? with
  | some (.val d) => .ok d S
  | _ => .bad) := rfl
theorem q_eC (d : D) (ρ : Env) (S : Sto) : eC d ρ S = (.ok d S) := rfl
theorem q_eBin (g : G2) (m1 m2 : ME) (ρ : Env) (S : Sto) : eBin g m1 m2 ρ S = ((m1 ρ S).bind fun d1 S1 => (m2 ρ S1).bind fun d2 S2 => op2 g d1 d2 S2) := rfl
theorem q_eChain (g g' : G2) (m1 m2 m3 : ME) (ρ : Env) (S : Sto) : eChain g g' m1 m2 m3 ρ S = ((m1 ρ S).bind fun d1 S1 => (m2 ρ S1).bind fun d2 S2 => match g d1 d2 S2 with
  | some (.bl true) => (m3 ρ S2).bind fun d3 S3 => op2 g' d2 d3 S3
  | some (.bl false) => .ok (.bl false) S2
  | _ => .bad) := rfl
theorem q_eUn (g : G1) (m : ME) (ρ : Env) (S : Sto) : eUn g m ρ S = ((m ρ S).bind fun d S1 => op1 g d S1) := rfl
theorem q_eNot (m : ME) (ρ : Env) (S : Sto) : eNot m ρ S = ((m ρ S).bind fun d S1 => match d with
  | .bl b => .ok (.bl (!b)) S1
  | _ => .bad) := rfl
theorem q_eAnd (m1 m2 : ME) (ρ : Env) (S : Sto) : eAnd m1 m2 ρ S = ((m1 ρ S).bind fun d S1 => match d with
  | .bl true => m2 ρ S1
  | .bl false => .ok (.bl false) S1
  | _ => .bad) := rfl
theorem q_eOr (m1 m2 : ME) (ρ : Env) (S : Sto) : eOr m1 m2 ρ S = ((m1 ρ S).bind fun d S1 => match d with
  | .bl true => .ok (.bl true) S1
  | .bl false => m2 ρ S1
  | _ => .bad) := rfl
theorem q_eIf (m m1 m2 : ME) (ρ : Env) (S : Sto) : eIf m m1 m2 ρ S = ((m ρ S).bind fun d S1 => match d with
  | .bl true => m1 ρ S1
  | .bl false => m2 ρ S1
  | _ => .bad) := rfl
theorem q_aNil (ρ : Env) (S : Sto) : aNil ρ S = (.ok [] S) := rfl
theorem q_aCons (m : ME) (ma : MA) (ρ : Env) (S : Sto) : aCons m ma ρ S = ((m ρ S).bind fun d S1 => (ma ρ S1).bind fun ds S2 => .ok (d :: ds) S2) := rfl
theorem q_eTup (ma : MA) (ρ : Env) (S : Sto) : eTup ma ρ S = ((ma ρ S).bind fun ds S1 => if ds.length ≤ 1000 then .ok (.tup ds) S1 else .bad) := rfl
theorem q_eLst (ma : MA) (ρ : Env) (S : Sto) : eLst ma ρ S = ((ma ρ S).bind fun ds S1 => .ok (.lst ds) S1) := rfl
theorem q_aSmall (ma : MA) (ρ : Env) (S : Sto) : aSmall ma ρ S = ((ma ρ S).bind fun ds S1 => if ds.length ≤ 1000 then .ok ds S1 else .bad) := rfl
theorem q_eCB (g : GL) (ma : MA) (ρ : Env) (S : Sto) : eCB g ma ρ S = ((ma ρ S).bind fun ds S1 => opL g ds S1) := rfl
theorem q_eIxOwn (i : Nat) (m : ME) (ρ : Env) (S : Sto) : eIxOwn i m ρ S = (match ρ[i]? with
  | some (.own xs) => (m ρ S).bind fun d S1 => op1 (gAt xs) d S1
  | _ => .bad) := rfl
theorem q_eLenOwn (i : Nat) (ρ : Env) (S : Sto) : eLenOwn i ρ S = (match ρ[i]? with
  | some (.own xs) => .ok (.int xs.length) S
  | _ => .bad) := rfl
theorem q_oNo (ρ : Env) (S : Sto) : oNo ρ S = (.ok none S) := rfl
theorem q_oOf (m : ME) (ρ : Env) (S : Sto) : oOf m ρ S = ((m ρ S).bind fun d S1 => match d with
  | .int i => .ok (some i) S1
  | _ => .bad) := rfl
theorem q_eSl (m : ME) (ml mh : MO) (ρ : Env) (S : Sto) : eSl m ml mh ρ S = ((m ρ S).bind fun d S1 => (ml ρ S1).bind fun lo S2 => (mh ρ S2).bind fun hi S3 => match gSl d lo hi with
  | some d => .ok d S3
  | none => .bad) := rfl
theorem q_eCall (n : Nat) (m : MF) (ma : MA) (ρ : Env) (S : Sto) : eCall n m ma ρ S = ((ma ρ S).bind fun ds S1 => if ds.length = n then m ds S1 else .bad) := rfl
theorem q_eCallK (np n : Nat) (m : MF) (ma mk : MA) (ρ : Env) (S : Sto) : eCallK np n m ma mk ρ S = ((ma ρ S).bind fun ds S1 => (mk ρ S1).bind fun es S2 => if ds.length = np then (if (ds ++ es).length = n then m (ds ++ es) S2 else .bad) else .bad) := rfl
theorem q_iSeq (m : ME) (ρ : Env) (S : Sto) : iSeq m ρ S = ((m ρ S).bind fun d S1 => match d with
  | .lst xs => .ok xs S1
  | .tup xs => .ok xs S1
  | .scr xs => .ok xs S1
  | _ => .bad) := rfl
theorem q_iRange1 (ma : MA) (ρ : Env) (S : Sto) : iRange1 ma ρ S = ((ma ρ S).bind fun ds S1 => match ds with
  | [.int b] => if rngOk 0 b then .ok (rangeD 0 b.toNat) S1 else .bad
  | _ => .bad) := rfl
theorem q_iRange2 (ma : MA) (ρ : Env) (S : Sto) : iRange2 ma ρ S = ((ma ρ S).bind fun ds S1 => match ds with
  | [.int a, .int b] => if rngOk a b then .ok (rangeD a (b - a).toNat) S1 else .bad
  | _ => .bad) := rfl
theorem q_cYes (ρ : Env) (S : Sto) : cYes ρ S = (.ok (.bl true) S) := rfl
theorem q_eLC (vs : List Nat) (mi : MI) (mg : MG) (mt me : ME) (ρ : Env) (S : Sto) : eLC vs mi mg mt me ρ S = ((mi ρ S).bind fun items S1 => noX (lcLoop mg mt me (wipeE ρ vs) items [] S1)) := rfl
theorem q_sExp {α : Type} (m : Env → Sto → Rs α) (k : α → Env → Sto → RS) (ρ : Env) (S : Sto) : sExp m k ρ S = (match m ρ S with
  | .ok d S1 => k d ρ S1
  | .exc C f S1 => .exc C f ρ S1
  | .bad => .bad) := rfl
theorem q_sNil (ρ : Env) (S : Sto) : sNil ρ S = (.next ρ S) := rfl
theorem q_sSeq (s1 s2 : MS) (ρ : Env) (S : Sto) : sSeq s1 s2 ρ S = (match s1 ρ S with
  | .next ρ1 S1 => s2 ρ1 S1
  | r => r) := rfl
theorem q_sBad (ρ : Env) (S : Sto) : sBad ρ S = (.bad) := rfl
theorem q_sBrk (ρ : Env) (S : Sto) : sBrk ρ S = (.brk ρ S) := rfl
theorem q_sCont (ρ : Env) (S : Sto) : sCont ρ S = (.cont ρ S) := rfl
theorem q_sRet (m : ME) (ρ : Env) (S : Sto) : sRet m ρ S = (sExp m fun d _ S => .ret d S) ρ S := rfl
theorem q_sRetN (ρ : Env) (S : Sto) : sRetN ρ S = (.ret .non S) := rfl
theorem q_sDrop (m : ME) (ρ : Env) (S : Sto) : sDrop m ρ S = (sExp m fun _ ρ S => .next ρ S) ρ S := rfl
theorem q_sIf (m : ME) (s1 s2 : MS) (ρ : Env) (S : Sto) : sIf m s1 s2 ρ S = (sExp m fun d ρ S => match d with
  | .bl true => s1 ρ S
  | .bl false => s2 ρ S
  | _ => .bad) ρ S := rfl
theorem q_sSet (i : Nat) (m : ME) (ρ : Env) (S : Sto) : sSet i m ρ S = (sExp m fun d ρ S => .next (ρ.set i (.val d)) S) ρ S := rfl
theorem q_sSetOwn (i : Nat) (m : MA) (ρ : Env) (S : Sto) : sSetOwn i m ρ S = (sExp m fun xs ρ S => .next (ρ.set i (.own xs)) S) ρ S := rfl
theorem q_sFz (i : Nat) (s : MS) (ρ : Env) (S : Sto) : sFz i s ρ S = (s (frz1 i ρ) S) := rfl
theorem q_sApp (i : Nat) (m : ME) (ρ : Env) (S : Sto) : sApp i m ρ S = (match ownOf i ρ with
  | some xs => sExp m (fun d ρ S => if xs.length < 10000 then .next (ρ.set i (.own (xs ++ [d]))) S else .bad) ρ S
  | none => .bad) := rfl
theorem q_sPut (i : Nat) (m mk : ME) (ρ : Env) (S : Sto) : sPut i m mk ρ S = (sExp m fun d ρ S => match ownOf i ρ with
  | some xs => sExp mk (fun k ρ S => match k with
    | .int k => (match ixN xs.length k with
      | some j => .next (ρ.set i (.own (xs.set j d))) S
      | none => .bad)
    | _ => .bad) ρ S
  | none => .bad) ρ S := rfl
theorem q_sPutC (m mo mk : ME) (ρ : Env) (S : Sto) : sPutC m mo mk ρ S = (sExp m fun d ρ S => sExp mo (fun o ρ S => sExp mk (fun k ρ S => match o, k with
  | .cell n, .int k => (match S[n]? with
    | some xs => (match ixN xs.length k with
      | some j => .next ρ (S.set n (xs.set j d))
      | none => .bad)
    | none => .bad)
  | _, _ => .bad) ρ S) ρ S) ρ S := rfl
theorem q_sSetCell (i : Nat) (m : MA) (ρ : Env) (S : Sto) : sSetCell i m ρ S = (sExp m fun xs ρ S => .next (ρ.set i (.val (.cell S.length))) (S ++ [xs])) ρ S := rfl
theorem q_sAsg (m : ME) (mg : MG) (ρ : Env) (S : Sto) : sAsg m mg ρ S = (sExp m fun d ρ S => match mg d ρ with
  | some ρ1 => .next ρ1 S
  | none => .bad) ρ S := rfl
theorem q_sPar (i j : Nat) (ma : MA) (ρ : Env) (S : Sto) : sPar i j ma ρ S = (sExp ma fun ds ρ S => match ds with
  | [d1, d2] => .next ((ρ.set i (.val d1)).set j (.val d2)) S
  | _ => .bad) ρ S := rfl
theorem q_sPar3 (i j l : Nat) (ma : MA) (ρ : Env) (S : Sto) : sPar3 i j l ma ρ S = (sExp ma fun ds ρ S => match ds with
  | [d1, d2, d3] => .next (((ρ.set i (.val d1)).set j (.val d2)).set l (.val d3)) S
  | _ => .bad) ρ S := rfl
theorem q_sFor (mi : MI) (mg : MG) (sb : MS) (ρ : Env) (S : Sto) : sFor mi mg sb ρ S = (sExp mi fun items ρ S => forL mg sb items ρ S) ρ S := rfl
theorem q_eCallL (i n : Nat) (tb : List (Str × MF)) (ma : MA) (ρ : Env) (S : Sto) : eCallL i n tb ma ρ S = (match ρ[i]? with
  | some (.val (.fn y)) => match tb.lookup y with
    | some m => (ma ρ S).bind fun ds S1 => if ds.length = n then m ds S1 else .bad
    | none => .bad
  | _ => .bad) := rfl
theorem q_eLC2 (vs : List Nat) (mi : MI) (mg : MG) (mt : ME) (vs1 : List Nat) (mi1 : MI) (mg1 : MG) (mt1 me : ME) (ρ : Env) (S : Sto) : eLC2 vs mi mg mt vs1 mi1 mg1 mt1 me ρ S = ((mi ρ S).bind fun items S1 => noX ((lcLoop2 mg mt mi1 mg1 mt1 me vs1 (wipeE ρ vs) items [] S1).bind fun xs S => if xs.length ≤ 10000 then .ok xs S else .bad)) := rfl
theorem q_eNewC (ma : MA) (ρ : Env) (S : Sto) : eNewC ma ρ S = ((ma ρ S).bind fun xs S1 => .ok (.cell S1.length) (S1 ++ [xs])) := rfl
theorem q_iZip (ma : MA) (ρ : Env) (S : Sto) : iZip ma ρ S = ((ma ρ S).bind fun ds S1 => match ds with
  | [d1, d2] => (match frzD d1, frzD d2 with
    | some xs, some ys => .ok (zipD xs ys) S1
    | _, _ => .bad)
  | _ => .bad) := rfl
theorem q_sRaise (x f : Str) (m : ME) (ρ : Env) (S : Sto) : sRaise x f m ρ S = (sExp m fun d ρ S => .exc x (some (f, d)) ρ S) ρ S := rfl
theorem q_sTry (i : Nat) (x : Str) (mb : MS) (h : XF → Option D) (ρ : Env) (S : Sto) : sTry i x mb h ρ S = (match mb ρ S with
  | .exc C fx ρ1 S1 => if C = x ∧ i < ρ1.length then (match h fx with
    | some d => .ret d S1
    | none => .bad) else .bad
  | r => r) := rfl
theorem q_max2 {i j : Int} {S : Sto} : gMax2 [.int i, .int j] S = some (.int (max i j)) := by
  unfold gMax2
  simp only
  congr 2
  by_cases h : i < j <;> simp [h] <;> omega
theorem q_min2 {i j : Int} {S : Sto} : gMin2 [.int i, .int j] S = some (.int (min i j)) := by
  unfold gMin2
  simp only
  congr 2
  by_cases h : j < i <;> simp [h] <;> omega
theorem e62 : (2 : Int) ^ 62 = 4611686018427387904 := by decide +kernel
theorem rng_ok {n : Nat} (hn : n ≤ 20000) : rngOk 0 (n : Int) := by
  unfold rngOk
  rw [e62]
  refine ⟨?_, ?_, ?_, ?_, ?_⟩ <;> omega
theorem rng1 {ma : MA} {ρ : Env} {S S1 : Sto} {n : Nat} (h : ma ρ S = .ok [.int (n : Int)] S1) (hn : n ≤ 20000) : iRange1 ma ρ S = .ok (rangeD 0 n) S1 := by
  unfold iRange1
  rw [h]
  simp only [Rs.bind]
  rw [if_pos (rng_ok hn), Int.toNat_natCast]
end KF
end

section
namespace KF
open PySem
/-! ### numbers -/
theorem can_int (i : Int) : SeqAt.shaped (.int i) = true := by
  unfold SeqAt.shaped
  simp [PyData.canLay0, PyData.depth]
theorem q_eq_int {i j : Int} {S : Sto} : gEq (.int i) (.int j) S = some (.bl (decide (i = j))) := by
  unfold gEq eqG
  simp only [toP, can_int]
  simp [PyData.eqv]
  exact Bool.beq_eq_decide_eq i j
theorem q_ne_int {i j : Int} {S : Sto} : gNe (.int i) (.int j) S = some (.bl (decide (i ≠ j))) := by
  unfold gNe eqG
  simp only [toP, can_int]
  simp [PyData.eqv]
  by_cases h : i = j
  · simp [h]
  · simp [h]
theorem q_div {i j : Int} {S : Sto} (h0 : 0 < j) (h1 : j < 2 ^ 64) : gDiv (.int i) (.int j) S = some (.int (i / j)) := by
  unfold gDiv
  have hl : j.natAbs.log2 < 9000 := by
    have : j.natAbs < 2 ^ 64 := by omega
    have := (Nat.log2_lt (n := j.natAbs) (k := 64) (by omega)).mpr this
    omega
  simp only [hl, and_true]
  rw [if_pos (by omega), Int.fdiv_eq_ediv_of_nonneg _ (by omega)]
theorem q_mod {i j : Int} {S : Sto} (h0 : 0 < j) : gMod (.int i) (.int j) S = some (.int (i % j)) := by
  unfold gMod
  simp only
  rw [if_pos (by omega), Int.fmod_eq_emod_of_nonneg _ (by omega)]
theorem q_mul {i j : Int} {S : Sto} (h : i.natAbs < 2 ^ 64 ∨ j.natAbs < 2 ^ 64) : gMul (.int i) (.int j) S = some (.int (i * j)) := by
  unfold gMul
  simp only
  rw [if_pos (.inl h)]
theorem atI_nat {α : Type} {xs : List α} {i : Nat} (h : i < xs.length) : L2.atI xs (i : Int) = some xs[i] := by
  unfold L2.atI L2.ixN
  rw [if_pos (by omega), if_pos (by omega)]
  simp
theorem atI_mem {α : Type} {xs : List α} {k : Int} (h0 : 0 ≤ k) (h : k < xs.length) : ∃ d, L2.atI xs k = some d ∧ d ∈ xs := by
  obtain ⟨n, rfl⟩ := Int.eq_ofNat_of_zero_le h0
  have h' : n < xs.length := by omega
  exact ⟨xs[n], atI_nat h', List.getElem_mem h'⟩
theorem atI_int {xs : List Int} {k : Int} (h0 : 0 ≤ k) (h : k < xs.length) : ∃ i, L2.atI (xs.map D.int) k = some (.int i) := by
  obtain ⟨d, e, m⟩ := atI_mem (xs := xs.map D.int) h0 (by rw [List.length_map]; exact h)
  obtain ⟨i, _, rfl⟩ := List.mem_map.mp m
  exact ⟨i, e⟩
theorem ten_size {n : Nat} (h : n ≤ 10000) : n ≤ sizeLine := Nat.le_trans h tenk
/-! ### the row of numbers; the place in it -/
def RowOk (row : D) : Prop := ∃ ns : List Int, row = .lst (ns.map .int) ∧ 0 < ns.length
def Sp (S : Sto) : Prop := ∃ (j : Int) (r : Sto), S = [.int j] :: r ∧ 0 ≤ j
theorem draw_ok {row : D} (hr : RowOk row) {a lim : Int} (ha : 0 ≤ a) (hl : 0 < lim) (S : Sto) : ∃ k, m_f_law_draw [row, .int a, .int lim] S = .ok (.int k) S ∧ 0 ≤ k ∧ k < lim := by
  obtain ⟨ns, rfl, hn⟩ := hr
  have hb : ∀ i : Int, 0 ≤ i % lim ∧ i % lim < lim := fun i => ⟨Int.emod_nonneg _ (by omega), Int.emod_lt_of_pos _ hl⟩
  unfold m_f_law_draw b_f_law_draw
  by_cases h : a < ns.length
  · obtain ⟨i, e⟩ := atI_int ha h
    refine ⟨i % lim, ?_, hb i⟩
    simp [bodyM, startE, q_eVar, q_eC, q_eBin, q_eChain, q_eUn, q_eNot, q_eAnd, q_eOr, q_eIf, q_aNil, q_aCons, q_eTup, q_eLst, q_aSmall, q_eCB, q_eIxOwn, q_eLenOwn, q_oNo, q_oOf, q_eSl, q_eCall, q_eCallK, q_iSeq, q_cYes, q_eLC, q_sExp, q_sNil, q_sSeq, q_sBad, q_sBrk, q_sCont, q_sRet, q_sRetN, q_sDrop, q_sIf, q_sSet, q_sSetOwn, q_sFz, q_sApp, q_sPut, q_sPutC, q_sSetCell, q_sAsg, q_sPar, q_sPar3, q_eCallL, q_eLC2, q_eNewC, q_iZip, q_sRaise, q_sTry, Rs.bind, op1, op2, opL, gAdd, gSub, gI2, gLt, gLe, gGt, gGe, gCmp, gIx, gLen, gInt, seqOf, gNeg, q_max2, q_min2, gTuple, gVar, gTupM, gsCons, gsNil, frz1, ownOf, noX, wipeE, h, e, q_mod hl]
  · have hp : (0 : Int) < ns.length := by omega
    obtain ⟨i, e⟩ := atI_int (xs := ns) (Int.emod_nonneg a (by omega)) (Int.emod_lt_of_pos a hp)
    refine ⟨((i * 40692 + a * 7919 + 3) % 2147483399 * 48271 + a) % 2147483647 % lim, ?_, hb _⟩
    simp [bodyM, startE, q_eVar, q_eC, q_eBin, q_eChain, q_eUn, q_eNot, q_eAnd, q_eOr, q_eIf, q_aNil, q_aCons, q_eTup, q_eLst, q_aSmall, q_eCB, q_eIxOwn, q_eLenOwn, q_oNo, q_oOf, q_eSl, q_eCall, q_eCallK, q_iSeq, q_cYes, q_eLC, q_sExp, q_sNil, q_sSeq, q_sBad, q_sBrk, q_sCont, q_sRet, q_sRetN, q_sDrop, q_sIf, q_sSet, q_sSetOwn, q_sFz, q_sApp, q_sPut, q_sPutC, q_sSetCell, q_sAsg, q_sPar, q_sPar3, q_eCallL, q_eLC2, q_eNewC, q_iZip, q_sRaise, q_sTry, Rs.bind, op1, op2, opL, gAdd, gSub, gI2, gLt, gLe, gGt, gGe, gCmp, gIx, gLen, gInt, seqOf, gNeg, q_max2, q_min2, gTuple, gVar, gTupM, gsCons, gsNil, frz1, ownOf, noX, wipeE, h, e, q_mod hl, q_mod hp, q_mod, q_mul]
theorem take_ok {row : D} (hr : RowOk row) {lim : Int} (hl : 0 < lim) {S : Sto} (hs : Sp S) : ∃ k S', m_f_law_take [row, .cell 0, .int lim] S = .ok (.int k) S' ∧ (0 ≤ k ∧ k < lim) ∧ Sp S' := by
  obtain ⟨j, r, rfl, hj⟩ := hs
  obtain ⟨k, e, h⟩ := draw_ok hr hj hl ([.int (j + 1)] :: r)
  refine ⟨k, [.int (j + 1)] :: r, ?_, h, j + 1, r, rfl, by omega⟩
  unfold m_f_law_take b_f_law_take
  have e1 : j + 1 - 1 = j := by omega
  simp [bodyM, startE, q_eVar, q_eC, q_eBin, q_eChain, q_eUn, q_eNot, q_eAnd, q_eOr, q_eIf, q_aNil, q_aCons, q_eTup, q_eLst, q_aSmall, q_eCB, q_eIxOwn, q_eLenOwn, q_oNo, q_oOf, q_eSl, q_eCall, q_eCallK, q_iSeq, q_cYes, q_eLC, q_sExp, q_sNil, q_sSeq, q_sBad, q_sBrk, q_sCont, q_sRet, q_sRetN, q_sDrop, q_sIf, q_sSet, q_sSetOwn, q_sFz, q_sApp, q_sPut, q_sPutC, q_sSetCell, q_sAsg, q_sPar, q_sPar3, q_eCallL, q_eLC2, q_eNewC, q_iZip, q_sRaise, q_sTry, Rs.bind, op1, op2, opL, gAdd, gSub, gI2, gLt, gLe, gGt, gGe, gCmp, gIx, gLen, gInt, seqOf, gNeg, q_max2, q_min2, gTuple, gVar, gTupM, gsCons, gsNil, frz1, ownOf, noX, wipeE, L2.atI, L2.ixN, e1, e]
/-! ### statements and loops -/
section
variable {s s1 s2 e2 : MS} {m m1 mo mk : ME} {ma : MA} {ρ : Env} {S S1 : Sto} {G : RS → Prop} {i n : Nat} {d : D} {xs : List D}
theorem sq_ (h : WS s1 ρ S fun r => ∃ ρ1 S1, r = .next ρ1 S1 ∧ WS s2 ρ1 S1 G) : WS (sSeq s1 s2) ρ S G := by
  obtain ⟨ρ1, S1, e, h⟩ := h
  unfold WS sSeq
  rw [e]
  exact h
theorem ws_set (h : m ρ S = .ok d S1) (g : G (.next (ρ.set i (.val d)) S1)) : WS (sSet i m) ρ S G := by
  unfold WS sSet sExp
  rw [h]
  exact g
theorem sq_set (h : m ρ S = .ok d S1) (g : WS s2 (ρ.set i (.val d)) S1 G) : WS (sSeq (sSet i m) s2) ρ S G := sq_ (ws_set h ⟨_, _, rfl, g⟩)
theorem sq_setOwn (h : ma ρ S = .ok xs S1) (g : WS s2 (ρ.set i (.own xs)) S1 G) : WS (sSeq (sSetOwn i ma) s2) ρ S G := by
  refine sq_ ?_
  unfold WS sSetOwn sExp
  rw [h]
  exact ⟨_, _, rfl, g⟩
theorem ws_app (ho : ownOf i ρ = some xs) (h : m ρ S = .ok d S1) (hz : xs.length < 10000) (g : G (.next (ρ.set i (.own (xs ++ [d]))) S1)) : WS (sApp i m) ρ S G := by
  unfold WS sApp
  rw [ho]
  unfold sExp
  simp only [h, hz, if_true]
  exact g
theorem sq_app (ho : ownOf i ρ = some xs) (h : m ρ S = .ok d S1) (hz : xs.length < 10000) (g : WS s2 (ρ.set i (.own (xs ++ [d]))) S1 G) : WS (sSeq (sApp i m) s2) ρ S G := sq_ (ws_app ho h hz ⟨_, _, rfl, g⟩)
theorem ws_fz (g : WS s (frz1 i ρ) S G) : WS (sFz i s) ρ S G := g
theorem ws_ret (h : m ρ S = .ok d S1) (g : G (.ret d S1)) : WS (sRet m) ρ S G := by
  unfold WS sRet sExp
  rw [h]
  exact g
theorem ws_ifT (h : m ρ S = .ok (.bl true) S1) (g : WS s1 ρ S1 G) : WS (sIf m s1 e2) ρ S G := by
  unfold WS sIf sExp
  rw [h]
  exact g
theorem ws_ifF (h : m ρ S = .ok (.bl false) S1) (g : WS e2 ρ S1 G) : WS (sIf m s1 e2) ρ S G := by
  unfold WS sIf sExp
  rw [h]
  exact g
theorem ws_nil (g : G (.next ρ S)) : WS sNil ρ S G := g
theorem sq_ifF (h : m ρ S = .ok (.bl false) S1) (g : WS s2 ρ S1 G) : WS (sSeq (sIf m s1 sNil) s2) ρ S G := sq_ (ws_ifF h (ws_nil ⟨_, _, rfl, g⟩))
theorem sq_asg {mg : MG} {ρ1 : Env} (h : m ρ S = .ok d S1) (hg : mg d ρ = some ρ1) (g : WS s2 ρ1 S1 G) : WS (sSeq (sAsg m mg) s2) ρ S G := by
  refine sq_ ?_
  unfold WS sAsg sExp
  rw [h]
  simp only [hg]
  exact ⟨_, _, rfl, g⟩
theorem sq_par {i j : Nat} {d1 d2 : D} (h : ma ρ S = .ok [d1, d2] S1) (g : WS s2 ((ρ.set i (.val d1)).set j (.val d2)) S1 G) : WS (sSeq (sPar i j ma) s2) ρ S G := by
  refine sq_ ?_
  unfold WS sPar sExp
  rw [h]
  exact ⟨_, _, rfl, g⟩
theorem forL_inv {mg : MG} {sb : MS} (Inv : Nat → Env → Sto → Prop) : ∀ (items : List D) (i0 : Nat) (ρ : Env) (S : Sto), Inv i0 ρ S →
    (∀ i x ρ S, items[i]? = some x → Inv (i0 + i) ρ S → ∃ ρ1, mg x ρ = some ρ1 ∧ WS sb ρ1 S fun r => ∃ ρ2 S2, r = .next ρ2 S2 ∧ Inv (i0 + i + 1) ρ2 S2) → ∃ ρ' S', forL mg sb items ρ S = .next ρ' S' ∧ Inv (i0 + items.length) ρ' S'
  | [], i0, ρ, S, h, _ => ⟨ρ, S, rfl, h⟩
  | x :: xs, i0, ρ, S, h, st => by
    obtain ⟨ρ1, e1, ρ2, S2, e2, h2⟩ := st 0 x ρ S rfl h
    obtain ⟨ρ', S', e3, h3⟩ := forL_inv Inv xs (i0 + 1) ρ2 S2 h2 (fun i y ρ S hy hi => by
      have := st (i + 1) y ρ S (by simpa using hy) (by rw [show i0 + (i + 1) = i0 + 1 + i by omega]; exact hi)
      rw [show i0 + (i + 1) + 1 = i0 + 1 + i + 1 by omega] at this
      exact this)
    refine ⟨ρ', S', ?_, by rw [show i0 + (x :: xs).length = i0 + 1 + xs.length by simp; omega]; exact h3⟩
    unfold forL
    rw [e1]
    simp only
    rw [e2]
    exact e3
theorem ws_for {mi : MI} {mg : MG} {sb : MS} {items : List D} (Inv : Nat → Env → Sto → Prop) (hi : mi ρ S = .ok items S1) (h0 : Inv 0 ρ S1)
    (st : ∀ i x ρ S, items[i]? = some x → Inv i ρ S → ∃ ρ1, mg x ρ = some ρ1 ∧ WS sb ρ1 S fun r => ∃ ρ2 S2, r = .next ρ2 S2 ∧ Inv (i + 1) ρ2 S2) (hg : ∀ ρ S, Inv items.length ρ S → G (.next ρ S)) : WS (sFor mi mg sb) ρ S G := by
  obtain ⟨ρ', S', e, h⟩ := forL_inv Inv items 0 ρ S1 h0 (fun i x ρ S hx h => by
    obtain ⟨ρ1, e1, ρ2, S2, e2, h2⟩ := st i x ρ S hx (by simpa using h)
    exact ⟨ρ1, e1, ρ2, S2, e2, by simpa using h2⟩)
  unfold WS sFor sExp
  rw [hi]
  show G (forL mg sb items ρ S1)
  rw [e]
  exact hg _ _ (by simpa using h)
theorem sq_for {mi : MI} {mg : MG} {sb : MS} {items : List D} (Inv : Nat → Env → Sto → Prop) (hi : mi ρ S = .ok items S1) (h0 : Inv 0 ρ S1)
    (st : ∀ i x ρ S, items[i]? = some x → Inv i ρ S → ∃ ρ1, mg x ρ = some ρ1 ∧ WS sb ρ1 S fun r => ∃ ρ2 S2, r = .next ρ2 S2 ∧ Inv (i + 1) ρ2 S2) (hg : ∀ ρ S, Inv items.length ρ S → WS s2 ρ S G) : WS (sSeq (sFor mi mg sb) s2) ρ S G :=
  sq_ (ws_for Inv hi h0 st fun ρ S h => ⟨_, _, rfl, hg ρ S h⟩)
theorem body_ret {ds : List D} {P : D → Sto → Prop} (h : WS s (startE n ds) S fun r => ∃ d S', r = .ret d S' ∧ P d S') : ∃ d S', bodyM n s ds S = .ok d S' ∧ P d S' := by
  obtain ⟨d, S', e, h⟩ := h
  exact ⟨d, S', by unfold bodyM; rw [e], h⟩
theorem range_at {n i : Nat} {x : D} (h : (rangeD 0 n)[i]? = some x) : i < n ∧ x = .int (i : Int) := by
  have hl : i < n := by have := (List.getElem?_eq_some_iff.mp h).1; rw [rangeD_len] at this; exact this
  rw [rangeD_at hl, Int.zero_add] at h
  exact ⟨hl, (Option.some.inj h).symm⟩
end
/-! ### letters -/
def manners : List Str := ["any", "left", "right", "straight"]
def rgD (r : List Str) : D := .tup (r.map D.str)
def ltD (L : List (List Str)) : D := .tup (L.map rgD)
def total (L : List (List Str)) : Nat := (L.map List.length).sum
structure LtOk (L : List (List Str)) : Prop where
  len : 1 ≤ L.length ∧ L.length ≤ 3
  ring : ∀ r ∈ L, 3 ≤ r.length ∧ r.length ≤ 8 ∧ ∀ m ∈ r, m ∈ manners
  tot : total L ≤ 10
theorem any_mem {k : Int} (h0 : 0 ≤ k) (h : k < 5) : ∃ m : Str, L2.atI [D.str "any", .str "any", .str "left", .str "right", .str "straight"] k = some (.str m) ∧ m ∈ manners := by
  obtain ⟨d, e, hm⟩ := atI_mem (xs := [D.str "any", .str "any", .str "left", .str "right", .str "straight"]) h0 h
  simp only [List.mem_cons, List.not_mem_nil, or_false] at hm
  rcases hm with rfl | rfl | rfl | rfl | rfl <;> exact ⟨_, e, by decide⟩
theorem own_i {ρ : Env} {i : Nat} {xs : List D} (h : ρ[i]? = some (.own xs)) : ownOf i ρ = some xs := by
  unfold ownOf
  rw [h]
theorem letter_ok {row : D} (hr : RowOk row) {S : Sto} (hs : Sp S) : ∃ d S', m_f_law_letter [row, .cell 0] S = .ok d S' ∧ ∃ L, d = ltD L ∧ LtOk L ∧ Sp S' := by
  unfold m_f_law_letter
  apply body_ret
  unfold b_f_law_letter
  obtain ⟨k, S1, e1, hk, hs1⟩ := take_ok hr (lim := 5) (by decide) hs
  obtain ⟨q, eq, hq⟩ : ∃ q : Nat, 1 + k / 2 = (q : Int) ∧ 1 ≤ q ∧ q ≤ 3 := ⟨(1 + k / 2).toNat, by omega, by omega, by omega⟩
  refine sq_set (d := .int q) (S1 := S1) (by simp [bodyM, startE, q_eVar, q_eC, q_eBin, q_eChain, q_eUn, q_eNot, q_eAnd, q_eOr, q_eIf, q_aNil, q_aCons, q_eTup, q_eLst, q_aSmall, q_eCB, q_eIxOwn, q_eLenOwn, q_oNo, q_oOf, q_eSl, q_eCall, q_eCallK, q_iSeq, q_cYes, q_eLC, q_sExp, q_sNil, q_sSeq, q_sBad, q_sBrk, q_sCont, q_sRet, q_sRetN, q_sDrop, q_sIf, q_sSet, q_sSetOwn, q_sFz, q_sApp, q_sPut, q_sPutC, q_sSetCell, q_sAsg, q_sPar, q_sPar3, q_eCallL, q_eLC2, q_eNewC, q_iZip, q_sRaise, q_sTry, Rs.bind, op1, op2, opL, gAdd, gSub, gI2, gLt, gLe, gGt, gGe, gCmp, gIx, gLen, gInt, seqOf, gNeg, q_max2, q_min2, gTuple, gVar, gTupM, gsCons, gsNil, frz1, ownOf, noX, wipeE, e1, q_div, eq]) ?_
  refine sq_setOwn (xs := []) (S1 := S1) (by simp [bodyM, startE, q_eVar, q_eC, q_eBin, q_eChain, q_eUn, q_eNot, q_eAnd, q_eOr, q_eIf, q_aNil, q_aCons, q_eTup, q_eLst, q_aSmall, q_eCB, q_eIxOwn, q_eLenOwn, q_oNo, q_oOf, q_eSl, q_eCall, q_eCallK, q_iSeq, q_cYes, q_eLC, q_sExp, q_sNil, q_sSeq, q_sBad, q_sBrk, q_sCont, q_sRet, q_sRetN, q_sDrop, q_sIf, q_sSet, q_sSetOwn, q_sFz, q_sApp, q_sPut, q_sPutC, q_sSetCell, q_sAsg, q_sPar, q_sPar3, q_eCallL, q_eLC2, q_eNewC, q_iZip, q_sRaise, q_sTry, Rs.bind, op1, op2, opL, gAdd, gSub, gI2, gLt, gLe, gGt, gGe, gCmp, gIx, gLen, gInt, seqOf, gNeg, q_max2, q_min2, gTuple, gVar, gTupM, gsCons, gsNil, frz1, ownOf, noX, wipeE]) ?_
  refine sq_set (d := .int 10) (S1 := S1) (by simp [bodyM, startE, q_eVar, q_eC, q_eBin, q_eChain, q_eUn, q_eNot, q_eAnd, q_eOr, q_eIf, q_aNil, q_aCons, q_eTup, q_eLst, q_aSmall, q_eCB, q_eIxOwn, q_eLenOwn, q_oNo, q_oOf, q_eSl, q_eCall, q_eCallK, q_iSeq, q_cYes, q_eLC, q_sExp, q_sNil, q_sSeq, q_sBad, q_sBrk, q_sCont, q_sRet, q_sRetN, q_sDrop, q_sIf, q_sSet, q_sSetOwn, q_sFz, q_sApp, q_sPut, q_sPutC, q_sSetCell, q_sAsg, q_sPar, q_sPar3, q_eCallL, q_eLC2, q_eNewC, q_iZip, q_sRaise, q_sTry, Rs.bind, op1, op2, opL, gAdd, gSub, gI2, gLt, gLe, gGt, gGe, gCmp, gIx, gLen, gInt, seqOf, gNeg, q_max2, q_min2, gTuple, gVar, gTupM, gsCons, gsNil, frz1, ownOf, noX, wipeE]) ?_
  refine sq_for (items := rangeD 0 q) (S1 := S1) (fun i ρ S => ∃ (L : List (List Str)) (left : Nat) (a b c d e : Sl), ρ = [.val row, .val (.cell 0), .val (.int q), .own (L.map rgD), .val (.int left), a, b, c, d, e] ∧ Sp S ∧
    L.length = i ∧ total L + left = 10 ∧ 3 * (q - i) ≤ left ∧ ∀ r ∈ L, 3 ≤ r.length ∧ r.length ≤ 8 ∧ ∀ m ∈ r, m ∈ manners) ?_ ?_ ?_ ?_
  · exact rng1 (by simp [bodyM, startE, q_eVar, q_eC, q_eBin, q_eChain, q_eUn, q_eNot, q_eAnd, q_eOr, q_eIf, q_aNil, q_aCons, q_eTup, q_eLst, q_aSmall, q_eCB, q_eIxOwn, q_eLenOwn, q_oNo, q_oOf, q_eSl, q_eCall, q_eCallK, q_iSeq, q_cYes, q_eLC, q_sExp, q_sNil, q_sSeq, q_sBad, q_sBrk, q_sCont, q_sRet, q_sRetN, q_sDrop, q_sIf, q_sSet, q_sSetOwn, q_sFz, q_sApp, q_sPut, q_sPutC, q_sSetCell, q_sAsg, q_sPar, q_sPar3, q_eCallL, q_eLC2, q_eNewC, q_iZip, q_sRaise, q_sTry, Rs.bind, op1, op2, opL, gAdd, gSub, gI2, gLt, gLe, gGt, gGe, gCmp, gIx, gLen, gInt, seqOf, gNeg, q_max2, q_min2, gTuple, gVar, gTupM, gsCons, gsNil, frz1, ownOf, noX, wipeE]) (by omega)
  · exact ⟨[], 10, .un, .un, .un, .un, .un, rfl, hs1, rfl, rfl, by omega, by simp⟩
  · rintro i x ρ S hx ⟨L, left, a, b, c, d, e, rfl, hs, hi, ht, hl, hL⟩
    obtain ⟨hi2, rfl⟩ := range_at hx
    refine ⟨_, rfl, ?_⟩
    obtain ⟨room, er, hr1, hr2, hr3⟩ : ∃ room : Nat, min 8 ((left : Int) - 3 * ((q : Int) - 1 - (i : Int))) = (room : Int) ∧ 3 ≤ room ∧ room ≤ 8 ∧ room + 3 * (q - (i + 1)) ≤ left := by
      refine ⟨(min 8 ((left : Int) - 3 * ((q : Int) - 1 - (i : Int)))).toNat, ?_, ?_, ?_, ?_⟩ <;> omega
    refine sq_set (d := .int room) (S1 := S) (by simp [bodyM, startE, q_eVar, q_eC, q_eBin, q_eChain, q_eUn, q_eNot, q_eAnd, q_eOr, q_eIf, q_aNil, q_aCons, q_eTup, q_eLst, q_aSmall, q_eCB, q_eIxOwn, q_eLenOwn, q_oNo, q_oOf, q_eSl, q_eCall, q_eCallK, q_iSeq, q_cYes, q_eLC, q_sExp, q_sNil, q_sSeq, q_sBad, q_sBrk, q_sCont, q_sRet, q_sRetN, q_sDrop, q_sIf, q_sSet, q_sSetOwn, q_sFz, q_sApp, q_sPut, q_sPutC, q_sSetCell, q_sAsg, q_sPar, q_sPar3, q_eCallL, q_eLC2, q_eNewC, q_iZip, q_sRaise, q_sTry, Rs.bind, op1, op2, opL, gAdd, gSub, gI2, gLt, gLe, gGt, gGe, gCmp, gIx, gLen, gInt, seqOf, gNeg, q_max2, q_min2, gTuple, gVar, gTupM, gsCons, gsNil, frz1, ownOf, noX, wipeE, q_mul, er]) ?_
    obtain ⟨k2, S2, e2, hk2, hs2⟩ := take_ok hr (lim := (room : Int) - 2) (by omega) hs
    have em : max 1 ((room : Int) - 2) = (room : Int) - 2 := by omega
    obtain ⟨many, eM, hm1, hm2⟩ : ∃ many : Nat, 3 + k2 = (many : Int) ∧ 3 ≤ many ∧ many ≤ room := ⟨(3 + k2).toNat, by omega, by omega, by omega⟩
    refine sq_set (d := .int many) (S1 := S2) (by simp [bodyM, startE, q_eVar, q_eC, q_eBin, q_eChain, q_eUn, q_eNot, q_eAnd, q_eOr, q_eIf, q_aNil, q_aCons, q_eTup, q_eLst, q_aSmall, q_eCB, q_eIxOwn, q_eLenOwn, q_oNo, q_oOf, q_eSl, q_eCall, q_eCallK, q_iSeq, q_cYes, q_eLC, q_sExp, q_sNil, q_sSeq, q_sBad, q_sBrk, q_sCont, q_sRet, q_sRetN, q_sDrop, q_sIf, q_sSet, q_sSetOwn, q_sFz, q_sApp, q_sPut, q_sPutC, q_sSetCell, q_sAsg, q_sPar, q_sPar3, q_eCallL, q_eLC2, q_eNewC, q_iZip, q_sRaise, q_sTry, Rs.bind, op1, op2, opL, gAdd, gSub, gI2, gLt, gLe, gGt, gGe, gCmp, gIx, gLen, gInt, seqOf, gNeg, q_max2, q_min2, gTuple, gVar, gTupM, gsCons, gsNil, frz1, ownOf, noX, wipeE, em, e2, eM]) ?_
    obtain ⟨left2, eL⟩ : ∃ left2 : Nat, (left : Int) - many = (left2 : Int) := ⟨left - many, by omega⟩
    refine sq_set (d := .int left2) (S1 := S2) (by simp [bodyM, startE, q_eVar, q_eC, q_eBin, q_eChain, q_eUn, q_eNot, q_eAnd, q_eOr, q_eIf, q_aNil, q_aCons, q_eTup, q_eLst, q_aSmall, q_eCB, q_eIxOwn, q_eLenOwn, q_oNo, q_oOf, q_eSl, q_eCall, q_eCallK, q_iSeq, q_cYes, q_eLC, q_sExp, q_sNil, q_sSeq, q_sBad, q_sBrk, q_sCont, q_sRet, q_sRetN, q_sDrop, q_sIf, q_sSet, q_sSetOwn, q_sFz, q_sApp, q_sPut, q_sPutC, q_sSetCell, q_sAsg, q_sPar, q_sPar3, q_eCallL, q_eLC2, q_eNewC, q_iZip, q_sRaise, q_sTry, Rs.bind, op1, op2, opL, gAdd, gSub, gI2, gLt, gLe, gGt, gGe, gCmp, gIx, gLen, gInt, seqOf, gNeg, q_max2, q_min2, gTuple, gVar, gTupM, gsCons, gsNil, frz1, ownOf, noX, wipeE, eL]) ?_
    refine sq_setOwn (xs := []) (S1 := S2) (by simp [bodyM, startE, q_eVar, q_eC, q_eBin, q_eChain, q_eUn, q_eNot, q_eAnd, q_eOr, q_eIf, q_aNil, q_aCons, q_eTup, q_eLst, q_aSmall, q_eCB, q_eIxOwn, q_eLenOwn, q_oNo, q_oOf, q_eSl, q_eCall, q_eCallK, q_iSeq, q_cYes, q_eLC, q_sExp, q_sNil, q_sSeq, q_sBad, q_sBrk, q_sCont, q_sRet, q_sRetN, q_sDrop, q_sIf, q_sSet, q_sSetOwn, q_sFz, q_sApp, q_sPut, q_sPutC, q_sSetCell, q_sAsg, q_sPar, q_sPar3, q_eCallL, q_eLC2, q_eNewC, q_iZip, q_sRaise, q_sTry, Rs.bind, op1, op2, opL, gAdd, gSub, gI2, gLt, gLe, gGt, gGe, gCmp, gIx, gLen, gInt, seqOf, gNeg, q_max2, q_min2, gTuple, gVar, gTupM, gsCons, gsNil, frz1, ownOf, noX, wipeE]) ?_
    refine sq_for (items := rangeD 0 many) (S1 := S2) (fun j ρ S => ∃ (r : List Str) (e : Sl), ρ = [.val row, .val (.cell 0), .val (.int q), .own (L.map rgD), .val (.int left2), .val (.int (i : Int)), .val (.int room), .val (.int many), .own (r.map D.str), e] ∧ Sp S ∧ r.length = j ∧ ∀ m ∈ r, m ∈ manners) ?_ ?_ ?_ ?_
    · exact rng1 (by simp [bodyM, startE, q_eVar, q_eC, q_eBin, q_eChain, q_eUn, q_eNot, q_eAnd, q_eOr, q_eIf, q_aNil, q_aCons, q_eTup, q_eLst, q_aSmall, q_eCB, q_eIxOwn, q_eLenOwn, q_oNo, q_oOf, q_eSl, q_eCall, q_eCallK, q_iSeq, q_cYes, q_eLC, q_sExp, q_sNil, q_sSeq, q_sBad, q_sBrk, q_sCont, q_sRet, q_sRetN, q_sDrop, q_sIf, q_sSet, q_sSetOwn, q_sFz, q_sApp, q_sPut, q_sPutC, q_sSetCell, q_sAsg, q_sPar, q_sPar3, q_eCallL, q_eLC2, q_eNewC, q_iZip, q_sRaise, q_sTry, Rs.bind, op1, op2, opL, gAdd, gSub, gI2, gLt, gLe, gGt, gGe, gCmp, gIx, gLen, gInt, seqOf, gNeg, q_max2, q_min2, gTuple, gVar, gTupM, gsCons, gsNil, frz1, ownOf, noX, wipeE]) (by omega)
    · exact ⟨[], _, rfl, hs2, rfl, by simp⟩
    · rintro j x ρ S hx ⟨r, e, rfl, hs, hj, hr'⟩
      obtain ⟨hj2, rfl⟩ := range_at hx
      refine ⟨_, rfl, ?_⟩
      obtain ⟨k3, S3, e3, hk3, hs3⟩ := take_ok hr (lim := 5) (by decide) hs
      obtain ⟨m, em, hmm⟩ := any_mem hk3.1 hk3.2
      refine ws_app (own_i rfl) (d := .str m) (S1 := S3) (by simp [bodyM, startE, q_eVar, q_eC, q_eBin, q_eChain, q_eUn, q_eNot, q_eAnd, q_eOr, q_eIf, q_aNil, q_aCons, q_eTup, q_eLst, q_aSmall, q_eCB, q_eIxOwn, q_eLenOwn, q_oNo, q_oOf, q_eSl, q_eCall, q_eCallK, q_iSeq, q_cYes, q_eLC, q_sExp, q_sNil, q_sSeq, q_sBad, q_sBrk, q_sCont, q_sRet, q_sRetN, q_sDrop, q_sIf, q_sSet, q_sSetOwn, q_sFz, q_sApp, q_sPut, q_sPutC, q_sSetCell, q_sAsg, q_sPar, q_sPar3, q_eCallL, q_eLC2, q_eNewC, q_iZip, q_sRaise, q_sTry, Rs.bind, op1, op2, opL, gAdd, gSub, gI2, gLt, gLe, gGt, gGe, gCmp, gIx, gLen, gInt, seqOf, gNeg, q_max2, q_min2, gTuple, gVar, gTupM, gsCons, gsNil, frz1, ownOf, noX, wipeE, e3, em]) (by rw [List.length_map]; omega) ⟨_, _, rfl, r ++ [m], .val (.int (j : Int)), by simp, hs3, by simp [hj], ?_⟩
      intro m' hm'
      rcases List.mem_append.mp hm' with h | h
      · exact hr' m' h
      · rw [List.mem_singleton.mp h]; exact hmm
    · rintro ρ S ⟨r, e, rfl, hs, hj, hr'⟩
      rw [rangeD_len] at hj
      refine ws_fz ?_
      refine ws_app (xs := L.map rgD) (own_i rfl) (d := rgD r) (S1 := S) (by simp [bodyM, startE, q_eVar, q_eC, q_eBin, q_eChain, q_eUn, q_eNot, q_eAnd, q_eOr, q_eIf, q_aNil, q_aCons, q_eTup, q_eLst, q_aSmall, q_eCB, q_eIxOwn, q_eLenOwn, q_oNo, q_oOf, q_eSl, q_eCall, q_eCallK, q_iSeq, q_cYes, q_eLC, q_sExp, q_sNil, q_sSeq, q_sBad, q_sBrk, q_sCont, q_sRet, q_sRetN, q_sDrop, q_sIf, q_sSet, q_sSetOwn, q_sFz, q_sApp, q_sPut, q_sPutC, q_sSetCell, q_sAsg, q_sPar, q_sPar3, q_eCallL, q_eLC2, q_eNewC, q_iZip, q_sRaise, q_sTry, Rs.bind, op1, op2, opL, gAdd, gSub, gI2, gLt, gLe, gGt, gGe, gCmp, gIx, gLen, gInt, seqOf, gNeg, q_max2, q_min2, gTuple, gVar, gTupM, gsCons, gsNil, frz1, ownOf, noX, wipeE, ten_size (show r.length ≤ 10000 by omega), rgD]) (by rw [List.length_map]; omega) ⟨_, _, rfl, L ++ [r], left2, _, _, _, _, _, by simp; rfl, hs, by simp [hi], ?_, ?_, ?_⟩
      · unfold total at ht ⊢
        simp
        omega
      · omega
      · intro r2 hr2
        rcases List.mem_append.mp hr2 with h | h
        · exact hL r2 h
        · rw [List.mem_singleton.mp h]; exact ⟨by omega, by omega, hr'⟩
  · rintro ρ S ⟨L, left, a, b, c, d, e, rfl, hs, hi, ht, hl, hL⟩
    rw [rangeD_len] at hi
    refine ws_fz ?_
    refine ws_ret (d := ltD L) (S1 := S) (by simp [bodyM, startE, q_eVar, q_eC, q_eBin, q_eChain, q_eUn, q_eNot, q_eAnd, q_eOr, q_eIf, q_aNil, q_aCons, q_eTup, q_eLst, q_aSmall, q_eCB, q_eIxOwn, q_eLenOwn, q_oNo, q_oOf, q_eSl, q_eCall, q_eCallK, q_iSeq, q_cYes, q_eLC, q_sExp, q_sNil, q_sSeq, q_sBad, q_sBrk, q_sCont, q_sRet, q_sRetN, q_sDrop, q_sIf, q_sSet, q_sSetOwn, q_sFz, q_sApp, q_sPut, q_sPutC, q_sSetCell, q_sAsg, q_sPar, q_sPar3, q_eCallL, q_eLC2, q_eNewC, q_iZip, q_sRaise, q_sTry, Rs.bind, op1, op2, opL, gAdd, gSub, gI2, gLt, gLe, gGt, gGe, gCmp, gIx, gLen, gInt, seqOf, gNeg, q_max2, q_min2, gTuple, gVar, gTupM, gsCons, gsNil, frz1, ownOf, noX, wipeE, ten_size (show L.length ≤ 10000 by omega), ltD]) ⟨_, _, rfl, L, rfl, ⟨by omega, hL, by omega⟩, hs⟩
end KF
end

section
namespace KF
open PySem
/-! ### expressions, by what is to hold behind them -/
def WE (m : ME) (ρ : Env) (S : Sto) (P : D → Sto → Prop) : Prop := ∃ d S1, m ρ S = .ok d S1 ∧ P d S1
section
variable {s1 s2 : MS} {m me mt : ME} {ma : MA} {mi : MI} {mg : MG} {ρ ρ0 : Env} {S S1 : Sto} {G : RS → Prop} {P : D → Sto → Prop} {i n : Nat} {g : GL} {vs : List Nat} {xs acc : List D}
theorem sq_setE (h : WE m ρ S fun d S1 => WS s2 (ρ.set i (.val d)) S1 G) : WS (sSeq (sSet i m) s2) ρ S G := by
  obtain ⟨d, S1, e, h⟩ := h
  exact sq_set e h
theorem ws_setE (h : WE m ρ S fun d S1 => G (.next (ρ.set i (.val d)) S1)) : WS (sSet i m) ρ S G := by
  obtain ⟨d, S1, e, h⟩ := h
  exact ws_set e h
theorem ws_retE (h : WE m ρ S fun d S1 => G (.ret d S1)) : WS (sRet m) ρ S G := by
  obtain ⟨d, S1, e, h⟩ := h
  exact ws_ret e h
theorem we_ok {d : D} (e : m ρ S = .ok d S1) (h : P d S1) : WE m ρ S P := ⟨d, S1, e, h⟩
theorem we_cb1 (h : WE m ρ S fun d S1 => ∃ r, g [d] S1 = some r ∧ P r S1) : WE (eCB g (aCons m aNil)) ρ S P := by
  obtain ⟨d, S1, e, r, e2, h⟩ := h
  exact ⟨r, S1, by unfold eCB aCons aNil; simp only [e, Rs.bind, opL, e2], h⟩
theorem lc_st (PS : Sto → Prop) (Q : Nat → D → D → Prop) : ∀ (xs acc : List D) (k : Nat) (S : Sto), PS S → (∀ j x S, xs[j]? = some x → PS S → ∃ ρ1 y S', mg x ρ0 = some ρ1 ∧ me ρ1 S = .ok y S' ∧ Q (k + j) x y ∧ PS S') →
    ∃ ys S', lcLoop mg cYes me ρ0 xs acc S = .ok (acc ++ ys) S' ∧ ys.length = xs.length ∧ (∀ j x y, xs[j]? = some x → ys[j]? = some y → Q (k + j) x y) ∧ PS S'
  | [], acc, k, S, h, _ => ⟨[], S, by unfold lcLoop; simp, rfl, by simp, h⟩
  | x :: xs, acc, k, S, h, st => by
    obtain ⟨ρ1, y, S1, e1, e2, q, h1⟩ := st 0 x S rfl h
    obtain ⟨ys, S2, e3, hl, hq, h2⟩ := lc_st PS Q xs (acc ++ [y]) (k + 1) S1 h1 (fun j z S hz hS => by
      have := st (j + 1) z S (by simpa using hz) hS
      rw [show k + (j + 1) = k + 1 + j by omega] at this
      exact this)
    refine ⟨y :: ys, S2, ?_, by simp [hl], ?_, h2⟩
    · unfold lcLoop
      simp only [e1, cYes, Rs.bind, e2]
      rw [e3]
      simp
    · intro j a b ha hb
      cases j with
      | zero =>
        simp at ha hb
        subst ha hb
        exact q
      | succ j =>
        have := hq j a b (by simpa using ha) (by simpa using hb)
        rw [show k + (j + 1) = k + 1 + j by omega]
        exact this
theorem we_lc (PS : Sto → Prop) (Q : Nat → D → D → Prop) (hi : mi ρ S = .ok xs S1) (h0 : PS S1) (h : ∀ j x S, xs[j]? = some x → PS S → ∃ ρ1 y S', mg x (wipeE ρ vs) = some ρ1 ∧ me ρ1 S = .ok y S' ∧ Q j x y ∧ PS S')
    (hp : ∀ ys S', ys.length = xs.length → (∀ j x y, xs[j]? = some x → ys[j]? = some y → Q j x y) → PS S' → P (.lst ys) S') : WE (eLst (eLC vs mi mg cYes me)) ρ S P := by
  obtain ⟨ys, S2, e, hl, hq, h2⟩ := lc_st (mg := mg) (me := me) (ρ0 := wipeE ρ vs) PS Q xs [] 0 S1 h0 (fun j x S hx hS => by simpa using h j x S hx hS)
  refine ⟨.lst ys, S2, ?_, hp ys S2 hl (fun j x y hx hy => by simpa using hq j x y hx hy) h2⟩
  unfold eLst eLC
  simp only [hi, Rs.bind, e, noX]
  simp
/-- a row of which each is of a kind -/
theorem kinds {α : Type} {f : α → D} {p : α → Prop} : ∀ {ys : List D}, (∀ y ∈ ys, ∃ a, y = f a ∧ p a) → ∃ as : List α, ys = as.map f ∧ as.length = ys.length ∧ ∀ a ∈ as, p a
  | [], _ => ⟨[], rfl, rfl, by simp⟩
  | y :: ys, h => by
    obtain ⟨a, rfl, pa⟩ := h y (List.mem_cons_self ..)
    obtain ⟨as, rfl, hl, hp⟩ := kinds (ys := ys) (fun z hz => h z (List.mem_cons_of_mem _ hz))
    exact ⟨a :: as, rfl, by simp, fun b hb => by
      rcases List.mem_cons.mp hb with rfl | hb
      · exact pa
      · exact hp b hb⟩
theorem mem_at {α : Type} {xs : List α} {y : α} (h : y ∈ xs) : ∃ j : Nat, xs[j]? = some y := by
  obtain ⟨j, hj, e⟩ := List.getElem_of_mem h
  exact ⟨j, by rw [List.getElem?_eq_getElem hj, e]⟩
theorem at_some {α : Type} {xs : List α} {j : Nat} (h : j < xs.length) : xs[j]? = some xs[j] := List.getElem?_eq_getElem h
end
/-! ### places -/
abbrev Pt : Type := Int × Int
def plD (p : Pt) : D := .tup [.int p.1, .int p.2]
def rpD (r : List Pt) : D := .tup (r.map plD)
def drD (R : List (List Pt)) : D := .tup (R.map rpD)
def inB (p : Pt) : Prop := (-99 ≤ p.1 ∧ p.1 ≤ 99) ∧ (-99 ≤ p.2 ∧ p.2 ≤ 99)
structure DrOk (L : List (List Str)) (R : List (List Pt)) : Prop where
  len : R.length = L.length
  ring : ∀ (k : Nat) (r : List Pt) (l : List Str), R[k]? = some r → L[k]? = some l → r.length = l.length
  inb : ∀ r ∈ R, ∀ p ∈ r, inB p
theorem at0 {a b : D} : L2.atI [a, b] 0 = some a := by rfl
theorem at1 {a b : D} : L2.atI [a, b] 1 = some b := by rfl
def clipP (p : Pt) : Pt := (max (-99) (min 99 p.1), max (-99) (min 99 p.2))
theorem clip_in (p : Pt) : inB (clipP p) := by
  unfold inB clipP
  refine ⟨⟨?_, ?_⟩, ?_, ?_⟩ <;> dsimp only <;> omega
theorem clip_ok (x y : Int) (S : Sto) : m_f_law_clip [.tup [.int x, .int y]] S = .ok (plD (clipP (x, y))) S := by
  unfold m_f_law_clip b_f_law_clip
  simp [bodyM, startE, q_eVar, q_eC, q_eBin, q_eChain, q_eUn, q_eNot, q_eAnd, q_eOr, q_eIf, q_aNil, q_aCons, q_eTup, q_eLst, q_aSmall, q_eCB, q_eIxOwn, q_eLenOwn, q_oNo, q_oOf, q_eSl, q_eCall, q_eCallK, q_iSeq, q_cYes, q_eLC, q_sExp, q_sNil, q_sSeq, q_sBad, q_sBrk, q_sCont, q_sRet, q_sRetN, q_sDrop, q_sIf, q_sSet, q_sSetOwn, q_sFz, q_sApp, q_sPut, q_sPutC, q_sSetCell, q_sAsg, q_sPar, q_sPar3, q_eCallL, q_eLC2, q_eNewC, q_iZip, q_sRaise, q_sTry, Rs.bind, op1, op2, opL, gAdd, gSub, gI2, gLt, gLe, gGt, gGe, gCmp, gIx, gLen, gInt, seqOf, gNeg, q_max2, q_min2, gTuple, gVar, gTupM, gsCons, gsNil, frz1, ownOf, noX, wipeE, at0, at1, plD, clipP]
def ways : List Pt := [(8, 0), (7, 4), (4, 7), (0, 8), (-4, 7), (-7, 4), (-8, 0), (-7, -4), (-4, -7), (0, -8), (4, -7), (7, -4)]
theorem ways_ok (S : Sto) : m_f_law_ways [] S = .ok (.lst (ways.map plD)) S := by
  unfold m_f_law_ways b_f_law_ways
  simp [bodyM, startE, q_eVar, q_eC, q_eBin, q_eChain, q_eUn, q_eNot, q_eAnd, q_eOr, q_eIf, q_aNil, q_aCons, q_eTup, q_eLst, q_aSmall, q_eCB, q_eIxOwn, q_eLenOwn, q_oNo, q_oOf, q_eSl, q_eCall, q_eCallK, q_iSeq, q_cYes, q_eLC, q_sExp, q_sNil, q_sSeq, q_sBad, q_sBrk, q_sCont, q_sRet, q_sRetN, q_sDrop, q_sIf, q_sSet, q_sSetOwn, q_sFz, q_sApp, q_sPut, q_sPutC, q_sSetCell, q_sAsg, q_sPar, q_sPar3, q_eCallL, q_eLC2, q_eNewC, q_iZip, q_sRaise, q_sTry, Rs.bind, op1, op2, opL, gAdd, gSub, gI2, gLt, gLe, gGt, gGe, gCmp, gIx, gLen, gInt, seqOf, gNeg, q_max2, q_min2, gTuple, gVar, gTupM, gsCons, gsNil, frz1, ownOf, noX, wipeE, ways, plD]
def wayP (p : Pt) : Prop := (-8 ≤ p.1 ∧ p.1 ≤ 8) ∧ (-8 ≤ p.2 ∧ p.2 ≤ 8)
theorem ways_at (k : Int) : ∃ p : Pt, L2.atI (ways.map plD) (k % 12) = some (plD p) ∧ wayP p := by
  obtain ⟨d, e, hm⟩ := atI_mem (xs := ways.map plD) (k := k % 12) (Int.emod_nonneg _ (by decide)) (by show k % 12 < 12; omega)
  obtain ⟨p, hp, rfl⟩ := List.mem_map.mp hm
  refine ⟨p, e, ?_⟩
  have : ∀ p ∈ ways, (-8 ≤ p.1 ∧ p.1 ≤ 8) ∧ (-8 ≤ p.2 ∧ p.2 ≤ 8) := by decide
  exact this p hp
theorem nat_lt64 {a b : Int} (h : -1000000 ≤ a ∧ a ≤ 1000000) : a.natAbs < 2 ^ 64 ∨ b.natAbs < 2 ^ 64 := .inl (by omega)
theorem nat_lt64' {a b : Int} (h : -1000000 ≤ b ∧ b ≤ 1000000) : a.natAbs < 2 ^ 64 ∨ b.natAbs < 2 ^ 64 := .inr (by omega)
theorem ring_places_ok {row : D} (hr : RowOk row) {S : Sto} (hs : Sp S) {many : Nat} (hm : 1 ≤ many ∧ many ≤ 8) (mx my : Int) {size : Int} (hz : 0 < size ∧ size ≤ 100) :
    ∃ d S', m_f_law_ring_places [row, .cell 0, .int many, .tup [.int mx, .int my], .int size] S = .ok d S' ∧ ∃ r : List Pt, d = .lst (r.map plD) ∧ r.length = many ∧ Sp S' := by
  unfold m_f_law_ring_places
  apply body_ret
  unfold b_f_law_ring_places
  refine sq_setE (we_cb1 (we_lc (xs := rangeD 0 many) (S1 := S) Sp (fun _ _ y => ∃ i : Int, y = .int i) (rng1 (by simp [bodyM, startE, q_eVar, q_eC, q_eBin, q_eChain, q_eUn, q_eNot, q_eAnd, q_eOr, q_eIf, q_aNil, q_aCons, q_eTup, q_eLst, q_aSmall, q_eCB, q_eIxOwn, q_eLenOwn, q_oNo, q_oOf, q_eSl, q_eCall, q_eCallK, q_iSeq, q_cYes, q_eLC, q_sExp, q_sNil, q_sSeq, q_sBad, q_sBrk, q_sCont, q_sRet, q_sRetN, q_sDrop, q_sIf, q_sSet, q_sSetOwn, q_sFz, q_sApp, q_sPut, q_sPutC, q_sSetCell, q_sAsg, q_sPar, q_sPar3, q_eCallL, q_eLC2, q_eNewC, q_iZip, q_sRaise, q_sTry, Rs.bind, op1, op2, opL, gAdd, gSub, gI2, gLt, gLe, gGt, gGe, gCmp, gIx, gLen, gInt, seqOf, gNeg, q_max2, q_min2, gTuple, gVar, gTupM, gsCons, gsNil, frz1, ownOf, noX, wipeE]) (by omega)) hs ?_ ?_))
  · intro j x S hx hS
    obtain ⟨k, S1, e, hk, hs1⟩ := take_ok hr (lim := 12) (by decide) hS
    exact ⟨_, .int k, S1, rfl, by simp [bodyM, startE, q_eVar, q_eC, q_eBin, q_eChain, q_eUn, q_eNot, q_eAnd, q_eOr, q_eIf, q_aNil, q_aCons, q_eTup, q_eLst, q_aSmall, q_eCB, q_eIxOwn, q_eLenOwn, q_oNo, q_oOf, q_eSl, q_eCall, q_eCallK, q_iSeq, q_cYes, q_eLC, q_sExp, q_sNil, q_sSeq, q_sBad, q_sBrk, q_sCont, q_sRet, q_sRetN, q_sDrop, q_sIf, q_sSet, q_sSetOwn, q_sFz, q_sApp, q_sPut, q_sPutC, q_sSetCell, q_sAsg, q_sPar, q_sPar3, q_eCallL, q_eLC2, q_eNewC, q_iZip, q_sRaise, q_sTry, Rs.bind, op1, op2, opL, gAdd, gSub, gI2, gLt, gLe, gGt, gGe, gCmp, gIx, gLen, gInt, seqOf, gNeg, q_max2, q_min2, gTuple, gVar, gTupM, gsCons, gsNil, frz1, ownOf, noX, wipeE, e], ⟨k, rfl⟩, hs1⟩
  intro ys S1 hl hq hs1
  obtain ⟨ns, rfl, hln, _⟩ := kinds (f := D.int) (p := fun _ => True) (ys := ys) (fun y hy => by
    obtain ⟨j, e⟩ := mem_at hy
    have hj : j < (rangeD 0 many).length := by rw [← hl]; exact (List.getElem?_eq_some_iff.mp e).1
    obtain ⟨i, hi⟩ := hq j _ y (at_some hj) e
    exact ⟨i, hi, trivial⟩)
  rw [rangeD_len] at hl
  have hN : (srt ns).length = many := by rw [(srt_perm ns).length_eq, hln, hl]
  refine ⟨.lst ((srt ns).map D.int), ?_, ?_⟩
  · unfold gSorted
    simp only [ints_map]
    show (if ns.length ≤ sizeLine then _ else _) = _
    rw [if_pos (ten_size (by omega))]
  generalize hns : srt ns = steps at hN
  refine sq_setOwn (xs := []) (S1 := S1) (by simp [bodyM, startE, q_eVar, q_eC, q_eBin, q_eChain, q_eUn, q_eNot, q_eAnd, q_eOr, q_eIf, q_aNil, q_aCons, q_eTup, q_eLst, q_aSmall, q_eCB, q_eIxOwn, q_eLenOwn, q_oNo, q_oOf, q_eSl, q_eCall, q_eCallK, q_iSeq, q_cYes, q_eLC, q_sExp, q_sNil, q_sSeq, q_sBad, q_sBrk, q_sCont, q_sRet, q_sRetN, q_sDrop, q_sIf, q_sSet, q_sSetOwn, q_sFz, q_sApp, q_sPut, q_sPutC, q_sSetCell, q_sAsg, q_sPar, q_sPar3, q_eCallL, q_eLC2, q_eNewC, q_iZip, q_sRaise, q_sTry, Rs.bind, op1, op2, opL, gAdd, gSub, gI2, gLt, gLe, gGt, gGe, gCmp, gIx, gLen, gInt, seqOf, gNeg, q_max2, q_min2, gTuple, gVar, gTupM, gsCons, gsNil, frz1, ownOf, noX, wipeE]) ?_
  refine sq_for (items := rangeD 0 many) (S1 := S1) (fun i ρ S => ∃ (r : List Pt) (a b c : Sl), ρ = [.val row, .val (.cell 0), .val (.int many), .val (.tup [.int mx, .int my]), .val (.int size), .val (.lst (steps.map D.int)), .own (r.map plD), a, b, c] ∧ Sp S ∧ r.length = i) ?_ ?_ ?_ ?_
  · exact rng1 (by simp [bodyM, startE, q_eVar, q_eC, q_eBin, q_eChain, q_eUn, q_eNot, q_eAnd, q_eOr, q_eIf, q_aNil, q_aCons, q_eTup, q_eLst, q_aSmall, q_eCB, q_eIxOwn, q_eLenOwn, q_oNo, q_oOf, q_eSl, q_eCall, q_eCallK, q_iSeq, q_cYes, q_eLC, q_sExp, q_sNil, q_sSeq, q_sBad, q_sBrk, q_sCont, q_sRet, q_sRetN, q_sDrop, q_sIf, q_sSet, q_sSetOwn, q_sFz, q_sApp, q_sPut, q_sPutC, q_sSetCell, q_sAsg, q_sPar, q_sPar3, q_eCallL, q_eLC2, q_eNewC, q_iZip, q_sRaise, q_sTry, Rs.bind, op1, op2, opL, gAdd, gSub, gI2, gLt, gLe, gGt, gGe, gCmp, gIx, gLen, gInt, seqOf, gNeg, q_max2, q_min2, gTuple, gVar, gTupM, gsCons, gsNil, frz1, ownOf, noX, wipeE]) (by omega)
  · exact ⟨[], _, _, _, rfl, hs1, rfl⟩
  · rintro i x ρ S hx ⟨r, a, b, c, rfl, hs, hi⟩
    obtain ⟨hi2, rfl⟩ := range_at hx
    refine ⟨_, rfl, ?_⟩
    obtain ⟨k1, S2, e1, hk1, hs2⟩ := take_ok hr (lim := 3) (by decide) hs
    obtain ⟨st, est⟩ := atI_int (xs := steps) (k := (i : Int)) (by omega) (by rw [hN]; omega)
    obtain ⟨w1, ew1, hw1⟩ := ways_at (st + i)
    obtain ⟨w2, ew2, hw2⟩ := ways_at (12 * (i : Int) / many)
    obtain ⟨way, hway, eway⟩ : ∃ way : Pt, wayP way ∧ ∀ (m1 m2 m3 : ME) (ρ : Env), m1 ρ S = .ok (.bl (decide (0 < k1))) S2 → m2 ρ S2 = .ok (plD w1) S2 → m3 ρ S2 = .ok (plD w2) S2 → eIf m1 m2 m3 ρ S = .ok (plD way) S2 := by
      by_cases h : 0 < k1
      · exact ⟨w1, hw1, fun m1 m2 m3 ρ h1 h2 h3 => by simp [bodyM, startE, q_eVar, q_eC, q_eBin, q_eChain, q_eUn, q_eNot, q_eAnd, q_eOr, q_eIf, q_aNil, q_aCons, q_eTup, q_eLst, q_aSmall, q_eCB, q_eIxOwn, q_eLenOwn, q_oNo, q_oOf, q_eSl, q_eCall, q_eCallK, q_iSeq, q_cYes, q_eLC, q_sExp, q_sNil, q_sSeq, q_sBad, q_sBrk, q_sCont, q_sRet, q_sRetN, q_sDrop, q_sIf, q_sSet, q_sSetOwn, q_sFz, q_sApp, q_sPut, q_sPutC, q_sSetCell, q_sAsg, q_sPar, q_sPar3, q_eCallL, q_eLC2, q_eNewC, q_iZip, q_sRaise, q_sTry, Rs.bind, op1, op2, opL, gAdd, gSub, gI2, gLt, gLe, gGt, gGe, gCmp, gIx, gLen, gInt, seqOf, gNeg, q_max2, q_min2, gTuple, gVar, gTupM, gsCons, gsNil, frz1, ownOf, noX, wipeE, h1, h, h2]⟩
      · exact ⟨w2, hw2, fun m1 m2 m3 ρ h1 h2 h3 => by simp [bodyM, startE, q_eVar, q_eC, q_eBin, q_eChain, q_eUn, q_eNot, q_eAnd, q_eOr, q_eIf, q_aNil, q_aCons, q_eTup, q_eLst, q_aSmall, q_eCB, q_eIxOwn, q_eLenOwn, q_oNo, q_oOf, q_eSl, q_eCall, q_eCallK, q_iSeq, q_cYes, q_eLC, q_sExp, q_sNil, q_sSeq, q_sBad, q_sBrk, q_sCont, q_sRet, q_sRetN, q_sDrop, q_sIf, q_sSet, q_sSetOwn, q_sFz, q_sApp, q_sPut, q_sPutC, q_sSetCell, q_sAsg, q_sPar, q_sPar3, q_eCallL, q_eLC2, q_eNewC, q_iZip, q_sRaise, q_sTry, Rs.bind, op1, op2, opL, gAdd, gSub, gI2, gLt, gLe, gGt, gGe, gCmp, gIx, gLen, gInt, seqOf, gNeg, q_max2, q_min2, gTuple, gVar, gTupM, gsCons, gsNil, frz1, ownOf, noX, wipeE, h1, h, h3]⟩
    refine sq_set (d := plD way) (S1 := S2) (eway _ _ _ _ (by simp [bodyM, startE, q_eVar, q_eC, q_eBin, q_eChain, q_eUn, q_eNot, q_eAnd, q_eOr, q_eIf, q_aNil, q_aCons, q_eTup, q_eLst, q_aSmall, q_eCB, q_eIxOwn, q_eLenOwn, q_oNo, q_oOf, q_eSl, q_eCall, q_eCallK, q_iSeq, q_cYes, q_eLC, q_sExp, q_sNil, q_sSeq, q_sBad, q_sBrk, q_sCont, q_sRet, q_sRetN, q_sDrop, q_sIf, q_sSet, q_sSetOwn, q_sFz, q_sApp, q_sPut, q_sPutC, q_sSetCell, q_sAsg, q_sPar, q_sPar3, q_eCallL, q_eLC2, q_eNewC, q_iZip, q_sRaise, q_sTry, Rs.bind, op1, op2, opL, gAdd, gSub, gI2, gLt, gLe, gGt, gGe, gCmp, gIx, gLen, gInt, seqOf, gNeg, q_max2, q_min2, gTuple, gVar, gTupM, gsCons, gsNil, frz1, ownOf, noX, wipeE, e1]) (by simp [bodyM, startE, q_eVar, q_eC, q_eBin, q_eChain, q_eUn, q_eNot, q_eAnd, q_eOr, q_eIf, q_aNil, q_aCons, q_eTup, q_eLst, q_aSmall, q_eCB, q_eIxOwn, q_eLenOwn, q_oNo, q_oOf, q_eSl, q_eCall, q_eCallK, q_iSeq, q_cYes, q_eLC, q_sExp, q_sNil, q_sSeq, q_sBad, q_sBrk, q_sCont, q_sRet, q_sRetN, q_sDrop, q_sIf, q_sSet, q_sSetOwn, q_sFz, q_sApp, q_sPut, q_sPutC, q_sSetCell, q_sAsg, q_sPar, q_sPar3, q_eCallL, q_eLC2, q_eNewC, q_iZip, q_sRaise, q_sTry, Rs.bind, op1, op2, opL, gAdd, gSub, gI2, gLt, gLe, gGt, gGe, gCmp, gIx, gLen, gInt, seqOf, gNeg, q_max2, q_min2, gTuple, gVar, gTupM, gsCons, gsNil, frz1, ownOf, noX, wipeE, ways_ok, est, q_mod, ew1]) (by simp [bodyM, startE, q_eVar, q_eC, q_eBin, q_eChain, q_eUn, q_eNot, q_eAnd, q_eOr, q_eIf, q_aNil, q_aCons, q_eTup, q_eLst, q_aSmall, q_eCB, q_eIxOwn, q_eLenOwn, q_oNo, q_oOf, q_eSl, q_eCall, q_eCallK, q_iSeq, q_cYes, q_eLC, q_sExp, q_sNil, q_sSeq, q_sBad, q_sBrk, q_sCont, q_sRet, q_sRetN, q_sDrop, q_sIf, q_sSet, q_sSetOwn, q_sFz, q_sApp, q_sPut, q_sPutC, q_sSetCell, q_sAsg, q_sPar, q_sPar3, q_eCallL, q_eLC2, q_eNewC, q_iZip, q_sRaise, q_sTry, Rs.bind, op1, op2, opL, gAdd, gSub, gI2, gLt, gLe, gGt, gGe, gCmp, gIx, gLen, gInt, seqOf, gNeg, q_max2, q_min2, gTuple, gVar, gTupM, gsCons, gsNil, frz1, ownOf, noX, wipeE, ways_ok, q_mul, q_div (show (0 : Int) < many by omega) (by omega), q_mod, ew2])) ?_
    obtain ⟨k2, S3, e2, hk2, hs3⟩ := take_ok hr (lim := size) hz.1 hs2
    refine sq_set (d := .int (1 + k2)) (S1 := S3) (by simp [bodyM, startE, q_eVar, q_eC, q_eBin, q_eChain, q_eUn, q_eNot, q_eAnd, q_eOr, q_eIf, q_aNil, q_aCons, q_eTup, q_eLst, q_aSmall, q_eCB, q_eIxOwn, q_eLenOwn, q_oNo, q_oOf, q_eSl, q_eCall, q_eCallK, q_iSeq, q_cYes, q_eLC, q_sExp, q_sNil, q_sSeq, q_sBad, q_sBrk, q_sCont, q_sRet, q_sRetN, q_sDrop, q_sIf, q_sSet, q_sSetOwn, q_sFz, q_sApp, q_sPut, q_sPutC, q_sSetCell, q_sAsg, q_sPar, q_sPar3, q_eCallL, q_eLC2, q_eNewC, q_iZip, q_sRaise, q_sTry, Rs.bind, op1, op2, opL, gAdd, gSub, gI2, gLt, gLe, gGt, gGe, gCmp, gIx, gLen, gInt, seqOf, gNeg, q_max2, q_min2, gTuple, gVar, gTupM, gsCons, gsNil, frz1, ownOf, noX, wipeE, e2]) ?_
    have hm1 : way.1.natAbs < 2 ^ 64 := by unfold wayP at hway; omega
    have hm2 : way.2.natAbs < 2 ^ 64 := by unfold wayP at hway; omega
    refine ws_app (own_i rfl) (d := plD (mx + way.1 * (1 + k2) / 2, my + way.2 * (1 + k2) / 2)) (S1 := S3) (by simp [bodyM, startE, q_eVar, q_eC, q_eBin, q_eChain, q_eUn, q_eNot, q_eAnd, q_eOr, q_eIf, q_aNil, q_aCons, q_eTup, q_eLst, q_aSmall, q_eCB, q_eIxOwn, q_eLenOwn, q_oNo, q_oOf, q_eSl, q_eCall, q_eCallK, q_iSeq, q_cYes, q_eLC, q_sExp, q_sNil, q_sSeq, q_sBad, q_sBrk, q_sCont, q_sRet, q_sRetN, q_sDrop, q_sIf, q_sSet, q_sSetOwn, q_sFz, q_sApp, q_sPut, q_sPutC, q_sSetCell, q_sAsg, q_sPar, q_sPar3, q_eCallL, q_eLC2, q_eNewC, q_iZip, q_sRaise, q_sTry, Rs.bind, op1, op2, opL, gAdd, gSub, gI2, gLt, gLe, gGt, gGe, gCmp, gIx, gLen, gInt, seqOf, gNeg, q_max2, q_min2, gTuple, gVar, gTupM, gsCons, gsNil, frz1, ownOf, noX, wipeE, plD, at0, at1, q_mul (.inl hm1), q_mul (.inl hm2), q_div]) (by rw [List.length_map]; omega) ⟨_, _, rfl, r ++ [(mx + way.1 * (1 + k2) / 2, my + way.2 * (1 + k2) / 2)], .val (.int i), .val (plD way), .val (.int (1 + k2)), by simp, hs3, by simp [hi]⟩
  · rintro ρ S ⟨r, a, b, c, rfl, hs, hi⟩
    rw [rangeD_len] at hi
    exact ws_fz (ws_ret (d := .lst (r.map plD)) (S1 := S) (by simp [bodyM, startE, q_eVar, q_eC, q_eBin, q_eChain, q_eUn, q_eNot, q_eAnd, q_eOr, q_eIf, q_aNil, q_aCons, q_eTup, q_eLst, q_aSmall, q_eCB, q_eIxOwn, q_eLenOwn, q_oNo, q_oOf, q_eSl, q_eCall, q_eCallK, q_iSeq, q_cYes, q_eLC, q_sExp, q_sNil, q_sSeq, q_sBad, q_sBrk, q_sCont, q_sRet, q_sRetN, q_sDrop, q_sIf, q_sSet, q_sSetOwn, q_sFz, q_sApp, q_sPut, q_sPutC, q_sSetCell, q_sAsg, q_sPar, q_sPar3, q_eCallL, q_eLC2, q_eNewC, q_iZip, q_sRaise, q_sTry, Rs.bind, op1, op2, opL, gAdd, gSub, gI2, gLt, gLe, gGt, gGe, gCmp, gIx, gLen, gInt, seqOf, gNeg, q_max2, q_min2, gTuple, gVar, gTupM, gsCons, gsNil, frz1, ownOf, noX, wipeE]) ⟨_, _, rfl, r, rfl, hi, hs⟩)
end KF
end

section
namespace KF
open PySem
theorem sq_join {s1 s2 : MS} {ρ : Env} {S : Sto} {G : RS → Prop} (Q : Env → Sto → Prop) (h1 : WS s1 ρ S fun r => ∃ ρ1 S1, r = .next ρ1 S1 ∧ Q ρ1 S1) (h2 : ∀ ρ1 S1, Q ρ1 S1 → WS s2 ρ1 S1 G) : WS (sSeq s1 s2) ρ S G := by
  obtain ⟨ρ1, S1, e, q⟩ := h1
  exact sq_ ⟨ρ1, S1, e, h2 ρ1 S1 q⟩
theorem lt_at {L : List (List Str)} {i : Nat} (h : i < L.length) : L2.atI (L.map rgD) (i : Int) = some (rgD L[i]) := by
  rw [atI_nat (by rw [List.length_map]; exact h), List.getElem_map]
theorem dr_at {L : List (List Pt)} {i : Nat} (h : i < L.length) : L2.atI (L.map rpD) (i : Int) = some (rpD L[i]) := by
  rw [atI_nat (by rw [List.length_map]; exact h), List.getElem_map]
theorem rp_at {L : List Pt} {i : Nat} (h : i < L.length) : L2.atI (L.map plD) (i : Int) = some (plD L[i]) := by
  rw [atI_nat (by rw [List.length_map]; exact h), List.getElem_map]
theorem len_rg {r : List Str} {S : Sto} : gLen [rgD r] S = some (.int r.length) := by
  unfold rgD
  simp [bodyM, startE, q_eVar, q_eC, q_eBin, q_eChain, q_eUn, q_eNot, q_eAnd, q_eOr, q_eIf, q_aNil, q_aCons, q_eTup, q_eLst, q_aSmall, q_eCB, q_eIxOwn, q_eLenOwn, q_oNo, q_oOf, q_eSl, q_eCall, q_eCallK, q_iSeq, q_cYes, q_eLC, q_sExp, q_sNil, q_sSeq, q_sBad, q_sBrk, q_sCont, q_sRet, q_sRetN, q_sDrop, q_sIf, q_sSet, q_sSetOwn, q_sFz, q_sApp, q_sPut, q_sPutC, q_sSetCell, q_sAsg, q_sPar, q_sPar3, q_eCallL, q_eLC2, q_eNewC, q_iZip, q_sRaise, q_sTry, Rs.bind, op1, op2, opL, gAdd, gSub, gI2, gLt, gLe, gGt, gGe, gCmp, gIx, gLen, gInt, seqOf, gNeg, q_max2, q_min2, gTuple, gVar, gTupM, gsCons, gsNil, frz1, ownOf, noX, wipeE]
theorem LtOk.at_ {L : List (List Str)} (h : LtOk L) {i : Nat} (hi : i < L.length) : 3 ≤ L[i].length ∧ L[i].length ≤ 8 ∧ ∀ m ∈ L[i], m ∈ manners := h.ring _ (List.getElem_mem hi)
/-- the rings of a drawing so far -/
def Sofar (L : List (List Str)) (R : List (List Pt)) (i : Nat) : Prop := R.length = i ∧ (∀ (k : Nat) (r : List Pt) (l : List Str), R[k]? = some r → L[k]? = some l → r.length = l.length) ∧ ∀ r ∈ R, ∀ p ∈ r, inB p
theorem Sofar.nil {L : List (List Str)} : Sofar L [] 0 := ⟨rfl, by simp, by simp⟩
theorem Sofar.snoc {L : List (List Str)} {R : List (List Pt)} {i : Nat} (h : Sofar L R i) (hi : i < L.length) {r : List Pt} (hl : r.length = L[i].length) (hb : ∀ p ∈ r, inB p) : Sofar L (R ++ [r]) (i + 1) := by
  obtain ⟨h1, h2, h3⟩ := h
  refine ⟨by simp [h1], fun k r' l e1 e2 => ?_, fun r' hr p hp => ?_⟩
  · by_cases hk : k < R.length
    · rw [List.getElem?_append_left hk] at e1
      exact h2 k r' l e1 e2
    · have hlt := (List.getElem?_eq_some_iff.mp e1).1
      rw [List.length_append] at hlt
      have hk2 : k = i := by simp at hlt; omega
      subst hk2
      rw [List.getElem?_append_right (by omega), h1, Nat.sub_self] at e1
      simp at e1
      subst e1
      rw [at_some hi] at e2
      cases e2
      exact hl
  · rcases List.mem_append.mp hr with h | h
    · exact h3 r' h p hp
    · rw [List.mem_singleton] at h
      subst h
      exact hb p hp
theorem Sofar.ok {L : List (List Str)} {R : List (List Pt)} (h : Sofar L R L.length) : DrOk L R := ⟨h.1, h.2.1, h.2.2⟩
theorem pt_mem {xs : List D} {k : Int} (h0 : 0 ≤ k) (h : k < xs.length) (hp : ∀ x ∈ xs, ∃ p : Pt, x = plD p) : ∃ p : Pt, L2.atI xs k = some (plD p) := by
  obtain ⟨d, e, hm⟩ := atI_mem h0 h
  obtain ⟨p, rfl⟩ := hp d hm
  exact ⟨p, e⟩
/-- the clipped places of a row -/
theorem clip_row {ρ : Env} {S : Sto} {j : Nat} {m : ME} {r : List Pt} (h : m ρ S = .ok (.lst (r.map plD)) S) (hz : r.length ≤ 10000) (hj : j < ρ.length) : (eCB gTuple (aCons (eLst (eLC [j] (iSeq m) (gVar j) cYes (eCall 1 m_f_law_clip (aCons (eVar j) aNil)))) aNil)) ρ S = .ok (rpD (r.map clipP)) S := by
  have hw : WE (eCB gTuple (aCons (eLst (eLC [j] (iSeq m) (gVar j) cYes (eCall 1 m_f_law_clip (aCons (eVar j) aNil)))) aNil)) ρ S fun d S' => d = rpD (r.map clipP) ∧ S' = S := by
    refine we_cb1 (we_lc (xs := r.map plD) (S1 := S) (fun S' => S' = S) (fun k x y => ∀ p, r[k]? = some p → y = plD (clipP p)) (by simp [bodyM, startE, q_eVar, q_eC, q_eBin, q_eChain, q_eUn, q_eNot, q_eAnd, q_eOr, q_eIf, q_aNil, q_aCons, q_eTup, q_eLst, q_aSmall, q_eCB, q_eIxOwn, q_eLenOwn, q_oNo, q_oOf, q_eSl, q_eCall, q_eCallK, q_iSeq, q_cYes, q_eLC, q_sExp, q_sNil, q_sSeq, q_sBad, q_sBrk, q_sCont, q_sRet, q_sRetN, q_sDrop, q_sIf, q_sSet, q_sSetOwn, q_sFz, q_sApp, q_sPut, q_sPutC, q_sSetCell, q_sAsg, q_sPar, q_sPar3, q_eCallL, q_eLC2, q_eNewC, q_iZip, q_sRaise, q_sTry, Rs.bind, op1, op2, opL, gAdd, gSub, gI2, gLt, gLe, gGt, gGe, gCmp, gIx, gLen, gInt, seqOf, gNeg, q_max2, q_min2, gTuple, gVar, gTupM, gsCons, gsNil, frz1, ownOf, noX, wipeE, h]) rfl ?_ ?_)
    · rintro k x S' hx rfl
      rw [List.getElem?_map] at hx
      cases q : r[k]? with
      | none => rw [q] at hx; cases hx
      | some p =>
        rw [q] at hx
        cases hx
        have hl : j < (ρ.set j Sl.un).length := by rw [List.length_set]; exact hj
        refine ⟨_, plD (clipP p), S', rfl, ?_, fun p' hp => (by cases hp; rfl), rfl⟩
        have := clip_ok p.1 p.2 S'
        simp [bodyM, startE, q_eVar, q_eC, q_eBin, q_eChain, q_eUn, q_eNot, q_eAnd, q_eOr, q_eIf, q_aNil, q_aCons, q_eTup, q_eLst, q_aSmall, q_eCB, q_eIxOwn, q_eLenOwn, q_oNo, q_oOf, q_eSl, q_eCall, q_eCallK, q_iSeq, q_cYes, q_eLC, q_sExp, q_sNil, q_sSeq, q_sBad, q_sBrk, q_sCont, q_sRet, q_sRetN, q_sDrop, q_sIf, q_sSet, q_sSetOwn, q_sFz, q_sApp, q_sPut, q_sPutC, q_sSetCell, q_sAsg, q_sPar, q_sPar3, q_eCallL, q_eLC2, q_eNewC, q_iZip, q_sRaise, q_sTry, Rs.bind, op1, op2, opL, gAdd, gSub, gI2, gLt, gLe, gGt, gGe, gCmp, gIx, gLen, gInt, seqOf, gNeg, q_max2, q_min2, gTuple, gVar, gTupM, gsCons, gsNil, frz1, ownOf, noX, wipeE, plD, List.getElem?_set, hj]
        exact this
    · rintro ys S' hl hq rfl
      have : ys = (r.map clipP).map plD := by
        apply List.ext_getElem?
        intro k
        by_cases hk : k < r.length
        · have e1 := at_some (xs := ys) (j := k) (by rw [hl, List.length_map]; exact hk)
          have := hq k _ _ (at_some (by rw [List.length_map]; exact hk)) e1 r[k] (at_some hk)
          rw [e1, this]
          simp [at_some hk]
        · rw [List.getElem?_eq_none (by rw [hl, List.length_map]; omega), List.getElem?_eq_none (by simp; omega)]
      subst this
      refine ⟨rpD (r.map clipP), ?_, rfl, rfl⟩
      have hz' : r.length ≤ sizeLine := ten_size hz
      simp [bodyM, startE, q_eVar, q_eC, q_eBin, q_eChain, q_eUn, q_eNot, q_eAnd, q_eOr, q_eIf, q_aNil, q_aCons, q_eTup, q_eLst, q_aSmall, q_eCB, q_eIxOwn, q_eLenOwn, q_oNo, q_oOf, q_eSl, q_eCall, q_eCallK, q_iSeq, q_cYes, q_eLC, q_sExp, q_sNil, q_sSeq, q_sBad, q_sBrk, q_sCont, q_sRet, q_sRetN, q_sDrop, q_sIf, q_sSet, q_sSetOwn, q_sFz, q_sApp, q_sPut, q_sPutC, q_sSetCell, q_sAsg, q_sPar, q_sPar3, q_eCallL, q_eLC2, q_eNewC, q_iZip, q_sRaise, q_sTry, Rs.bind, op1, op2, opL, gAdd, gSub, gI2, gLt, gLe, gGt, gGe, gCmp, gIx, gLen, gInt, seqOf, gNeg, q_max2, q_min2, gTuple, gVar, gTupM, gsCons, gsNil, frz1, ownOf, noX, wipeE, rpD, hz']
  obtain ⟨d, S', e, rfl, rfl⟩ := hw
  exact e
theorem clip_inB {r : List Pt} : ∀ p ∈ r.map clipP, inB p := fun p hp => by
  obtain ⟨q, _, rfl⟩ := List.mem_map.mp hp
  exact clip_in q
theorem drawing_ok {row : D} (hr : RowOk row) {L : List (List Str)} (hL : LtOk L) {S : Sto} (hs : Sp S) : ∃ d S', m_f_law_drawing [row, .cell 0, ltD L] S = .ok d S' ∧ ∃ R, d = drD R ∧ DrOk L R ∧ Sp S' := by
  unfold m_f_law_drawing
  apply body_ret
  unfold b_f_law_drawing
  refine sq_setOwn (xs := []) (S1 := S) (by simp [bodyM, startE, q_eVar, q_eC, q_eBin, q_eChain, q_eUn, q_eNot, q_eAnd, q_eOr, q_eIf, q_aNil, q_aCons, q_eTup, q_eLst, q_aSmall, q_eCB, q_eIxOwn, q_eLenOwn, q_oNo, q_oOf, q_eSl, q_eCall, q_eCallK, q_iSeq, q_cYes, q_eLC, q_sExp, q_sNil, q_sSeq, q_sBad, q_sBrk, q_sCont, q_sRet, q_sRetN, q_sDrop, q_sIf, q_sSet, q_sSetOwn, q_sFz, q_sApp, q_sPut, q_sPutC, q_sSetCell, q_sAsg, q_sPar, q_sPar3, q_eCallL, q_eLC2, q_eNewC, q_iZip, q_sRaise, q_sTry, Rs.bind, op1, op2, opL, gAdd, gSub, gI2, gLt, gLe, gGt, gGe, gCmp, gIx, gLen, gInt, seqOf, gNeg, q_max2, q_min2, gTuple, gVar, gTupM, gsCons, gsNil, frz1, ownOf, noX, wipeE]) ?_
  obtain ⟨kind, S1, e1, hk, hs1⟩ := take_ok hr (lim := 4) (by decide) hs
  refine sq_set (d := .int kind) (S1 := S1) (by simp [bodyM, startE, q_eVar, q_eC, q_eBin, q_eChain, q_eUn, q_eNot, q_eAnd, q_eOr, q_eIf, q_aNil, q_aCons, q_eTup, q_eLst, q_aSmall, q_eCB, q_eIxOwn, q_eLenOwn, q_oNo, q_oOf, q_eSl, q_eCall, q_eCallK, q_iSeq, q_cYes, q_eLC, q_sExp, q_sNil, q_sSeq, q_sBad, q_sBrk, q_sCont, q_sRet, q_sRetN, q_sDrop, q_sIf, q_sSet, q_sSetOwn, q_sFz, q_sApp, q_sPut, q_sPutC, q_sSetCell, q_sAsg, q_sPar, q_sPar3, q_eCallL, q_eLC2, q_eNewC, q_iZip, q_sRaise, q_sTry, Rs.bind, op1, op2, opL, gAdd, gSub, gI2, gLt, gLe, gGt, gGe, gCmp, gIx, gLen, gInt, seqOf, gNeg, q_max2, q_min2, gTuple, gVar, gTupM, gsCons, gsNil, frz1, ownOf, noX, wipeE, e1]) ?_
  refine sq_for (items := rangeD 0 L.length) (S1 := S1) (fun i ρ S => ∃ (R : List (List Pt)) (a5 a6 a7 a8 a9 a10 a11 a12 a13 : Sl), ρ = [.val row, .val (.cell 0), .val (ltD L), .own (R.map rpD), .val (.int kind), a5, a6, a7, a8, a9, a10, a11, a12, a13] ∧ Sp S ∧ Sofar L R i) ?_ ?_ ?_ ?_
  · exact rng1 (by simp [bodyM, startE, q_eVar, q_eC, q_eBin, q_eChain, q_eUn, q_eNot, q_eAnd, q_eOr, q_eIf, q_aNil, q_aCons, q_eTup, q_eLst, q_aSmall, q_eCB, q_eIxOwn, q_eLenOwn, q_oNo, q_oOf, q_eSl, q_eCall, q_eCallK, q_iSeq, q_cYes, q_eLC, q_sExp, q_sNil, q_sSeq, q_sBad, q_sBrk, q_sCont, q_sRet, q_sRetN, q_sDrop, q_sIf, q_sSet, q_sSetOwn, q_sFz, q_sApp, q_sPut, q_sPutC, q_sSetCell, q_sAsg, q_sPar, q_sPar3, q_eCallL, q_eLC2, q_eNewC, q_iZip, q_sRaise, q_sTry, Rs.bind, op1, op2, opL, gAdd, gSub, gI2, gLt, gLe, gGt, gGe, gCmp, gIx, gLen, gInt, seqOf, gNeg, q_max2, q_min2, gTuple, gVar, gTupM, gsCons, gsNil, frz1, ownOf, noX, wipeE, ltD]) (by have := hL.len; omega)
  · exact ⟨[], _, _, _, _, _, _, _, _, _, rfl, hs1, Sofar.nil⟩
  · rintro i x ρ S hx ⟨R, a5, a6, a7, a8, a9, a10, a11, a12, a13, rfl, hs, hR⟩
    obtain ⟨hi, rfl⟩ := range_at hx
    have hLi := hL.at_ hi
    generalize hl : L[i] = l at hLi
    refine ⟨_, rfl, ?_⟩
    have eLi : L2.atI (L.map rgD) (i : Int) = some (rgD l) := by rw [lt_at hi, hl]
    refine sq_set (d := .int l.length) (S1 := S) (by simp [bodyM, startE, q_eVar, q_eC, q_eBin, q_eChain, q_eUn, q_eNot, q_eAnd, q_eOr, q_eIf, q_aNil, q_aCons, q_eTup, q_eLst, q_aSmall, q_eCB, q_eIxOwn, q_eLenOwn, q_oNo, q_oOf, q_eSl, q_eCall, q_eCallK, q_iSeq, q_cYes, q_eLC, q_sExp, q_sNil, q_sSeq, q_sBad, q_sBrk, q_sCont, q_sRet, q_sRetN, q_sDrop, q_sIf, q_sSet, q_sSetOwn, q_sFz, q_sApp, q_sPut, q_sPutC, q_sSetCell, q_sAsg, q_sPar, q_sPar3, q_eCallL, q_eLC2, q_eNewC, q_iZip, q_sRaise, q_sTry, Rs.bind, op1, op2, opL, gAdd, gSub, gI2, gLt, gLe, gGt, gGe, gCmp, gIx, gLen, gInt, seqOf, gNeg, q_max2, q_min2, gTuple, gVar, gTupM, gsCons, gsNil, frz1, ownOf, noX, wipeE, ltD, eLi, rgD]) ?_
    obtain ⟨k1, S2, e2, hk1, hs2⟩ := take_ok hr (lim := 40) (by decide) hs
    obtain ⟨k2, S3, e3, hk2, hs3⟩ := take_ok hr (lim := 40) (by decide) hs2
    obtain ⟨mid, emid⟩ := pt_mem (xs := [plD (0, 0), plD (60 * (i : Int) - 50, 0), plD (0, 0), plD (k1 - 20, k2 - 20)]) hk.1 hk.2 (fun x hx => by
      simp only [List.mem_cons, List.not_mem_nil, or_false] at hx
      rcases hx with rfl | rfl | rfl | rfl <;> exact ⟨_, rfl⟩)
    unfold plD at emid
    dsimp only at emid
    refine sq_set (d := plD mid) (S1 := S3) (by simp [bodyM, startE, q_eVar, q_eC, q_eBin, q_eChain, q_eUn, q_eNot, q_eAnd, q_eOr, q_eIf, q_aNil, q_aCons, q_eTup, q_eLst, q_aSmall, q_eCB, q_eIxOwn, q_eLenOwn, q_oNo, q_oOf, q_eSl, q_eCall, q_eCallK, q_iSeq, q_cYes, q_eLC, q_sExp, q_sNil, q_sSeq, q_sBad, q_sBrk, q_sCont, q_sRet, q_sRetN, q_sDrop, q_sIf, q_sSet, q_sSetOwn, q_sFz, q_sApp, q_sPut, q_sPutC, q_sSetCell, q_sAsg, q_sPar, q_sPar3, q_eCallL, q_eLC2, q_eNewC, q_iZip, q_sRaise, q_sTry, Rs.bind, op1, op2, opL, gAdd, gSub, gI2, gLt, gLe, gGt, gGe, gCmp, gIx, gLen, gInt, seqOf, gNeg, q_max2, q_min2, gTuple, gVar, gTupM, gsCons, gsNil, frz1, ownOf, noX, wipeE, q_mul, e2, e3, emid, plD]) ?_
    refine sq_join (fun ρ1 S1 => ∃ (r : List Pt) (sl a8 a10 a11 a12 : Sl), ρ1 = [.val row, .val (.cell 0), .val (ltD L), .own (R.map rpD), .val (.int kind), .val (.int i), .val (.int l.length), .val (plD mid), a8, sl, a10, a11, a12, a13] ∧ (sl = .own (r.map plD) ∨ sl = .val (.lst (r.map plD))) ∧ r.length = l.length ∧ Sp S1) ?_ ?_
    · by_cases hk3 : kind < 3
      · refine ws_ifT (S1 := S3) (by simp [bodyM, startE, q_eVar, q_eC, q_eBin, q_eChain, q_eUn, q_eNot, q_eAnd, q_eOr, q_eIf, q_aNil, q_aCons, q_eTup, q_eLst, q_aSmall, q_eCB, q_eIxOwn, q_eLenOwn, q_oNo, q_oOf, q_eSl, q_eCall, q_eCallK, q_iSeq, q_cYes, q_eLC, q_sExp, q_sNil, q_sSeq, q_sBad, q_sBrk, q_sCont, q_sRet, q_sRetN, q_sDrop, q_sIf, q_sSet, q_sSetOwn, q_sFz, q_sApp, q_sPut, q_sPutC, q_sSetCell, q_sAsg, q_sPar, q_sPar3, q_eCallL, q_eLC2, q_eNewC, q_iZip, q_sRaise, q_sTry, Rs.bind, op1, op2, opL, gAdd, gSub, gI2, gLt, gLe, gGt, gGe, gCmp, gIx, gLen, gInt, seqOf, gNeg, q_max2, q_min2, gTuple, gVar, gTupM, gsCons, gsNil, frz1, ownOf, noX, wipeE, hk3]) ?_
        obtain ⟨size, esize⟩ : ∃ size : Int, L2.atI [D.int 16, .int 6, .int 16] kind = some (.int size) := by
          obtain ⟨d, e, hm⟩ := atI_mem (xs := [D.int 16, .int 6, .int 16]) hk.1 hk3
          simp only [List.mem_cons, List.not_mem_nil, or_false] at hm
          rcases hm with rfl | rfl | rfl <;> exact ⟨_, e⟩
        obtain ⟨by_, eby, hby⟩ : ∃ b : Int, (if kind = 1 then (1 : Int) else 1 + 2 * (i : Int)) = b ∧ 0 < b ∧ b < 2 ^ 64 := ⟨_, rfl, by have := hL.len; split <;> omega⟩
        refine sq_set (d := .int (size / by_)) (S1 := S3) ?_ ?_
        · by_cases h1 : kind = 1
          · rw [if_pos h1] at eby
            subst eby h1
            simp [bodyM, startE, q_eVar, q_eC, q_eBin, q_eChain, q_eUn, q_eNot, q_eAnd, q_eOr, q_eIf, q_aNil, q_aCons, q_eTup, q_eLst, q_aSmall, q_eCB, q_eIxOwn, q_eLenOwn, q_oNo, q_oOf, q_eSl, q_eCall, q_eCallK, q_iSeq, q_cYes, q_eLC, q_sExp, q_sNil, q_sSeq, q_sBad, q_sBrk, q_sCont, q_sRet, q_sRetN, q_sDrop, q_sIf, q_sSet, q_sSetOwn, q_sFz, q_sApp, q_sPut, q_sPutC, q_sSetCell, q_sAsg, q_sPar, q_sPar3, q_eCallL, q_eLC2, q_eNewC, q_iZip, q_sRaise, q_sTry, Rs.bind, op1, op2, opL, gAdd, gSub, gI2, gLt, gLe, gGt, gGe, gCmp, gIx, gLen, gInt, seqOf, gNeg, q_max2, q_min2, gTuple, gVar, gTupM, gsCons, gsNil, frz1, ownOf, noX, wipeE, esize, q_ne_int, q_div]
          · rw [if_neg h1] at eby
            simp [bodyM, startE, q_eVar, q_eC, q_eBin, q_eChain, q_eUn, q_eNot, q_eAnd, q_eOr, q_eIf, q_aNil, q_aCons, q_eTup, q_eLst, q_aSmall, q_eCB, q_eIxOwn, q_eLenOwn, q_oNo, q_oOf, q_eSl, q_eCall, q_eCallK, q_iSeq, q_cYes, q_eLC, q_sExp, q_sNil, q_sSeq, q_sBad, q_sBrk, q_sCont, q_sRet, q_sRetN, q_sDrop, q_sIf, q_sSet, q_sSetOwn, q_sFz, q_sApp, q_sPut, q_sPutC, q_sSetCell, q_sAsg, q_sPar, q_sPar3, q_eCallL, q_eLC2, q_eNewC, q_iZip, q_sRaise, q_sTry, Rs.bind, op1, op2, opL, gAdd, gSub, gI2, gLt, gLe, gGt, gGe, gCmp, gIx, gLen, gInt, seqOf, gNeg, q_max2, q_min2, gTuple, gVar, gTupM, gsCons, gsNil, frz1, ownOf, noX, wipeE, esize, q_ne_int, h1, q_mul, eby, q_div hby.1 hby.2]
        generalize size / by_ = sz
        refine sq_setOwn (xs := []) (S1 := S3) (by simp [bodyM, startE, q_eVar, q_eC, q_eBin, q_eChain, q_eUn, q_eNot, q_eAnd, q_eOr, q_eIf, q_aNil, q_aCons, q_eTup, q_eLst, q_aSmall, q_eCB, q_eIxOwn, q_eLenOwn, q_oNo, q_oOf, q_eSl, q_eCall, q_eCallK, q_iSeq, q_cYes, q_eLC, q_sExp, q_sNil, q_sSeq, q_sBad, q_sBrk, q_sCont, q_sRet, q_sRetN, q_sDrop, q_sIf, q_sSet, q_sSetOwn, q_sFz, q_sApp, q_sPut, q_sPutC, q_sSetCell, q_sAsg, q_sPar, q_sPar3, q_eCallL, q_eLC2, q_eNewC, q_iZip, q_sRaise, q_sTry, Rs.bind, op1, op2, opL, gAdd, gSub, gI2, gLt, gLe, gGt, gGe, gCmp, gIx, gLen, gInt, seqOf, gNeg, q_max2, q_min2, gTuple, gVar, gTupM, gsCons, gsNil, frz1, ownOf, noX, wipeE]) ?_
        refine ws_for (items := rangeD 0 l.length) (S1 := S3) (fun j ρ S => ∃ (r : List Pt) (a10 a11 a12 : Sl), ρ = [.val row, .val (.cell 0), .val (ltD L), .own (R.map rpD), .val (.int kind), .val (.int i), .val (.int l.length), .val (plD mid), .val (.int sz), .own (r.map plD), a10, a11, a12, a13] ∧ Sp S ∧ r.length = j) ?_ ?_ ?_ ?_
        · exact rng1 (by simp [bodyM, startE, q_eVar, q_eC, q_eBin, q_eChain, q_eUn, q_eNot, q_eAnd, q_eOr, q_eIf, q_aNil, q_aCons, q_eTup, q_eLst, q_aSmall, q_eCB, q_eIxOwn, q_eLenOwn, q_oNo, q_oOf, q_eSl, q_eCall, q_eCallK, q_iSeq, q_cYes, q_eLC, q_sExp, q_sNil, q_sSeq, q_sBad, q_sBrk, q_sCont, q_sRet, q_sRetN, q_sDrop, q_sIf, q_sSet, q_sSetOwn, q_sFz, q_sApp, q_sPut, q_sPutC, q_sSetCell, q_sAsg, q_sPar, q_sPar3, q_eCallL, q_eLC2, q_eNewC, q_iZip, q_sRaise, q_sTry, Rs.bind, op1, op2, opL, gAdd, gSub, gI2, gLt, gLe, gGt, gGe, gCmp, gIx, gLen, gInt, seqOf, gNeg, q_max2, q_min2, gTuple, gVar, gTupM, gsCons, gsNil, frz1, ownOf, noX, wipeE]) (by omega)
        · exact ⟨[], _, _, _, rfl, hs3, rfl⟩
        · rintro j x ρ S hx ⟨r, a10, a11, a12, rfl, hs, hj⟩
          obtain ⟨hj2, rfl⟩ := range_at hx
          refine ⟨_, rfl, ?_⟩
          obtain ⟨way, eway, hway⟩ := ways_at (12 * (j : Int) / l.length)
          refine sq_set (d := plD way) (S1 := S) (by simp [bodyM, startE, q_eVar, q_eC, q_eBin, q_eChain, q_eUn, q_eNot, q_eAnd, q_eOr, q_eIf, q_aNil, q_aCons, q_eTup, q_eLst, q_aSmall, q_eCB, q_eIxOwn, q_eLenOwn, q_oNo, q_oOf, q_eSl, q_eCall, q_eCallK, q_iSeq, q_cYes, q_eLC, q_sExp, q_sNil, q_sSeq, q_sBad, q_sBrk, q_sCont, q_sRet, q_sRetN, q_sDrop, q_sIf, q_sSet, q_sSetOwn, q_sFz, q_sApp, q_sPut, q_sPutC, q_sSetCell, q_sAsg, q_sPar, q_sPar3, q_eCallL, q_eLC2, q_eNewC, q_iZip, q_sRaise, q_sTry, Rs.bind, op1, op2, opL, gAdd, gSub, gI2, gLt, gLe, gGt, gGe, gCmp, gIx, gLen, gInt, seqOf, gNeg, q_max2, q_min2, gTuple, gVar, gTupM, gsCons, gsNil, frz1, ownOf, noX, wipeE, ways_ok, q_mul, q_div (show (0 : Int) < l.length by omega) (by omega), q_mod, eway]) ?_
          obtain ⟨k3, S4, e4, hk4, hs4⟩ := take_ok hr (lim := 2) (by decide) hs
          refine sq_set (d := .int (max 2 (sz - k3))) (S1 := S4) (by simp [bodyM, startE, q_eVar, q_eC, q_eBin, q_eChain, q_eUn, q_eNot, q_eAnd, q_eOr, q_eIf, q_aNil, q_aCons, q_eTup, q_eLst, q_aSmall, q_eCB, q_eIxOwn, q_eLenOwn, q_oNo, q_oOf, q_eSl, q_eCall, q_eCallK, q_iSeq, q_cYes, q_eLC, q_sExp, q_sNil, q_sSeq, q_sBad, q_sBrk, q_sCont, q_sRet, q_sRetN, q_sDrop, q_sIf, q_sSet, q_sSetOwn, q_sFz, q_sApp, q_sPut, q_sPutC, q_sSetCell, q_sAsg, q_sPar, q_sPar3, q_eCallL, q_eLC2, q_eNewC, q_iZip, q_sRaise, q_sTry, Rs.bind, op1, op2, opL, gAdd, gSub, gI2, gLt, gLe, gGt, gGe, gCmp, gIx, gLen, gInt, seqOf, gNeg, q_max2, q_min2, gTuple, gVar, gTupM, gsCons, gsNil, frz1, ownOf, noX, wipeE, e4]) ?_
          generalize max 2 (sz - k3) = far
          have hm1 : way.1.natAbs < 2 ^ 64 := by unfold wayP at hway; omega
          have hm2 : way.2.natAbs < 2 ^ 64 := by unfold wayP at hway; omega
          exact ws_app (own_i rfl) (d := plD (mid.1 + way.1 * far / 2, mid.2 + way.2 * far / 2)) (S1 := S4) (by simp [bodyM, startE, q_eVar, q_eC, q_eBin, q_eChain, q_eUn, q_eNot, q_eAnd, q_eOr, q_eIf, q_aNil, q_aCons, q_eTup, q_eLst, q_aSmall, q_eCB, q_eIxOwn, q_eLenOwn, q_oNo, q_oOf, q_eSl, q_eCall, q_eCallK, q_iSeq, q_cYes, q_eLC, q_sExp, q_sNil, q_sSeq, q_sBad, q_sBrk, q_sCont, q_sRet, q_sRetN, q_sDrop, q_sIf, q_sSet, q_sSetOwn, q_sFz, q_sApp, q_sPut, q_sPutC, q_sSetCell, q_sAsg, q_sPar, q_sPar3, q_eCallL, q_eLC2, q_eNewC, q_iZip, q_sRaise, q_sTry, Rs.bind, op1, op2, opL, gAdd, gSub, gI2, gLt, gLe, gGt, gGe, gCmp, gIx, gLen, gInt, seqOf, gNeg, q_max2, q_min2, gTuple, gVar, gTupM, gsCons, gsNil, frz1, ownOf, noX, wipeE, plD, at0, at1, q_mul (.inl hm1), q_mul (.inl hm2), q_div]) (by rw [List.length_map]; omega) ⟨_, _, rfl, r ++ [(mid.1 + way.1 * far / 2, mid.2 + way.2 * far / 2)], .val (.int j), .val (plD way), .val (.int far), by simp, hs4, by simp [hj]⟩
        · rintro ρ S ⟨r, a10, a11, a12, rfl, hs, hj⟩
          rw [rangeD_len] at hj
          exact ⟨_, _, rfl, r, _, _, _, _, _, rfl, .inl rfl, hj, hs⟩
      · obtain ⟨d, S4, e4, r, rfl, hrl, hs4⟩ := ring_places_ok hr hs3 (many := l.length) (by omega) mid.1 mid.2 (size := 9) (by decide)
        refine ws_ifF (S1 := S3) (by simp [bodyM, startE, q_eVar, q_eC, q_eBin, q_eChain, q_eUn, q_eNot, q_eAnd, q_eOr, q_eIf, q_aNil, q_aCons, q_eTup, q_eLst, q_aSmall, q_eCB, q_eIxOwn, q_eLenOwn, q_oNo, q_oOf, q_eSl, q_eCall, q_eCallK, q_iSeq, q_cYes, q_eLC, q_sExp, q_sNil, q_sSeq, q_sBad, q_sBrk, q_sCont, q_sRet, q_sRetN, q_sDrop, q_sIf, q_sSet, q_sSetOwn, q_sFz, q_sApp, q_sPut, q_sPutC, q_sSetCell, q_sAsg, q_sPar, q_sPar3, q_eCallL, q_eLC2, q_eNewC, q_iZip, q_sRaise, q_sTry, Rs.bind, op1, op2, opL, gAdd, gSub, gI2, gLt, gLe, gGt, gGe, gCmp, gIx, gLen, gInt, seqOf, gNeg, q_max2, q_min2, gTuple, gVar, gTupM, gsCons, gsNil, frz1, ownOf, noX, wipeE, hk3]) ?_
        exact ws_set (d := .lst (r.map plD)) (S1 := S4) (by simp [bodyM, startE, q_eVar, q_eC, q_eBin, q_eChain, q_eUn, q_eNot, q_eAnd, q_eOr, q_eIf, q_aNil, q_aCons, q_eTup, q_eLst, q_aSmall, q_eCB, q_eIxOwn, q_eLenOwn, q_oNo, q_oOf, q_eSl, q_eCall, q_eCallK, q_iSeq, q_cYes, q_eLC, q_sExp, q_sNil, q_sSeq, q_sBad, q_sBrk, q_sCont, q_sRet, q_sRetN, q_sDrop, q_sIf, q_sSet, q_sSetOwn, q_sFz, q_sApp, q_sPut, q_sPutC, q_sSetCell, q_sAsg, q_sPar, q_sPar3, q_eCallL, q_eLC2, q_eNewC, q_iZip, q_sRaise, q_sTry, Rs.bind, op1, op2, opL, gAdd, gSub, gI2, gLt, gLe, gGt, gGe, gCmp, gIx, gLen, gInt, seqOf, gNeg, q_max2, q_min2, gTuple, gVar, gTupM, gsCons, gsNil, frz1, ownOf, noX, wipeE, plD, e4]) ⟨_, _, rfl, r, .val (.lst (r.map plD)), _, _, _, _, rfl, .inr rfl, hrl, hs4⟩
    · rintro ρ1 S4 ⟨r, sl, a8, a10, a11, a12, rfl, hsl, hrl, hs4⟩
      refine ws_fz ?_
      have efz : frz1 9 [.val row, .val (.cell 0), .val (ltD L), .own (R.map rpD), .val (.int kind), .val (.int i), .val (.int l.length), .val (plD mid), a8, sl, a10, a11, a12, a13] = [.val row, .val (.cell 0), .val (ltD L), .own (R.map rpD), .val (.int kind), .val (.int i), .val (.int l.length), .val (plD mid), a8, .val (.lst (r.map plD)), a10, a11, a12, a13] := by
        rcases hsl with rfl | rfl <;> rfl
      rw [efz]
      refine ws_app (own_i rfl) (d := rpD (r.map clipP)) (S1 := S4) (clip_row (by simp [bodyM, startE, q_eVar, q_eC, q_eBin, q_eChain, q_eUn, q_eNot, q_eAnd, q_eOr, q_eIf, q_aNil, q_aCons, q_eTup, q_eLst, q_aSmall, q_eCB, q_eIxOwn, q_eLenOwn, q_oNo, q_oOf, q_eSl, q_eCall, q_eCallK, q_iSeq, q_cYes, q_eLC, q_sExp, q_sNil, q_sSeq, q_sBad, q_sBrk, q_sCont, q_sRet, q_sRetN, q_sDrop, q_sIf, q_sSet, q_sSetOwn, q_sFz, q_sApp, q_sPut, q_sPutC, q_sSetCell, q_sAsg, q_sPar, q_sPar3, q_eCallL, q_eLC2, q_eNewC, q_iZip, q_sRaise, q_sTry, Rs.bind, op1, op2, opL, gAdd, gSub, gI2, gLt, gLe, gGt, gGe, gCmp, gIx, gLen, gInt, seqOf, gNeg, q_max2, q_min2, gTuple, gVar, gTupM, gsCons, gsNil, frz1, ownOf, noX, wipeE]) (by omega) (by simp)) (by rw [List.length_map]; have := hR.1; have := hL.len; omega) ⟨_, _, rfl, R ++ [r.map clipP], _, _, _, _, _, _, _, _, _, by rw [List.map_append]; rfl, hs4, hR.snoc hi (by rw [List.length_map, hrl, hl]) clip_inB⟩
  · rintro ρ S ⟨R, a5, a6, a7, a8, a9, a10, a11, a12, a13, rfl, hs, hR⟩
    rw [rangeD_len] at hR
    refine ws_fz (ws_ret (d := drD R) (S1 := S) (by simp [bodyM, startE, q_eVar, q_eC, q_eBin, q_eChain, q_eUn, q_eNot, q_eAnd, q_eOr, q_eIf, q_aNil, q_aCons, q_eTup, q_eLst, q_aSmall, q_eCB, q_eIxOwn, q_eLenOwn, q_oNo, q_oOf, q_eSl, q_eCall, q_eCallK, q_iSeq, q_cYes, q_eLC, q_sExp, q_sNil, q_sSeq, q_sBad, q_sBrk, q_sCont, q_sRet, q_sRetN, q_sDrop, q_sIf, q_sSet, q_sSetOwn, q_sFz, q_sApp, q_sPut, q_sPutC, q_sSetCell, q_sAsg, q_sPar, q_sPar3, q_eCallL, q_eLC2, q_eNewC, q_iZip, q_sRaise, q_sTry, Rs.bind, op1, op2, opL, gAdd, gSub, gI2, gLt, gLe, gGt, gGe, gCmp, gIx, gLen, gInt, seqOf, gNeg, q_max2, q_min2, gTuple, gVar, gTupM, gsCons, gsNil, frz1, ownOf, noX, wipeE, ten_size (show R.length ≤ 10000 by have := hR.1; have := hL.len; omega), drD]) ⟨_, _, rfl, R, rfl, hR.ok, hs⟩)
end KF
end

section
namespace KF
open PySem
theorem small_mul {a b : Int} (h : -1000 ≤ a ∧ a ≤ 1000) : a.natAbs < 2 ^ 64 ∨ b.natAbs < 2 ^ 64 := .inl (by omega)
theorem DrOk.lens {L : List (List Str)} {R : List (List Pt)} (h : DrOk L R) {i : Nat} (hi : i < R.length) (hi2 : i < L.length) : R[i].length = L[i].length := h.ring i _ _ (at_some hi) (at_some hi2)
theorem varied_ok {row : D} (hr : RowOk row) {L : List (List Str)} (hL : LtOk L) {R : List (List Pt)} (hR : DrOk L R) {S : Sto} (hs : Sp S) : ∃ d S', m_f_law_varied [row, .cell 0, drD R] S = .ok d S' ∧ ∃ R', d = drD R' ∧ DrOk L R' ∧ Sp S' := by
  unfold m_f_law_varied
  apply body_ret
  unfold b_f_law_varied
  have hlen := hL.len
  refine sq_setOwn (xs := []) (S1 := S) (by simp [bodyM, startE, q_eVar, q_eC, q_eBin, q_eChain, q_eUn, q_eNot, q_eAnd, q_eOr, q_eIf, q_aNil, q_aCons, q_eTup, q_eLst, q_aSmall, q_eCB, q_eIxOwn, q_eLenOwn, q_oNo, q_oOf, q_eSl, q_eCall, q_eCallK, q_iSeq, q_cYes, q_eLC, q_sExp, q_sNil, q_sSeq, q_sBad, q_sBrk, q_sCont, q_sRet, q_sRetN, q_sDrop, q_sIf, q_sSet, q_sSetOwn, q_sFz, q_sApp, q_sPut, q_sPutC, q_sSetCell, q_sAsg, q_sPar, q_sPar3, q_eCallL, q_eLC2, q_eNewC, q_iZip, q_sRaise, q_sTry, Rs.bind, op1, op2, opL, gAdd, gSub, gI2, gLt, gLe, gGt, gGe, gCmp, gIx, gLen, gInt, seqOf, gNeg, q_max2, q_min2, gTuple, gVar, gTupM, gsCons, gsNil, frz1, ownOf, noX, wipeE]) ?_
  obtain ⟨k1, S1, e1, hk1, hs1⟩ := take_ok hr (lim := 9) (by decide) hs
  obtain ⟨k2, S2, e2, hk2, hs2⟩ := take_ok hr (lim := 9) (by decide) hs1
  refine sq_set (d := plD (k1 - 4, k2 - 4)) (S1 := S2) (by simp [bodyM, startE, q_eVar, q_eC, q_eBin, q_eChain, q_eUn, q_eNot, q_eAnd, q_eOr, q_eIf, q_aNil, q_aCons, q_eTup, q_eLst, q_aSmall, q_eCB, q_eIxOwn, q_eLenOwn, q_oNo, q_oOf, q_eSl, q_eCall, q_eCallK, q_iSeq, q_cYes, q_eLC, q_sExp, q_sNil, q_sSeq, q_sBad, q_sBrk, q_sCont, q_sRet, q_sRetN, q_sDrop, q_sIf, q_sSet, q_sSetOwn, q_sFz, q_sApp, q_sPut, q_sPutC, q_sSetCell, q_sAsg, q_sPar, q_sPar3, q_eCallL, q_eLC2, q_eNewC, q_iZip, q_sRaise, q_sTry, Rs.bind, op1, op2, opL, gAdd, gSub, gI2, gLt, gLe, gGt, gGe, gCmp, gIx, gLen, gInt, seqOf, gNeg, q_max2, q_min2, gTuple, gVar, gTupM, gsCons, gsNil, frz1, ownOf, noX, wipeE, e1, e2, plD]) ?_
  obtain ⟨k3, S3, e3, hk3, hs3⟩ := take_ok hr (lim := 4) (by decide) hs2
  obtain ⟨wide, ew, hw⟩ : ∃ wide : Int, L2.atI [D.int 1, .int 3, .int 9, .int 40] k3 = some (.int wide) ∧ 1 ≤ wide ∧ wide ≤ 40 := by
    obtain ⟨d, e, hm⟩ := atI_mem (xs := [D.int 1, .int 3, .int 9, .int 40]) hk3.1 hk3.2
    simp only [List.mem_cons, List.not_mem_nil, or_false] at hm
    rcases hm with rfl | rfl | rfl | rfl <;> exact ⟨_, e, by decide, by decide⟩
  refine sq_set (d := .int wide) (S1 := S3) (by simp [bodyM, startE, q_eVar, q_eC, q_eBin, q_eChain, q_eUn, q_eNot, q_eAnd, q_eOr, q_eIf, q_aNil, q_aCons, q_eTup, q_eLst, q_aSmall, q_eCB, q_eIxOwn, q_eLenOwn, q_oNo, q_oOf, q_eSl, q_eCall, q_eCallK, q_iSeq, q_cYes, q_eLC, q_sExp, q_sNil, q_sSeq, q_sBad, q_sBrk, q_sCont, q_sRet, q_sRetN, q_sDrop, q_sIf, q_sSet, q_sSetOwn, q_sFz, q_sApp, q_sPut, q_sPutC, q_sSetCell, q_sAsg, q_sPar, q_sPar3, q_eCallL, q_eLC2, q_eNewC, q_iZip, q_sRaise, q_sTry, Rs.bind, op1, op2, opL, gAdd, gSub, gI2, gLt, gLe, gGt, gGe, gCmp, gIx, gLen, gInt, seqOf, gNeg, q_max2, q_min2, gTuple, gVar, gTupM, gsCons, gsNil, frz1, ownOf, noX, wipeE, e3, ew]) ?_
  obtain ⟨k4, S4, e4, hk4, hs4⟩ := take_ok hr (lim := 4) (by decide) hs3
  refine sq_set (d := .int (1 + k4)) (S1 := S4) (by simp [bodyM, startE, q_eVar, q_eC, q_eBin, q_eChain, q_eUn, q_eNot, q_eAnd, q_eOr, q_eIf, q_aNil, q_aCons, q_eTup, q_eLst, q_aSmall, q_eCB, q_eIxOwn, q_eLenOwn, q_oNo, q_oOf, q_eSl, q_eCall, q_eCallK, q_iSeq, q_cYes, q_eLC, q_sExp, q_sNil, q_sSeq, q_sBad, q_sBrk, q_sCont, q_sRet, q_sRetN, q_sDrop, q_sIf, q_sSet, q_sSetOwn, q_sFz, q_sApp, q_sPut, q_sPutC, q_sSetCell, q_sAsg, q_sPar, q_sPar3, q_eCallL, q_eLC2, q_eNewC, q_iZip, q_sRaise, q_sTry, Rs.bind, op1, op2, opL, gAdd, gSub, gI2, gLt, gLe, gGt, gGe, gCmp, gIx, gLen, gInt, seqOf, gNeg, q_max2, q_min2, gTuple, gVar, gTupM, gsCons, gsNil, frz1, ownOf, noX, wipeE, e4]) ?_
  refine sq_for (items := R.map rpD) (S1 := S4) (fun i ρ S => ∃ (R' : List (List Pt)) (a7 a8 a9 a10 a11 : Sl), ρ = [.val row, .val (.cell 0), .val (drD R), .own (R'.map rpD), .val (plD (k1 - 4, k2 - 4)), .val (.int wide), .val (.int (1 + k4)), a7, a8, a9, a10, a11] ∧ Sp S ∧ Sofar L R' i) ?_ ?_ ?_ ?_
  · simp [bodyM, startE, q_eVar, q_eC, q_eBin, q_eChain, q_eUn, q_eNot, q_eAnd, q_eOr, q_eIf, q_aNil, q_aCons, q_eTup, q_eLst, q_aSmall, q_eCB, q_eIxOwn, q_eLenOwn, q_oNo, q_oOf, q_eSl, q_eCall, q_eCallK, q_iSeq, q_cYes, q_eLC, q_sExp, q_sNil, q_sSeq, q_sBad, q_sBrk, q_sCont, q_sRet, q_sRetN, q_sDrop, q_sIf, q_sSet, q_sSetOwn, q_sFz, q_sApp, q_sPut, q_sPutC, q_sSetCell, q_sAsg, q_sPar, q_sPar3, q_eCallL, q_eLC2, q_eNewC, q_iZip, q_sRaise, q_sTry, Rs.bind, op1, op2, opL, gAdd, gSub, gI2, gLt, gLe, gGt, gGe, gCmp, gIx, gLen, gInt, seqOf, gNeg, q_max2, q_min2, gTuple, gVar, gTupM, gsCons, gsNil, frz1, ownOf, noX, wipeE, drD]
  · exact ⟨[], _, _, _, _, _, rfl, hs4, Sofar.nil⟩
  · rintro i x ρ S hx ⟨R', a7, a8, a9, a10, a11, rfl, hs, hR'⟩
    have hi : i < R.length := by have := (List.getElem?_eq_some_iff.mp hx).1; rwa [List.length_map] at this
    have hi2 : i < L.length := by rw [← hR.len]; exact hi
    rw [at_some (by rw [List.length_map]; exact hi), List.getElem_map] at hx
    cases hx
    have hrl := hR.lens hi hi2
    have hLi := hL.at_ hi2
    generalize R[i] = r at hrl
    refine ⟨_, rfl, ?_⟩
    refine sq_setOwn (xs := []) (S1 := S) (by simp [bodyM, startE, q_eVar, q_eC, q_eBin, q_eChain, q_eUn, q_eNot, q_eAnd, q_eOr, q_eIf, q_aNil, q_aCons, q_eTup, q_eLst, q_aSmall, q_eCB, q_eIxOwn, q_eLenOwn, q_oNo, q_oOf, q_eSl, q_eCall, q_eCallK, q_iSeq, q_cYes, q_eLC, q_sExp, q_sNil, q_sSeq, q_sBad, q_sBrk, q_sCont, q_sRet, q_sRetN, q_sDrop, q_sIf, q_sSet, q_sSetOwn, q_sFz, q_sApp, q_sPut, q_sPutC, q_sSetCell, q_sAsg, q_sPar, q_sPar3, q_eCallL, q_eLC2, q_eNewC, q_iZip, q_sRaise, q_sTry, Rs.bind, op1, op2, opL, gAdd, gSub, gI2, gLt, gLe, gGt, gGe, gCmp, gIx, gLen, gInt, seqOf, gNeg, q_max2, q_min2, gTuple, gVar, gTupM, gsCons, gsNil, frz1, ownOf, noX, wipeE]) ?_
    refine sq_for (items := r.map plD) (S1 := S) (fun j ρ S => ∃ (q : List Pt) (a9 a10 a11 : Sl), ρ = [.val row, .val (.cell 0), .val (drD R), .own (R'.map rpD), .val (plD (k1 - 4, k2 - 4)), .val (.int wide), .val (.int (1 + k4)), .val (rpD r), .own (q.map plD), a9, a10, a11] ∧ Sp S ∧ q.length = j ∧ ∀ p ∈ q, inB p) ?_ ?_ ?_ ?_
    · simp [bodyM, startE, q_eVar, q_eC, q_eBin, q_eChain, q_eUn, q_eNot, q_eAnd, q_eOr, q_eIf, q_aNil, q_aCons, q_eTup, q_eLst, q_aSmall, q_eCB, q_eIxOwn, q_eLenOwn, q_oNo, q_oOf, q_eSl, q_eCall, q_eCallK, q_iSeq, q_cYes, q_eLC, q_sExp, q_sNil, q_sSeq, q_sBad, q_sBrk, q_sCont, q_sRet, q_sRetN, q_sDrop, q_sIf, q_sSet, q_sSetOwn, q_sFz, q_sApp, q_sPut, q_sPutC, q_sSetCell, q_sAsg, q_sPar, q_sPar3, q_eCallL, q_eLC2, q_eNewC, q_iZip, q_sRaise, q_sTry, Rs.bind, op1, op2, opL, gAdd, gSub, gI2, gLt, gLe, gGt, gGe, gCmp, gIx, gLen, gInt, seqOf, gNeg, q_max2, q_min2, gTuple, gVar, gTupM, gsCons, gsNil, frz1, ownOf, noX, wipeE, rpD]
    · exact ⟨[], _, _, _, rfl, hs, rfl, by simp⟩
    · rintro j x ρ S hx ⟨q, a9, a10, a11, rfl, hs, hj, hq⟩
      have hj2 : j < r.length := by have := (List.getElem?_eq_some_iff.mp hx).1; rwa [List.length_map] at this
      rw [at_some (by rw [List.length_map]; exact hj2), List.getElem_map] at hx
      cases hx
      generalize r[j] = p
      refine ⟨_, rfl, ?_⟩
      obtain ⟨k5, S5, e5, hk5, hs5⟩ := take_ok hr (lim := 1 + k4) (by omega) hs
      refine sq_join (fun ρ1 S1 => ∃ (p : Pt) (a10 a11 : Sl), ρ1 = [.val row, .val (.cell 0), .val (drD R), .own (R'.map rpD), .val (plD (k1 - 4, k2 - 4)), .val (.int wide), .val (.int (1 + k4)), .val (rpD r), .own (q.map plD), .val (plD p), a10, a11] ∧ Sp S1) ?_ ?_
      · by_cases h0 : k5 = 0
        · refine ws_ifT (S1 := S5) (by simp [bodyM, startE, q_eVar, q_eC, q_eBin, q_eChain, q_eUn, q_eNot, q_eAnd, q_eOr, q_eIf, q_aNil, q_aCons, q_eTup, q_eLst, q_aSmall, q_eCB, q_eIxOwn, q_eLenOwn, q_oNo, q_oOf, q_eSl, q_eCall, q_eCallK, q_iSeq, q_cYes, q_eLC, q_sExp, q_sNil, q_sSeq, q_sBad, q_sBrk, q_sCont, q_sRet, q_sRetN, q_sDrop, q_sIf, q_sSet, q_sSetOwn, q_sFz, q_sApp, q_sPut, q_sPutC, q_sSetCell, q_sAsg, q_sPar, q_sPar3, q_eCallL, q_eLC2, q_eNewC, q_iZip, q_sRaise, q_sTry, Rs.bind, op1, op2, opL, gAdd, gSub, gI2, gLt, gLe, gGt, gGe, gCmp, gIx, gLen, gInt, seqOf, gNeg, q_max2, q_min2, gTuple, gVar, gTupM, gsCons, gsNil, frz1, ownOf, noX, wipeE, e5, q_eq_int, h0]) ?_
          obtain ⟨k6, S6, e6, hk6, hs6⟩ := take_ok hr (lim := 2 * wide + 1) (by omega) hs5
          obtain ⟨k7, S7, e7, hk7, hs7⟩ := take_ok hr (lim := 2 * wide + 1) (by omega) hs6
          refine sq_par (d1 := .int (k6 - wide)) (d2 := .int (k7 - wide)) (S1 := S7) (by simp [bodyM, startE, q_eVar, q_eC, q_eBin, q_eChain, q_eUn, q_eNot, q_eAnd, q_eOr, q_eIf, q_aNil, q_aCons, q_eTup, q_eLst, q_aSmall, q_eCB, q_eIxOwn, q_eLenOwn, q_oNo, q_oOf, q_eSl, q_eCall, q_eCallK, q_iSeq, q_cYes, q_eLC, q_sExp, q_sNil, q_sSeq, q_sBad, q_sBrk, q_sCont, q_sRet, q_sRetN, q_sDrop, q_sIf, q_sSet, q_sSetOwn, q_sFz, q_sApp, q_sPut, q_sPutC, q_sSetCell, q_sAsg, q_sPar, q_sPar3, q_eCallL, q_eLC2, q_eNewC, q_iZip, q_sRaise, q_sTry, Rs.bind, op1, op2, opL, gAdd, gSub, gI2, gLt, gLe, gGt, gGe, gCmp, gIx, gLen, gInt, seqOf, gNeg, q_max2, q_min2, gTuple, gVar, gTupM, gsCons, gsNil, frz1, ownOf, noX, wipeE, q_mul, e6, e7]) ?_
          exact ws_set (d := plD (p.1 + (k6 - wide), p.2 + (k7 - wide))) (S1 := S7) (by simp [bodyM, startE, q_eVar, q_eC, q_eBin, q_eChain, q_eUn, q_eNot, q_eAnd, q_eOr, q_eIf, q_aNil, q_aCons, q_eTup, q_eLst, q_aSmall, q_eCB, q_eIxOwn, q_eLenOwn, q_oNo, q_oOf, q_eSl, q_eCall, q_eCallK, q_iSeq, q_cYes, q_eLC, q_sExp, q_sNil, q_sSeq, q_sBad, q_sBrk, q_sCont, q_sRet, q_sRetN, q_sDrop, q_sIf, q_sSet, q_sSetOwn, q_sFz, q_sApp, q_sPut, q_sPutC, q_sSetCell, q_sAsg, q_sPar, q_sPar3, q_eCallL, q_eLC2, q_eNewC, q_iZip, q_sRaise, q_sTry, Rs.bind, op1, op2, opL, gAdd, gSub, gI2, gLt, gLe, gGt, gGe, gCmp, gIx, gLen, gInt, seqOf, gNeg, q_max2, q_min2, gTuple, gVar, gTupM, gsCons, gsNil, frz1, ownOf, noX, wipeE, plD, at0, at1]) ⟨_, _, rfl, (p.1 + (k6 - wide), p.2 + (k7 - wide)), _, _, rfl, hs7⟩
        · exact ws_ifF (S1 := S5) (by simp [bodyM, startE, q_eVar, q_eC, q_eBin, q_eChain, q_eUn, q_eNot, q_eAnd, q_eOr, q_eIf, q_aNil, q_aCons, q_eTup, q_eLst, q_aSmall, q_eCB, q_eIxOwn, q_eLenOwn, q_oNo, q_oOf, q_eSl, q_eCall, q_eCallK, q_iSeq, q_cYes, q_eLC, q_sExp, q_sNil, q_sSeq, q_sBad, q_sBrk, q_sCont, q_sRet, q_sRetN, q_sDrop, q_sIf, q_sSet, q_sSetOwn, q_sFz, q_sApp, q_sPut, q_sPutC, q_sSetCell, q_sAsg, q_sPar, q_sPar3, q_eCallL, q_eLC2, q_eNewC, q_iZip, q_sRaise, q_sTry, Rs.bind, op1, op2, opL, gAdd, gSub, gI2, gLt, gLe, gGt, gGe, gCmp, gIx, gLen, gInt, seqOf, gNeg, q_max2, q_min2, gTuple, gVar, gTupM, gsCons, gsNil, frz1, ownOf, noX, wipeE, e5, q_eq_int, h0]) (ws_nil ⟨_, _, rfl, p, _, _, rfl, hs5⟩)
      · rintro ρ1 S6 ⟨p, b10, b11, rfl, hs6⟩
        refine ws_app (own_i rfl) (d := plD (clipP (p.1 + (k1 - 4), p.2 + (k2 - 4)))) (S1 := S6) (by simp [bodyM, startE, q_eVar, q_eC, q_eBin, q_eChain, q_eUn, q_eNot, q_eAnd, q_eOr, q_eIf, q_aNil, q_aCons, q_eTup, q_eLst, q_aSmall, q_eCB, q_eIxOwn, q_eLenOwn, q_oNo, q_oOf, q_eSl, q_eCall, q_eCallK, q_iSeq, q_cYes, q_eLC, q_sExp, q_sNil, q_sSeq, q_sBad, q_sBrk, q_sCont, q_sRet, q_sRetN, q_sDrop, q_sIf, q_sSet, q_sSetOwn, q_sFz, q_sApp, q_sPut, q_sPutC, q_sSetCell, q_sAsg, q_sPar, q_sPar3, q_eCallL, q_eLC2, q_eNewC, q_iZip, q_sRaise, q_sTry, Rs.bind, op1, op2, opL, gAdd, gSub, gI2, gLt, gLe, gGt, gGe, gCmp, gIx, gLen, gInt, seqOf, gNeg, q_max2, q_min2, gTuple, gVar, gTupM, gsCons, gsNil, frz1, ownOf, noX, wipeE, plD, at0, at1]; exact clip_ok _ _ _) (by rw [List.length_map]; omega) ⟨_, _, rfl, q ++ [clipP (p.1 + (k1 - 4), p.2 + (k2 - 4))], _, _, _, by rw [List.map_append]; rfl, hs6, by simp [hj], ?_⟩
        intro p' hp'
        rcases List.mem_append.mp hp' with h | h
        · exact hq p' h
        · rw [List.mem_singleton.mp h]
          exact clip_in _
    · rintro ρ S ⟨q, a9, a10, a11, rfl, hs, hj, hq⟩
      rw [List.length_map] at hj
      refine ws_fz ?_
      refine ws_app (xs := R'.map rpD) (own_i rfl) (d := rpD q) (S1 := S) (by simp [bodyM, startE, q_eVar, q_eC, q_eBin, q_eChain, q_eUn, q_eNot, q_eAnd, q_eOr, q_eIf, q_aNil, q_aCons, q_eTup, q_eLst, q_aSmall, q_eCB, q_eIxOwn, q_eLenOwn, q_oNo, q_oOf, q_eSl, q_eCall, q_eCallK, q_iSeq, q_cYes, q_eLC, q_sExp, q_sNil, q_sSeq, q_sBad, q_sBrk, q_sCont, q_sRet, q_sRetN, q_sDrop, q_sIf, q_sSet, q_sSetOwn, q_sFz, q_sApp, q_sPut, q_sPutC, q_sSetCell, q_sAsg, q_sPar, q_sPar3, q_eCallL, q_eLC2, q_eNewC, q_iZip, q_sRaise, q_sTry, Rs.bind, op1, op2, opL, gAdd, gSub, gI2, gLt, gLe, gGt, gGe, gCmp, gIx, gLen, gInt, seqOf, gNeg, q_max2, q_min2, gTuple, gVar, gTupM, gsCons, gsNil, frz1, ownOf, noX, wipeE, ten_size (show q.length ≤ 10000 by omega), rpD]) (by rw [List.length_map]; have := hR'.1; omega) ⟨_, _, rfl, R' ++ [q], _, _, _, _, _, by rw [List.map_append]; rfl, hs, hR'.snoc hi2 (by omega) hq⟩
  · rintro ρ S ⟨R', a7, a8, a9, a10, a11, rfl, hs, hR'⟩
    rw [List.length_map] at hR'
    rw [hR.len] at hR'
    exact ws_fz (ws_ret (d := drD R') (S1 := S) (by simp [bodyM, startE, q_eVar, q_eC, q_eBin, q_eChain, q_eUn, q_eNot, q_eAnd, q_eOr, q_eIf, q_aNil, q_aCons, q_eTup, q_eLst, q_aSmall, q_eCB, q_eIxOwn, q_eLenOwn, q_oNo, q_oOf, q_eSl, q_eCall, q_eCallK, q_iSeq, q_cYes, q_eLC, q_sExp, q_sNil, q_sSeq, q_sBad, q_sBrk, q_sCont, q_sRet, q_sRetN, q_sDrop, q_sIf, q_sSet, q_sSetOwn, q_sFz, q_sApp, q_sPut, q_sPutC, q_sSetCell, q_sAsg, q_sPar, q_sPar3, q_eCallL, q_eLC2, q_eNewC, q_iZip, q_sRaise, q_sTry, Rs.bind, op1, op2, opL, gAdd, gSub, gI2, gLt, gLe, gGt, gGe, gCmp, gIx, gLen, gInt, seqOf, gNeg, q_max2, q_min2, gTuple, gVar, gTupM, gsCons, gsNil, frz1, ownOf, noX, wipeE, ten_size (show R'.length ≤ 10000 by have := hR'.1; omega), drD]) ⟨_, _, rfl, R', rfl, hR'.ok, hs⟩)
def msD (Ms : List (List (List Pt))) : D := .tup (Ms.map drD)
theorem masters_ok {row : D} (hr : RowOk row) {L : List (List Str)} (hL : LtOk L) {most : Int} (hm : 1 ≤ most ∧ most ≤ 10) {S : Sto} (hs : Sp S) : ∃ d S', m_f_law_masters [row, .cell 0, ltD L, .int most] S = .ok d S' ∧ ∃ Ms, d = msD Ms ∧ (1 ≤ Ms.length ∧ (Ms.length : Int) ≤ most) ∧ (∀ R ∈ Ms, DrOk L R) ∧ Sp S' := by
  unfold m_f_law_masters
  apply body_ret
  unfold b_f_law_masters
  obtain ⟨d, S1, e1, R0, rfl, hR0, hs1⟩ := drawing_ok hr hL hs
  refine sq_setOwn (xs := [drD R0]) (S1 := S1) (by simp [bodyM, startE, q_eVar, q_eC, q_eBin, q_eChain, q_eUn, q_eNot, q_eAnd, q_eOr, q_eIf, q_aNil, q_aCons, q_eTup, q_eLst, q_aSmall, q_eCB, q_eIxOwn, q_eLenOwn, q_oNo, q_oOf, q_eSl, q_eCall, q_eCallK, q_iSeq, q_cYes, q_eLC, q_sExp, q_sNil, q_sSeq, q_sBad, q_sBrk, q_sCont, q_sRet, q_sRetN, q_sDrop, q_sIf, q_sSet, q_sSetOwn, q_sFz, q_sApp, q_sPut, q_sPutC, q_sSetCell, q_sAsg, q_sPar, q_sPar3, q_eCallL, q_eLC2, q_eNewC, q_iZip, q_sRaise, q_sTry, Rs.bind, op1, op2, opL, gAdd, gSub, gI2, gLt, gLe, gGt, gGe, gCmp, gIx, gLen, gInt, seqOf, gNeg, q_max2, q_min2, gTuple, gVar, gTupM, gsCons, gsNil, frz1, ownOf, noX, wipeE, e1]) ?_
  obtain ⟨k, S2, e2, hk, hs2⟩ := take_ok hr (lim := most) (by omega) hs1
  obtain ⟨n, rfl⟩ := Int.eq_ofNat_of_zero_le hk.1
  refine sq_for (items := rangeD 0 n) (S1 := S2) (fun i ρ S => ∃ (Ms : List (List (List Pt))) (a5 : Sl), ρ = [.val row, .val (.cell 0), .val (ltD L), .val (.int most), .own ((R0 :: Ms).map drD), a5] ∧ Sp S ∧ Ms.length = i ∧ ∀ R ∈ Ms, DrOk L R) ?_ ?_ ?_ ?_
  · exact rng1 (by simp [bodyM, startE, q_eVar, q_eC, q_eBin, q_eChain, q_eUn, q_eNot, q_eAnd, q_eOr, q_eIf, q_aNil, q_aCons, q_eTup, q_eLst, q_aSmall, q_eCB, q_eIxOwn, q_eLenOwn, q_oNo, q_oOf, q_eSl, q_eCall, q_eCallK, q_iSeq, q_cYes, q_eLC, q_sExp, q_sNil, q_sSeq, q_sBad, q_sBrk, q_sCont, q_sRet, q_sRetN, q_sDrop, q_sIf, q_sSet, q_sSetOwn, q_sFz, q_sApp, q_sPut, q_sPutC, q_sSetCell, q_sAsg, q_sPar, q_sPar3, q_eCallL, q_eLC2, q_eNewC, q_iZip, q_sRaise, q_sTry, Rs.bind, op1, op2, opL, gAdd, gSub, gI2, gLt, gLe, gGt, gGe, gCmp, gIx, gLen, gInt, seqOf, gNeg, q_max2, q_min2, gTuple, gVar, gTupM, gsCons, gsNil, frz1, ownOf, noX, wipeE, e2]) (by omega)
  · exact ⟨[], _, rfl, hs2, rfl, by simp⟩
  · rintro i x ρ S hx ⟨Ms, a5, rfl, hs, hi, hMs⟩
    obtain ⟨hi2, rfl⟩ := range_at hx
    refine ⟨_, rfl, ?_⟩
    obtain ⟨k3, S3, e3, hk3, hs3⟩ := take_ok hr (lim := 6) (by decide) hs
    by_cases h0 : k3 = 0
    · obtain ⟨d, S4, e4, R, rfl, hR, hs4⟩ := drawing_ok hr hL hs3
      refine ws_ifT (S1 := S3) (by simp [bodyM, startE, q_eVar, q_eC, q_eBin, q_eChain, q_eUn, q_eNot, q_eAnd, q_eOr, q_eIf, q_aNil, q_aCons, q_eTup, q_eLst, q_aSmall, q_eCB, q_eIxOwn, q_eLenOwn, q_oNo, q_oOf, q_eSl, q_eCall, q_eCallK, q_iSeq, q_cYes, q_eLC, q_sExp, q_sNil, q_sSeq, q_sBad, q_sBrk, q_sCont, q_sRet, q_sRetN, q_sDrop, q_sIf, q_sSet, q_sSetOwn, q_sFz, q_sApp, q_sPut, q_sPutC, q_sSetCell, q_sAsg, q_sPar, q_sPar3, q_eCallL, q_eLC2, q_eNewC, q_iZip, q_sRaise, q_sTry, Rs.bind, op1, op2, opL, gAdd, gSub, gI2, gLt, gLe, gGt, gGe, gCmp, gIx, gLen, gInt, seqOf, gNeg, q_max2, q_min2, gTuple, gVar, gTupM, gsCons, gsNil, frz1, ownOf, noX, wipeE, e3, q_eq_int, h0]) ?_
      refine ws_app (own_i rfl) (d := drD R) (S1 := S4) (by simp [bodyM, startE, q_eVar, q_eC, q_eBin, q_eChain, q_eUn, q_eNot, q_eAnd, q_eOr, q_eIf, q_aNil, q_aCons, q_eTup, q_eLst, q_aSmall, q_eCB, q_eIxOwn, q_eLenOwn, q_oNo, q_oOf, q_eSl, q_eCall, q_eCallK, q_iSeq, q_cYes, q_eLC, q_sExp, q_sNil, q_sSeq, q_sBad, q_sBrk, q_sCont, q_sRet, q_sRetN, q_sDrop, q_sIf, q_sSet, q_sSetOwn, q_sFz, q_sApp, q_sPut, q_sPutC, q_sSetCell, q_sAsg, q_sPar, q_sPar3, q_eCallL, q_eLC2, q_eNewC, q_iZip, q_sRaise, q_sTry, Rs.bind, op1, op2, opL, gAdd, gSub, gI2, gLt, gLe, gGt, gGe, gCmp, gIx, gLen, gInt, seqOf, gNeg, q_max2, q_min2, gTuple, gVar, gTupM, gsCons, gsNil, frz1, ownOf, noX, wipeE, e4]) (by rw [List.length_map, List.length_cons]; omega) ⟨_, _, rfl, Ms ++ [R], _, by rw [← List.cons_append, List.map_append]; rfl, hs4, by simp [hi], ?_⟩
      intro R' h
      rcases List.mem_append.mp h with h | h
      · exact hMs R' h
      · rw [List.mem_singleton.mp h]; exact hR
    · obtain ⟨d, S4, e4, R, rfl, hR, hs4⟩ := varied_ok hr hL hR0 hs3
      refine ws_ifF (S1 := S3) (by simp [bodyM, startE, q_eVar, q_eC, q_eBin, q_eChain, q_eUn, q_eNot, q_eAnd, q_eOr, q_eIf, q_aNil, q_aCons, q_eTup, q_eLst, q_aSmall, q_eCB, q_eIxOwn, q_eLenOwn, q_oNo, q_oOf, q_eSl, q_eCall, q_eCallK, q_iSeq, q_cYes, q_eLC, q_sExp, q_sNil, q_sSeq, q_sBad, q_sBrk, q_sCont, q_sRet, q_sRetN, q_sDrop, q_sIf, q_sSet, q_sSetOwn, q_sFz, q_sApp, q_sPut, q_sPutC, q_sSetCell, q_sAsg, q_sPar, q_sPar3, q_eCallL, q_eLC2, q_eNewC, q_iZip, q_sRaise, q_sTry, Rs.bind, op1, op2, opL, gAdd, gSub, gI2, gLt, gLe, gGt, gGe, gCmp, gIx, gLen, gInt, seqOf, gNeg, q_max2, q_min2, gTuple, gVar, gTupM, gsCons, gsNil, frz1, ownOf, noX, wipeE, e3, q_eq_int, h0]) ?_
      have e5 : L2.atI ((R0 :: Ms).map drD) 0 = some (drD R0) := by
        rw [show (0 : Int) = ((0 : Nat) : Int) by rfl, atI_nat (by simp)]
        rfl
      rw [List.map_cons] at e5
      refine ws_app (own_i rfl) (d := drD R) (S1 := S4) (by simp [bodyM, startE, q_eVar, q_eC, q_eBin, q_eChain, q_eUn, q_eNot, q_eAnd, q_eOr, q_eIf, q_aNil, q_aCons, q_eTup, q_eLst, q_aSmall, q_eCB, q_eIxOwn, q_eLenOwn, q_oNo, q_oOf, q_eSl, q_eCall, q_eCallK, q_iSeq, q_cYes, q_eLC, q_sExp, q_sNil, q_sSeq, q_sBad, q_sBrk, q_sCont, q_sRet, q_sRetN, q_sDrop, q_sIf, q_sSet, q_sSetOwn, q_sFz, q_sApp, q_sPut, q_sPutC, q_sSetCell, q_sAsg, q_sPar, q_sPar3, q_eCallL, q_eLC2, q_eNewC, q_iZip, q_sRaise, q_sTry, Rs.bind, op1, op2, opL, gAdd, gSub, gI2, gLt, gLe, gGt, gGe, gCmp, gIx, gLen, gInt, seqOf, gNeg, q_max2, q_min2, gTuple, gVar, gTupM, gsCons, gsNil, frz1, ownOf, noX, wipeE, gAt, e4, e5]) (by rw [List.length_map, List.length_cons]; omega) ⟨_, _, rfl, Ms ++ [R], _, by rw [← List.cons_append, List.map_append]; rfl, hs4, by simp [hi], ?_⟩
      intro R' h
      rcases List.mem_append.mp h with h | h
      · exact hMs R' h
      · rw [List.mem_singleton.mp h]; exact hR
  · rintro ρ S ⟨Ms, a5, rfl, hs, hi, hMs⟩
    rw [rangeD_len] at hi
    refine ws_fz (ws_ret (d := msD (R0 :: Ms)) (S1 := S) (by have := ten_size (show (R0 :: Ms).length ≤ 10000 by rw [List.length_cons]; omega); rw [List.length_cons] at this; simp [bodyM, startE, q_eVar, q_eC, q_eBin, q_eChain, q_eUn, q_eNot, q_eAnd, q_eOr, q_eIf, q_aNil, q_aCons, q_eTup, q_eLst, q_aSmall, q_eCB, q_eIxOwn, q_eLenOwn, q_oNo, q_oOf, q_eSl, q_eCall, q_eCallK, q_iSeq, q_cYes, q_eLC, q_sExp, q_sNil, q_sSeq, q_sBad, q_sBrk, q_sCont, q_sRet, q_sRetN, q_sDrop, q_sIf, q_sSet, q_sSetOwn, q_sFz, q_sApp, q_sPut, q_sPutC, q_sSetCell, q_sAsg, q_sPar, q_sPar3, q_eCallL, q_eLC2, q_eNewC, q_iZip, q_sRaise, q_sTry, Rs.bind, op1, op2, opL, gAdd, gSub, gI2, gLt, gLe, gGt, gGe, gCmp, gIx, gLen, gInt, seqOf, gNeg, q_max2, q_min2, gTuple, gVar, gTupM, gsCons, gsNil, frz1, ownOf, noX, wipeE, this, msD]) ⟨_, _, rfl, R0 :: Ms, rfl, ⟨by simp, by rw [List.length_cons]; omega⟩, ?_, hs⟩)
    intro R h
    rcases List.mem_cons.mp h with rfl | h
    · exact hR0
    · exact hMs R h
end KF
end

section
namespace KF
open PySem
theorem bin_ok {g : G2} {m1 m2 : ME} {ρ : Env} {S S1 S2 : Sto} {d1 d2 d : D} (h1 : m1 ρ S = .ok d1 S1) (h2 : m2 ρ S1 = .ok d2 S2) (h : g d1 d2 S2 = some d) : eBin g m1 m2 ρ S = .ok d S2 := by
  unfold eBin
  simp only [h1, Rs.bind, h2, op2, h]
/-- a corner: a ring, a place in it -/
def coD (c : Nat × Nat) : D := .tup [.int c.1, .int c.2]
def CoOk (L : List (List Str)) (c : Nat × Nat) : Prop := ∃ l, L[c.1]? = some l ∧ c.2 < l.length
theorem lt_q {L : List (List Str)} {i : Nat} {l : List Str} (h : L[i]? = some l) : L2.atI (L.map rgD) (i : Int) = some (rgD l) := by
  obtain ⟨hi, e⟩ := List.getElem?_eq_some_iff.mp h
  rw [lt_at hi, e]
theorem dr_q {L : List (List Pt)} {i : Nat} {l : List Pt} (h : L[i]? = some l) : L2.atI (L.map rpD) (i : Int) = some (rpD l) := by
  obtain ⟨hi, e⟩ := List.getElem?_eq_some_iff.mp h
  rw [dr_at hi, e]
theorem rp_q {L : List Pt} {i : Nat} {l : Pt} (h : L[i]? = some l) : L2.atI (L.map plD) (i : Int) = some (plD l) := by
  obtain ⟨hi, e⟩ := List.getElem?_eq_some_iff.mp h
  rw [rp_at hi, e]
theorem next_ok {L : List (List Str)} {c : Nat × Nat} (h : CoOk L c) (S : Sto) : ∃ c', CoOk L c' ∧ m_f_law_next [ltD L, coD c] S = .ok (coD c') S := by
  obtain ⟨l, e, hl⟩ := h
  refine ⟨(c.1, (c.2 + 1) % l.length), ⟨l, e, Nat.mod_lt _ (by omega)⟩, ?_⟩
  have eq := lt_q e
  unfold m_f_law_next b_f_law_next
  simp [bodyM, startE, q_eVar, q_eC, q_eBin, q_eChain, q_eUn, q_eNot, q_eAnd, q_eOr, q_eIf, q_aNil, q_aCons, q_eTup, q_eLst, q_aSmall, q_eCB, q_eIxOwn, q_eLenOwn, q_oNo, q_oOf, q_eSl, q_eCall, q_eCallK, q_iSeq, q_cYes, q_eLC, q_sExp, q_sNil, q_sSeq, q_sBad, q_sBrk, q_sCont, q_sRet, q_sRetN, q_sDrop, q_sIf, q_sSet, q_sSetOwn, q_sFz, q_sApp, q_sPut, q_sPutC, q_sSetCell, q_sAsg, q_sPar, q_sPar3, q_eCallL, q_eLC2, q_eNewC, q_iZip, q_sRaise, q_sTry, Rs.bind, op1, op2, opL, gAdd, gSub, gI2, gLt, gLe, gGt, gGe, gCmp, gIx, gLen, gInt, seqOf, gNeg, q_max2, q_min2, gTuple, gVar, gTupM, gsCons, gsNil, frz1, ownOf, noX, wipeE, ltD, coD, at0, at1, eq, rgD, q_mod (show (0 : Int) < l.length by omega)]
theorem before_ok {L : List (List Str)} {c : Nat × Nat} (h : CoOk L c) (S : Sto) : ∃ c', CoOk L c' ∧ m_f_law_before [ltD L, coD c] S = .ok (coD c') S := by
  obtain ⟨l, e, hl⟩ := h
  have h0 : 0 ≤ ((c.2 : Int) - 1) % l.length := Int.emod_nonneg _ (by omega)
  have h1 : ((c.2 : Int) - 1) % l.length < l.length := Int.emod_lt_of_pos _ (by omega)
  obtain ⟨n, en⟩ := Int.eq_ofNat_of_zero_le h0
  refine ⟨(c.1, n), ⟨l, e, by omega⟩, ?_⟩
  have eq := lt_q e
  unfold m_f_law_before b_f_law_before
  simp [bodyM, startE, q_eVar, q_eC, q_eBin, q_eChain, q_eUn, q_eNot, q_eAnd, q_eOr, q_eIf, q_aNil, q_aCons, q_eTup, q_eLst, q_aSmall, q_eCB, q_eIxOwn, q_eLenOwn, q_oNo, q_oOf, q_eSl, q_eCall, q_eCallK, q_iSeq, q_cYes, q_eLC, q_sExp, q_sNil, q_sSeq, q_sBad, q_sBrk, q_sCont, q_sRet, q_sRetN, q_sDrop, q_sIf, q_sSet, q_sSetOwn, q_sFz, q_sApp, q_sPut, q_sPutC, q_sSetCell, q_sAsg, q_sPar, q_sPar3, q_eCallL, q_eLC2, q_eNewC, q_iZip, q_sRaise, q_sTry, Rs.bind, op1, op2, opL, gAdd, gSub, gI2, gLt, gLe, gGt, gGe, gCmp, gIx, gLen, gInt, seqOf, gNeg, q_max2, q_min2, gTuple, gVar, gTupM, gsCons, gsNil, frz1, ownOf, noX, wipeE, ltD, coD, at0, at1, eq, rgD, q_mod (show (0 : Int) < l.length by omega), en]
theorem DrOk.ring_at {L : List (List Str)} {R : List (List Pt)} (h : DrOk L R) {c : Nat × Nat} (hc : CoOk L c) : ∃ r p, R[c.1]? = some r ∧ r[c.2]? = some p ∧ inB p := by
  obtain ⟨l, e, hl⟩ := hc
  obtain ⟨hi, _⟩ := List.getElem?_eq_some_iff.mp e
  have hi2 : c.1 < R.length := by rw [h.len]; exact hi
  have e2 := at_some hi2
  have hlen := h.ring _ _ _ e2 e
  have h3 : c.2 < R[c.1].length := by omega
  exact ⟨_, _, e2, at_some h3, h.inb _ (List.getElem_mem hi2) _ (List.getElem_mem h3)⟩
theorem at_ok {L : List (List Str)} {R : List (List Pt)} (h : DrOk L R) {c : Nat × Nat} (hc : CoOk L c) (S : Sto) : ∃ p, inB p ∧ m_f_law_at [drD R, coD c] S = .ok (plD p) S := by
  obtain ⟨r, p, e1, e2, hp⟩ := h.ring_at hc
  have q1 := dr_q e1
  have q2 := rp_q e2
  refine ⟨p, hp, ?_⟩
  unfold m_f_law_at b_f_law_at
  simp [bodyM, startE, q_eVar, q_eC, q_eBin, q_eChain, q_eUn, q_eNot, q_eAnd, q_eOr, q_eIf, q_aNil, q_aCons, q_eTup, q_eLst, q_aSmall, q_eCB, q_eIxOwn, q_eLenOwn, q_oNo, q_oOf, q_eSl, q_eCall, q_eCallK, q_iSeq, q_cYes, q_eLC, q_sExp, q_sNil, q_sSeq, q_sBad, q_sBrk, q_sCont, q_sRet, q_sRetN, q_sDrop, q_sIf, q_sSet, q_sSetOwn, q_sFz, q_sApp, q_sPut, q_sPutC, q_sSetCell, q_sAsg, q_sPar, q_sPar3, q_eCallL, q_eLC2, q_eNewC, q_iZip, q_sRaise, q_sTry, Rs.bind, op1, op2, opL, gAdd, gSub, gI2, gLt, gLe, gGt, gGe, gCmp, gIx, gLen, gInt, seqOf, gNeg, q_max2, q_min2, gTuple, gVar, gTupM, gsCons, gsNil, frz1, ownOf, noX, wipeE, drD, coD, at0, at1, q1, rpD, q2]
theorem corners_ok {L : List (List Str)} (hL : LtOk L) (S : Sto) : ∃ cs : List (Nat × Nat), m_f_law_corners [ltD L] S = .ok (.lst (cs.map coD)) S ∧ 0 < cs.length ∧ cs.length ≤ 100 ∧ ∀ c ∈ cs, CoOk L c := by
  have hlen := hL.len
  have key : ∃ d S', m_f_law_corners [ltD L] S = .ok d S' ∧ S' = S ∧ ∃ cs : List (Nat × Nat), d = .lst (cs.map coD) ∧ 0 < cs.length ∧ cs.length ≤ 100 ∧ ∀ c ∈ cs, CoOk L c := by
    unfold m_f_law_corners
    apply body_ret
    unfold b_f_law_corners
    refine sq_set (d := .lst []) (S1 := S) (by simp [bodyM, startE, q_eVar, q_eC, q_eBin, q_eChain, q_eUn, q_eNot, q_eAnd, q_eOr, q_eIf, q_aNil, q_aCons, q_eTup, q_eLst, q_aSmall, q_eCB, q_eIxOwn, q_eLenOwn, q_oNo, q_oOf, q_eSl, q_eCall, q_eCallK, q_iSeq, q_cYes, q_eLC, q_sExp, q_sNil, q_sSeq, q_sBad, q_sBrk, q_sCont, q_sRet, q_sRetN, q_sDrop, q_sIf, q_sSet, q_sSetOwn, q_sFz, q_sApp, q_sPut, q_sPutC, q_sSetCell, q_sAsg, q_sPar, q_sPar3, q_eCallL, q_eLC2, q_eNewC, q_iZip, q_sRaise, q_sTry, Rs.bind, op1, op2, opL, gAdd, gSub, gI2, gLt, gLe, gGt, gGe, gCmp, gIx, gLen, gInt, seqOf, gNeg, q_max2, q_min2, gTuple, gVar, gTupM, gsCons, gsNil, frz1, ownOf, noX, wipeE]) ?_
    refine sq_for (items := rangeD 0 L.length) (S1 := S) (fun i ρ S' => ∃ (cs : List (Nat × Nat)) (a2 a3 : Sl), ρ = [.val (ltD L), .val (.lst (cs.map coD)), a2, a3] ∧ S' = S ∧ (3 * i ≤ cs.length ∧ cs.length ≤ 8 * i) ∧ ∀ c ∈ cs, CoOk L c) ?_ ?_ ?_ ?_
    · exact rng1 (by simp [bodyM, startE, q_eVar, q_eC, q_eBin, q_eChain, q_eUn, q_eNot, q_eAnd, q_eOr, q_eIf, q_aNil, q_aCons, q_eTup, q_eLst, q_aSmall, q_eCB, q_eIxOwn, q_eLenOwn, q_oNo, q_oOf, q_eSl, q_eCall, q_eCallK, q_iSeq, q_cYes, q_eLC, q_sExp, q_sNil, q_sSeq, q_sBad, q_sBrk, q_sCont, q_sRet, q_sRetN, q_sDrop, q_sIf, q_sSet, q_sSetOwn, q_sFz, q_sApp, q_sPut, q_sPutC, q_sSetCell, q_sAsg, q_sPar, q_sPar3, q_eCallL, q_eLC2, q_eNewC, q_iZip, q_sRaise, q_sTry, Rs.bind, op1, op2, opL, gAdd, gSub, gI2, gLt, gLe, gGt, gGe, gCmp, gIx, gLen, gInt, seqOf, gNeg, q_max2, q_min2, gTuple, gVar, gTupM, gsCons, gsNil, frz1, ownOf, noX, wipeE, ltD]) (by omega)
    · exact ⟨[], _, _, rfl, rfl, by simp, by simp⟩
    · rintro i x ρ S' hx ⟨cs, a2, a3, rfl, rfl, hc, hcs⟩
      obtain ⟨hi, rfl⟩ := range_at hx
      refine ⟨_, rfl, ?_⟩
      have hLi := hL.at_ hi
      have e1 := at_some hi
      generalize L[i] = l at hLi e1
      have eq := lt_q e1
      refine ws_setE ?_
      have hw : WE (eLst (eLC [3] (iRange1 (aCons (eCB gLen (aCons (eBin gIx (eVar 0) (eVar 2)) aNil)) aNil)) (gVar 3) cYes (eTup (aCons (eVar 2) (aCons (eVar 3) aNil))))) [.val (ltD L), .val (.lst (cs.map coD)), .val (.int i), a3] S' fun d S2 => S2 = S' ∧ d = .lst (((List.range l.length).map fun k => (i, k)).map coD) := by
        refine we_lc (xs := rangeD 0 l.length) (S1 := S') (fun S2 => S2 = S') (fun k x y => y = coD (i, k)) (rng1 (by simp [bodyM, startE, q_eVar, q_eC, q_eBin, q_eChain, q_eUn, q_eNot, q_eAnd, q_eOr, q_eIf, q_aNil, q_aCons, q_eTup, q_eLst, q_aSmall, q_eCB, q_eIxOwn, q_eLenOwn, q_oNo, q_oOf, q_eSl, q_eCall, q_eCallK, q_iSeq, q_cYes, q_eLC, q_sExp, q_sNil, q_sSeq, q_sBad, q_sBrk, q_sCont, q_sRet, q_sRetN, q_sDrop, q_sIf, q_sSet, q_sSetOwn, q_sFz, q_sApp, q_sPut, q_sPutC, q_sSetCell, q_sAsg, q_sPar, q_sPar3, q_eCallL, q_eLC2, q_eNewC, q_iZip, q_sRaise, q_sTry, Rs.bind, op1, op2, opL, gAdd, gSub, gI2, gLt, gLe, gGt, gGe, gCmp, gIx, gLen, gInt, seqOf, gNeg, q_max2, q_min2, gTuple, gVar, gTupM, gsCons, gsNil, frz1, ownOf, noX, wipeE, ltD, eq, rgD]) (by omega)) rfl ?_ ?_
        · rintro k x S2 hx rfl
          obtain ⟨hk, rfl⟩ := range_at hx
          exact ⟨_, coD (i, k), S2, rfl, by simp [bodyM, startE, q_eVar, q_eC, q_eBin, q_eChain, q_eUn, q_eNot, q_eAnd, q_eOr, q_eIf, q_aNil, q_aCons, q_eTup, q_eLst, q_aSmall, q_eCB, q_eIxOwn, q_eLenOwn, q_oNo, q_oOf, q_eSl, q_eCall, q_eCallK, q_iSeq, q_cYes, q_eLC, q_sExp, q_sNil, q_sSeq, q_sBad, q_sBrk, q_sCont, q_sRet, q_sRetN, q_sDrop, q_sIf, q_sSet, q_sSetOwn, q_sFz, q_sApp, q_sPut, q_sPutC, q_sSetCell, q_sAsg, q_sPar, q_sPar3, q_eCallL, q_eLC2, q_eNewC, q_iZip, q_sRaise, q_sTry, Rs.bind, op1, op2, opL, gAdd, gSub, gI2, gLt, gLe, gGt, gGe, gCmp, gIx, gLen, gInt, seqOf, gNeg, q_max2, q_min2, gTuple, gVar, gTupM, gsCons, gsNil, frz1, ownOf, noX, wipeE, coD], rfl, rfl⟩
        · rintro ys S2 hl hq rfl
          refine ⟨rfl, ?_⟩
          congr 1
          rw [rangeD_len] at hl
          apply List.ext_getElem?
          intro k
          by_cases hk : k < l.length
          · have e3 := at_some (xs := ys) (j := k) (by omega)
            rw [e3, hq k _ _ (at_some (by rw [rangeD_len]; exact hk)) e3]
            simp [hk]
          · rw [List.getElem?_eq_none (by omega), List.getElem?_eq_none (by simp; omega)]
      obtain ⟨d, S2, e2, rfl, rfl⟩ := hw
      have hz : cs.length + l.length ≤ sizeLine := ten_size (by omega)
      refine we_ok (d := .lst ((cs ++ (List.range l.length).map fun k => (i, k)).map coD)) (S1 := S2) (bin_ok (d1 := .lst (cs.map coD)) (S1 := S2) (by simp [bodyM, startE, q_eVar, q_eC, q_eBin, q_eChain, q_eUn, q_eNot, q_eAnd, q_eOr, q_eIf, q_aNil, q_aCons, q_eTup, q_eLst, q_aSmall, q_eCB, q_eIxOwn, q_eLenOwn, q_oNo, q_oOf, q_eSl, q_eCall, q_eCallK, q_iSeq, q_cYes, q_eLC, q_sExp, q_sNil, q_sSeq, q_sBad, q_sBrk, q_sCont, q_sRet, q_sRetN, q_sDrop, q_sIf, q_sSet, q_sSetOwn, q_sFz, q_sApp, q_sPut, q_sPutC, q_sSetCell, q_sAsg, q_sPar, q_sPar3, q_eCallL, q_eLC2, q_eNewC, q_iZip, q_sRaise, q_sTry, Rs.bind, op1, op2, opL, gAdd, gSub, gI2, gLt, gLe, gGt, gGe, gCmp, gIx, gLen, gInt, seqOf, gNeg, q_max2, q_min2, gTuple, gVar, gTupM, gsCons, gsNil, frz1, ownOf, noX, wipeE]) e2 (by simp [bodyM, startE, q_eVar, q_eC, q_eBin, q_eChain, q_eUn, q_eNot, q_eAnd, q_eOr, q_eIf, q_aNil, q_aCons, q_eTup, q_eLst, q_aSmall, q_eCB, q_eIxOwn, q_eLenOwn, q_oNo, q_oOf, q_eSl, q_eCall, q_eCallK, q_iSeq, q_cYes, q_eLC, q_sExp, q_sNil, q_sSeq, q_sBad, q_sBrk, q_sCont, q_sRet, q_sRetN, q_sDrop, q_sIf, q_sSet, q_sSetOwn, q_sFz, q_sApp, q_sPut, q_sPutC, q_sSetCell, q_sAsg, q_sPar, q_sPar3, q_eCallL, q_eLC2, q_eNewC, q_iZip, q_sRaise, q_sTry, Rs.bind, op1, op2, opL, gAdd, gSub, gI2, gLt, gLe, gGt, gGe, gCmp, gIx, gLen, gInt, seqOf, gNeg, q_max2, q_min2, gTuple, gVar, gTupM, gsCons, gsNil, frz1, ownOf, noX, wipeE, hz])) ⟨_, _, rfl, cs ++ (List.range l.length).map fun k => (i, k), .val (.int i), a3, rfl, rfl, by rw [List.length_append, List.length_map, List.length_range]; omega, ?_⟩
      intro c hc2
      rcases List.mem_append.mp hc2 with h | h
      · exact hcs c h
      · obtain ⟨k, hk, rfl⟩ := List.mem_map.mp h
        exact ⟨l, e1, List.mem_range.mp hk⟩
    · rintro ρ S' ⟨cs, a2, a3, rfl, rfl, hc, hcs⟩
      rw [rangeD_len] at hc
      exact ws_ret (d := .lst (cs.map coD)) (S1 := S') (by simp [bodyM, startE, q_eVar, q_eC, q_eBin, q_eChain, q_eUn, q_eNot, q_eAnd, q_eOr, q_eIf, q_aNil, q_aCons, q_eTup, q_eLst, q_aSmall, q_eCB, q_eIxOwn, q_eLenOwn, q_oNo, q_oOf, q_eSl, q_eCall, q_eCallK, q_iSeq, q_cYes, q_eLC, q_sExp, q_sNil, q_sSeq, q_sBad, q_sBrk, q_sCont, q_sRet, q_sRetN, q_sDrop, q_sIf, q_sSet, q_sSetOwn, q_sFz, q_sApp, q_sPut, q_sPutC, q_sSetCell, q_sAsg, q_sPar, q_sPar3, q_eCallL, q_eLC2, q_eNewC, q_iZip, q_sRaise, q_sTry, Rs.bind, op1, op2, opL, gAdd, gSub, gI2, gLt, gLe, gGt, gGe, gCmp, gIx, gLen, gInt, seqOf, gNeg, q_max2, q_min2, gTuple, gVar, gTupM, gsCons, gsNil, frz1, ownOf, noX, wipeE]) ⟨_, _, rfl, rfl, cs, rfl, by omega, by omega, hcs⟩
  obtain ⟨d, S', e, rfl, cs, rfl, h1, h2, h3⟩ := key
  exact ⟨cs, e, h1, h2, h3⟩
theorem inB_mul {a b c d : Int} (h : -99 ≤ a ∧ a ≤ 99) (h2 : -99 ≤ b ∧ b ≤ 99) : (a - b).natAbs < 2 ^ 64 := by omega
theorem fitted_ok {row : D} (hr : RowOk row) {L : List (List Str)} (hL : LtOk L) {R : List (List Pt)} (hR : DrOk L R) {S : Sto} (hs : Sp S) : ∃ d S', m_f_law_fitted [row, .cell 0, ltD L, drD R] S = .ok d S' ∧ ∃ L', d = ltD L' ∧ LtOk L' ∧ DrOk L' R ∧ L'.map List.length = L.map List.length ∧ Sp S' := by
  unfold m_f_law_fitted
  apply body_ret
  unfold b_f_law_fitted
  have hlen := hL.len
  refine sq_setOwn (xs := []) (S1 := S) (by simp [bodyM, startE, q_eVar, q_eC, q_eBin, q_eChain, q_eUn, q_eNot, q_eAnd, q_eOr, q_eIf, q_aNil, q_aCons, q_eTup, q_eLst, q_aSmall, q_eCB, q_eIxOwn, q_eLenOwn, q_oNo, q_oOf, q_eSl, q_eCall, q_eCallK, q_iSeq, q_cYes, q_eLC, q_sExp, q_sNil, q_sSeq, q_sBad, q_sBrk, q_sCont, q_sRet, q_sRetN, q_sDrop, q_sIf, q_sSet, q_sSetOwn, q_sFz, q_sApp, q_sPut, q_sPutC, q_sSetCell, q_sAsg, q_sPar, q_sPar3, q_eCallL, q_eLC2, q_eNewC, q_iZip, q_sRaise, q_sTry, Rs.bind, op1, op2, opL, gAdd, gSub, gI2, gLt, gLe, gGt, gGe, gCmp, gIx, gLen, gInt, seqOf, gNeg, q_max2, q_min2, gTuple, gVar, gTupM, gsCons, gsNil, frz1, ownOf, noX, wipeE]) ?_
  refine sq_for (items := rangeD 0 L.length) (S1 := S) (fun i ρ S => ∃ (L' : List (List Str)) (a5 a6 a7 a8 a9 a10 a11 a12 : Sl), ρ = [.val row, .val (.cell 0), .val (ltD L), .val (drD R), .own (L'.map rgD), a5, a6, a7, a8, a9, a10, a11, a12] ∧ Sp S ∧ L'.map List.length = (L.take i).map List.length ∧ ∀ r ∈ L', ∀ m ∈ r, m ∈ manners) ?_ ?_ ?_ ?_
  · exact rng1 (by simp [bodyM, startE, q_eVar, q_eC, q_eBin, q_eChain, q_eUn, q_eNot, q_eAnd, q_eOr, q_eIf, q_aNil, q_aCons, q_eTup, q_eLst, q_aSmall, q_eCB, q_eIxOwn, q_eLenOwn, q_oNo, q_oOf, q_eSl, q_eCall, q_eCallK, q_iSeq, q_cYes, q_eLC, q_sExp, q_sNil, q_sSeq, q_sBad, q_sBrk, q_sCont, q_sRet, q_sRetN, q_sDrop, q_sIf, q_sSet, q_sSetOwn, q_sFz, q_sApp, q_sPut, q_sPutC, q_sSetCell, q_sAsg, q_sPar, q_sPar3, q_eCallL, q_eLC2, q_eNewC, q_iZip, q_sRaise, q_sTry, Rs.bind, op1, op2, opL, gAdd, gSub, gI2, gLt, gLe, gGt, gGe, gCmp, gIx, gLen, gInt, seqOf, gNeg, q_max2, q_min2, gTuple, gVar, gTupM, gsCons, gsNil, frz1, ownOf, noX, wipeE, ltD]) (by omega)
  · exact ⟨[], _, _, _, _, _, _, _, _, rfl, hs, rfl, by simp⟩
  · rintro i x ρ S hx ⟨L', a5, a6, a7, a8, a9, a10, a11, a12, rfl, hs, hl', hL'⟩
    obtain ⟨hi, rfl⟩ := range_at hx
    have hLi := hL.at_ hi
    have e1 := at_some hi
    have etake : L.take (i + 1) = L.take i ++ [L[i]] := by rw [List.take_succ_eq_append_getElem hi]
    generalize L[i] = l at hLi e1 etake
    have eq := lt_q e1
    refine ⟨_, rfl, ?_⟩
    refine sq_setOwn (xs := []) (S1 := S) (by simp [bodyM, startE, q_eVar, q_eC, q_eBin, q_eChain, q_eUn, q_eNot, q_eAnd, q_eOr, q_eIf, q_aNil, q_aCons, q_eTup, q_eLst, q_aSmall, q_eCB, q_eIxOwn, q_eLenOwn, q_oNo, q_oOf, q_eSl, q_eCall, q_eCallK, q_iSeq, q_cYes, q_eLC, q_sExp, q_sNil, q_sSeq, q_sBad, q_sBrk, q_sCont, q_sRet, q_sRetN, q_sDrop, q_sIf, q_sSet, q_sSetOwn, q_sFz, q_sApp, q_sPut, q_sPutC, q_sSetCell, q_sAsg, q_sPar, q_sPar3, q_eCallL, q_eLC2, q_eNewC, q_iZip, q_sRaise, q_sTry, Rs.bind, op1, op2, opL, gAdd, gSub, gI2, gLt, gLe, gGt, gGe, gCmp, gIx, gLen, gInt, seqOf, gNeg, q_max2, q_min2, gTuple, gVar, gTupM, gsCons, gsNil, frz1, ownOf, noX, wipeE]) ?_
    refine sq_for (items := rangeD 0 l.length) (S1 := S) (fun j ρ S => ∃ (q : List Str) (a7 a8 a9 a10 a11 a12 : Sl), ρ = [.val row, .val (.cell 0), .val (ltD L), .val (drD R), .own (L'.map rgD), .val (.int i), .own (q.map D.str), a7, a8, a9, a10, a11, a12] ∧ Sp S ∧ q.length = j ∧ ∀ m ∈ q, m ∈ manners) ?_ ?_ ?_ ?_
    · exact rng1 (by simp [bodyM, startE, q_eVar, q_eC, q_eBin, q_eChain, q_eUn, q_eNot, q_eAnd, q_eOr, q_eIf, q_aNil, q_aCons, q_eTup, q_eLst, q_aSmall, q_eCB, q_eIxOwn, q_eLenOwn, q_oNo, q_oOf, q_eSl, q_eCall, q_eCallK, q_iSeq, q_cYes, q_eLC, q_sExp, q_sNil, q_sSeq, q_sBad, q_sBrk, q_sCont, q_sRet, q_sRetN, q_sDrop, q_sIf, q_sSet, q_sSetOwn, q_sFz, q_sApp, q_sPut, q_sPutC, q_sSetCell, q_sAsg, q_sPar, q_sPar3, q_eCallL, q_eLC2, q_eNewC, q_iZip, q_sRaise, q_sTry, Rs.bind, op1, op2, opL, gAdd, gSub, gI2, gLt, gLe, gGt, gGe, gCmp, gIx, gLen, gInt, seqOf, gNeg, q_max2, q_min2, gTuple, gVar, gTupM, gsCons, gsNil, frz1, ownOf, noX, wipeE, ltD, eq, rgD]) (by omega)
    · exact ⟨[], _, _, _, _, _, _, rfl, hs, rfl, by simp⟩
    · rintro j x ρ S hx ⟨q, a7, a8, a9, a10, a11, a12, rfl, hs, hj, hq⟩
      obtain ⟨hj2, rfl⟩ := range_at hx
      refine ⟨_, rfl, ?_⟩
      have hc : CoOk L (i, j) := ⟨l, e1, hj2⟩
      obtain ⟨cb, hcb, eb⟩ := before_ok hc S
      obtain ⟨pb, hpb, eb2⟩ := at_ok hR hcb S
      refine sq_set (d := plD pb) (S1 := S) (by simp only [coD] at eb eb2; simp [bodyM, startE, q_eVar, q_eC, q_eBin, q_eChain, q_eUn, q_eNot, q_eAnd, q_eOr, q_eIf, q_aNil, q_aCons, q_eTup, q_eLst, q_aSmall, q_eCB, q_eIxOwn, q_eLenOwn, q_oNo, q_oOf, q_eSl, q_eCall, q_eCallK, q_iSeq, q_cYes, q_eLC, q_sExp, q_sNil, q_sSeq, q_sBad, q_sBrk, q_sCont, q_sRet, q_sRetN, q_sDrop, q_sIf, q_sSet, q_sSetOwn, q_sFz, q_sApp, q_sPut, q_sPutC, q_sSetCell, q_sAsg, q_sPar, q_sPar3, q_eCallL, q_eLC2, q_eNewC, q_iZip, q_sRaise, q_sTry, Rs.bind, op1, op2, opL, gAdd, gSub, gI2, gLt, gLe, gGt, gGe, gCmp, gIx, gLen, gInt, seqOf, gNeg, q_max2, q_min2, gTuple, gVar, gTupM, gsCons, gsNil, frz1, ownOf, noX, wipeE, eb, eb2]) ?_
      obtain ⟨r, ph, er1, er2, hph⟩ := hR.ring_at hc
      have q1 := dr_q er1
      have q2 := rp_q er2
      dsimp only at q1 q2
      refine sq_set (d := plD ph) (S1 := S) (by simp [bodyM, startE, q_eVar, q_eC, q_eBin, q_eChain, q_eUn, q_eNot, q_eAnd, q_eOr, q_eIf, q_aNil, q_aCons, q_eTup, q_eLst, q_aSmall, q_eCB, q_eIxOwn, q_eLenOwn, q_oNo, q_oOf, q_eSl, q_eCall, q_eCallK, q_iSeq, q_cYes, q_eLC, q_sExp, q_sNil, q_sSeq, q_sBad, q_sBrk, q_sCont, q_sRet, q_sRetN, q_sDrop, q_sIf, q_sSet, q_sSetOwn, q_sFz, q_sApp, q_sPut, q_sPutC, q_sSetCell, q_sAsg, q_sPar, q_sPar3, q_eCallL, q_eLC2, q_eNewC, q_iZip, q_sRaise, q_sTry, Rs.bind, op1, op2, opL, gAdd, gSub, gI2, gLt, gLe, gGt, gGe, gCmp, gIx, gLen, gInt, seqOf, gNeg, q_max2, q_min2, gTuple, gVar, gTupM, gsCons, gsNil, frz1, ownOf, noX, wipeE, drD, q1, rpD, q2]) ?_
      obtain ⟨cn, hcn, en⟩ := next_ok hc S
      obtain ⟨pn, hpn, en2⟩ := at_ok hR hcn S
      refine sq_set (d := plD pn) (S1 := S) (by simp only [coD] at en en2; simp [bodyM, startE, q_eVar, q_eC, q_eBin, q_eChain, q_eUn, q_eNot, q_eAnd, q_eOr, q_eIf, q_aNil, q_aCons, q_eTup, q_eLst, q_aSmall, q_eCB, q_eIxOwn, q_eLenOwn, q_oNo, q_oOf, q_eSl, q_eCall, q_eCallK, q_iSeq, q_cYes, q_eLC, q_sExp, q_sNil, q_sSeq, q_sBad, q_sBrk, q_sCont, q_sRet, q_sRetN, q_sDrop, q_sIf, q_sSet, q_sSetOwn, q_sFz, q_sApp, q_sPut, q_sPutC, q_sSetCell, q_sAsg, q_sPar, q_sPar3, q_eCallL, q_eLC2, q_eNewC, q_iZip, q_sRaise, q_sTry, Rs.bind, op1, op2, opL, gAdd, gSub, gI2, gLt, gLe, gGt, gGe, gCmp, gIx, gLen, gInt, seqOf, gNeg, q_max2, q_min2, gTuple, gVar, gTupM, gsCons, gsNil, frz1, ownOf, noX, wipeE, en, en2]) ?_
      obtain ⟨⟨hb1, hb2⟩, hb3, hb4⟩ := hpb
      obtain ⟨⟨hh1, hh2⟩, hh3, hh4⟩ := hph
      obtain ⟨⟨hn1, hn2⟩, hn3, hn4⟩ := hpn
      have m1 : (ph.1 - pb.1).natAbs < 2 ^ 64 := by omega
      have m2 : (ph.2 - pb.2).natAbs < 2 ^ 64 := by omega
      refine sq_set (d := .int ((ph.1 - pb.1) * (pn.2 - ph.2) - (ph.2 - pb.2) * (pn.1 - ph.1))) (S1 := S) (by simp [bodyM, startE, q_eVar, q_eC, q_eBin, q_eChain, q_eUn, q_eNot, q_eAnd, q_eOr, q_eIf, q_aNil, q_aCons, q_eTup, q_eLst, q_aSmall, q_eCB, q_eIxOwn, q_eLenOwn, q_oNo, q_oOf, q_eSl, q_eCall, q_eCallK, q_iSeq, q_cYes, q_eLC, q_sExp, q_sNil, q_sSeq, q_sBad, q_sBrk, q_sCont, q_sRet, q_sRetN, q_sDrop, q_sIf, q_sSet, q_sSetOwn, q_sFz, q_sApp, q_sPut, q_sPutC, q_sSetCell, q_sAsg, q_sPar, q_sPar3, q_eCallL, q_eLC2, q_eNewC, q_iZip, q_sRaise, q_sTry, Rs.bind, op1, op2, opL, gAdd, gSub, gI2, gLt, gLe, gGt, gGe, gCmp, gIx, gLen, gInt, seqOf, gNeg, q_max2, q_min2, gTuple, gVar, gTupM, gsCons, gsNil, frz1, ownOf, noX, wipeE, plD, at0, at1, q_mul (.inl m1), q_mul (.inl m2)]) ?_
      generalize (ph.1 - pb.1) * (pn.2 - ph.2) - (ph.2 - pb.2) * (pn.1 - ph.1) = turn
      obtain ⟨man, eman, hman⟩ : ∃ man : Str, (if 0 < turn then D.str "left" else if turn < 0 then D.str "right" else D.str "straight") = .str man ∧ man ∈ manners := by
        split
        · exact ⟨_, rfl, by decide⟩
        · split
          · exact ⟨_, rfl, by decide⟩
          · exact ⟨_, rfl, by decide⟩
      refine sq_set (d := .str man) (S1 := S) ?_ ?_
      · by_cases h1 : 0 < turn
        · rw [if_pos h1] at eman
          simp [bodyM, startE, q_eVar, q_eC, q_eBin, q_eChain, q_eUn, q_eNot, q_eAnd, q_eOr, q_eIf, q_aNil, q_aCons, q_eTup, q_eLst, q_aSmall, q_eCB, q_eIxOwn, q_eLenOwn, q_oNo, q_oOf, q_eSl, q_eCall, q_eCallK, q_iSeq, q_cYes, q_eLC, q_sExp, q_sNil, q_sSeq, q_sBad, q_sBrk, q_sCont, q_sRet, q_sRetN, q_sDrop, q_sIf, q_sSet, q_sSetOwn, q_sFz, q_sApp, q_sPut, q_sPutC, q_sSetCell, q_sAsg, q_sPar, q_sPar3, q_eCallL, q_eLC2, q_eNewC, q_iZip, q_sRaise, q_sTry, Rs.bind, op1, op2, opL, gAdd, gSub, gI2, gLt, gLe, gGt, gGe, gCmp, gIx, gLen, gInt, seqOf, gNeg, q_max2, q_min2, gTuple, gVar, gTupM, gsCons, gsNil, frz1, ownOf, noX, wipeE, h1, eman]
        · rw [if_neg h1] at eman
          by_cases h2 : turn < 0
          · rw [if_pos h2] at eman
            simp [bodyM, startE, q_eVar, q_eC, q_eBin, q_eChain, q_eUn, q_eNot, q_eAnd, q_eOr, q_eIf, q_aNil, q_aCons, q_eTup, q_eLst, q_aSmall, q_eCB, q_eIxOwn, q_eLenOwn, q_oNo, q_oOf, q_eSl, q_eCall, q_eCallK, q_iSeq, q_cYes, q_eLC, q_sExp, q_sNil, q_sSeq, q_sBad, q_sBrk, q_sCont, q_sRet, q_sRetN, q_sDrop, q_sIf, q_sSet, q_sSetOwn, q_sFz, q_sApp, q_sPut, q_sPutC, q_sSetCell, q_sAsg, q_sPar, q_sPar3, q_eCallL, q_eLC2, q_eNewC, q_iZip, q_sRaise, q_sTry, Rs.bind, op1, op2, opL, gAdd, gSub, gI2, gLt, gLe, gGt, gGe, gCmp, gIx, gLen, gInt, seqOf, gNeg, q_max2, q_min2, gTuple, gVar, gTupM, gsCons, gsNil, frz1, ownOf, noX, wipeE, h1, h2, eman]
          · rw [if_neg h2] at eman
            simp [bodyM, startE, q_eVar, q_eC, q_eBin, q_eChain, q_eUn, q_eNot, q_eAnd, q_eOr, q_eIf, q_aNil, q_aCons, q_eTup, q_eLst, q_aSmall, q_eCB, q_eIxOwn, q_eLenOwn, q_oNo, q_oOf, q_eSl, q_eCall, q_eCallK, q_iSeq, q_cYes, q_eLC, q_sExp, q_sNil, q_sSeq, q_sBad, q_sBrk, q_sCont, q_sRet, q_sRetN, q_sDrop, q_sIf, q_sSet, q_sSetOwn, q_sFz, q_sApp, q_sPut, q_sPutC, q_sSetCell, q_sAsg, q_sPar, q_sPar3, q_eCallL, q_eLC2, q_eNewC, q_iZip, q_sRaise, q_sTry, Rs.bind, op1, op2, opL, gAdd, gSub, gI2, gLt, gLe, gGt, gGe, gCmp, gIx, gLen, gInt, seqOf, gNeg, q_max2, q_min2, gTuple, gVar, gTupM, gsCons, gsNil, frz1, ownOf, noX, wipeE, h1, h2, eman]
      obtain ⟨k, S2, e2, hk, hs2⟩ := take_ok hr (lim := 4) (by decide) hs
      obtain ⟨m, em, hm⟩ : ∃ m : Str, (if 0 < k then D.str man else D.str "any") = .str m ∧ m ∈ manners := by
        split
        · exact ⟨_, rfl, hman⟩
        · exact ⟨_, rfl, by decide⟩
      refine ws_app (xs := q.map D.str) (own_i rfl) (d := .str m) (S1 := S2) ?_ (by rw [List.length_map]; omega) ⟨_, _, rfl, q ++ [m], _, _, _, _, _, _, by rw [List.map_append]; rfl, hs2, by simp [hj], ?_⟩
      · by_cases h1 : 0 < k
        · rw [if_pos h1] at em
          simp [bodyM, startE, q_eVar, q_eC, q_eBin, q_eChain, q_eUn, q_eNot, q_eAnd, q_eOr, q_eIf, q_aNil, q_aCons, q_eTup, q_eLst, q_aSmall, q_eCB, q_eIxOwn, q_eLenOwn, q_oNo, q_oOf, q_eSl, q_eCall, q_eCallK, q_iSeq, q_cYes, q_eLC, q_sExp, q_sNil, q_sSeq, q_sBad, q_sBrk, q_sCont, q_sRet, q_sRetN, q_sDrop, q_sIf, q_sSet, q_sSetOwn, q_sFz, q_sApp, q_sPut, q_sPutC, q_sSetCell, q_sAsg, q_sPar, q_sPar3, q_eCallL, q_eLC2, q_eNewC, q_iZip, q_sRaise, q_sTry, Rs.bind, op1, op2, opL, gAdd, gSub, gI2, gLt, gLe, gGt, gGe, gCmp, gIx, gLen, gInt, seqOf, gNeg, q_max2, q_min2, gTuple, gVar, gTupM, gsCons, gsNil, frz1, ownOf, noX, wipeE, e2, h1, em]
        · rw [if_neg h1] at em
          simp [bodyM, startE, q_eVar, q_eC, q_eBin, q_eChain, q_eUn, q_eNot, q_eAnd, q_eOr, q_eIf, q_aNil, q_aCons, q_eTup, q_eLst, q_aSmall, q_eCB, q_eIxOwn, q_eLenOwn, q_oNo, q_oOf, q_eSl, q_eCall, q_eCallK, q_iSeq, q_cYes, q_eLC, q_sExp, q_sNil, q_sSeq, q_sBad, q_sBrk, q_sCont, q_sRet, q_sRetN, q_sDrop, q_sIf, q_sSet, q_sSetOwn, q_sFz, q_sApp, q_sPut, q_sPutC, q_sSetCell, q_sAsg, q_sPar, q_sPar3, q_eCallL, q_eLC2, q_eNewC, q_iZip, q_sRaise, q_sTry, Rs.bind, op1, op2, opL, gAdd, gSub, gI2, gLt, gLe, gGt, gGe, gCmp, gIx, gLen, gInt, seqOf, gNeg, q_max2, q_min2, gTuple, gVar, gTupM, gsCons, gsNil, frz1, ownOf, noX, wipeE, e2, h1, em]
      · intro m' h
        rcases List.mem_append.mp h with h | h
        · exact hq m' h
        · rw [List.mem_singleton.mp h]; exact hm
    · rintro ρ S ⟨q, a7, a8, a9, a10, a11, a12, rfl, hs, hj, hq⟩
      rw [rangeD_len] at hj
      have hl2 : L'.length ≤ 3 := by
        have := congrArg List.length hl'
        rw [List.length_map, List.length_map, List.length_take] at this
        omega
      refine ws_fz ?_
      refine ws_app (xs := L'.map rgD) (own_i rfl) (d := rgD q) (S1 := S) (by simp [bodyM, startE, q_eVar, q_eC, q_eBin, q_eChain, q_eUn, q_eNot, q_eAnd, q_eOr, q_eIf, q_aNil, q_aCons, q_eTup, q_eLst, q_aSmall, q_eCB, q_eIxOwn, q_eLenOwn, q_oNo, q_oOf, q_eSl, q_eCall, q_eCallK, q_iSeq, q_cYes, q_eLC, q_sExp, q_sNil, q_sSeq, q_sBad, q_sBrk, q_sCont, q_sRet, q_sRetN, q_sDrop, q_sIf, q_sSet, q_sSetOwn, q_sFz, q_sApp, q_sPut, q_sPutC, q_sSetCell, q_sAsg, q_sPar, q_sPar3, q_eCallL, q_eLC2, q_eNewC, q_iZip, q_sRaise, q_sTry, Rs.bind, op1, op2, opL, gAdd, gSub, gI2, gLt, gLe, gGt, gGe, gCmp, gIx, gLen, gInt, seqOf, gNeg, q_max2, q_min2, gTuple, gVar, gTupM, gsCons, gsNil, frz1, ownOf, noX, wipeE, ten_size (show q.length ≤ 10000 by omega), rgD]) (by rw [List.length_map]; omega) ⟨_, _, rfl, L' ++ [q], _, _, _, _, _, _, _, _, by rw [List.map_append]; rfl, hs, ?_, ?_⟩
      · rw [etake, List.map_append, List.map_append, hl']
        simp [hj]
      · intro r' h
        rcases List.mem_append.mp h with h | h
        · exact hL' r' h
        · rw [List.mem_singleton.mp h]; exact hq
  · rintro ρ S ⟨L', a5, a6, a7, a8, a9, a10, a11, a12, rfl, hs, hl', hL'⟩
    rw [rangeD_len, List.take_length] at hl'
    have hl2 : L'.length = L.length := by
      have := congrArg List.length hl'
      rwa [List.length_map, List.length_map] at this
    have hat : ∀ (k : Nat) (a b : List Str), L'[k]? = some a → L[k]? = some b → a.length = b.length := fun k a b h1 h2 => by
      have : (L'.map List.length)[k]? = (L.map List.length)[k]? := by rw [hl']
      rw [List.getElem?_map, List.getElem?_map, h1, h2] at this
      exact Option.some.inj this
    have hget : ∀ r ∈ L', ∃ (k : Nat) (l : List Str), L'[k]? = some r ∧ L[k]? = some l ∧ r.length = l.length := fun r hr => by
      obtain ⟨k, hk⟩ := mem_at hr
      have hk2 := (List.getElem?_eq_some_iff.mp hk).1
      have hk3 := at_some (xs := L) (j := k) (by omega)
      exact ⟨k, _, hk, hk3, hat k _ _ hk hk3⟩
    refine ws_fz (ws_ret (d := ltD L') (S1 := S) (by simp [bodyM, startE, q_eVar, q_eC, q_eBin, q_eChain, q_eUn, q_eNot, q_eAnd, q_eOr, q_eIf, q_aNil, q_aCons, q_eTup, q_eLst, q_aSmall, q_eCB, q_eIxOwn, q_eLenOwn, q_oNo, q_oOf, q_eSl, q_eCall, q_eCallK, q_iSeq, q_cYes, q_eLC, q_sExp, q_sNil, q_sSeq, q_sBad, q_sBrk, q_sCont, q_sRet, q_sRetN, q_sDrop, q_sIf, q_sSet, q_sSetOwn, q_sFz, q_sApp, q_sPut, q_sPutC, q_sSetCell, q_sAsg, q_sPar, q_sPar3, q_eCallL, q_eLC2, q_eNewC, q_iZip, q_sRaise, q_sTry, Rs.bind, op1, op2, opL, gAdd, gSub, gI2, gLt, gLe, gGt, gGe, gCmp, gIx, gLen, gInt, seqOf, gNeg, q_max2, q_min2, gTuple, gVar, gTupM, gsCons, gsNil, frz1, ownOf, noX, wipeE, ten_size (show L'.length ≤ 10000 by omega), ltD]) ⟨_, _, rfl, L', rfl, ⟨by omega, fun r h => ?_, ?_⟩, ⟨by rw [hR.len, hl2], fun k r l h1 h2 => ?_, hR.inb⟩, hl', hs⟩)
    · obtain ⟨k, l, h1, h2, h3⟩ := hget r h
      have := hL.ring l (List.mem_of_getElem? h2)
      exact ⟨by omega, by omega, hL' r h⟩
    · unfold total
      rw [hl']
      exact hL.tot
    · have hk := (List.getElem?_eq_some_iff.mp h2).1
      have h3 := at_some (xs := L) (j := k) (by omega)
      rw [hR.ring k r _ h1 h3, hat k _ _ h2 h3]
theorem fourth_ok {x : Int} (h : -99 ≤ x ∧ x ≤ 99) (S : Sto) : ∃ y, (-99 ≤ y ∧ y ≤ 99) ∧ m_f_law_fourth [.int x] S = .ok (.int y) S := by
  refine ⟨max (-96) (x / 4 * 4), by omega, ?_⟩
  have hm : (x / 4).natAbs < 2 ^ 64 := by omega
  unfold m_f_law_fourth b_f_law_fourth
  simp [bodyM, startE, q_eVar, q_eC, q_eBin, q_eChain, q_eUn, q_eNot, q_eAnd, q_eOr, q_eIf, q_aNil, q_aCons, q_eTup, q_eLst, q_aSmall, q_eCB, q_eIxOwn, q_eLenOwn, q_oNo, q_oOf, q_eSl, q_eCall, q_eCallK, q_iSeq, q_cYes, q_eLC, q_sExp, q_sNil, q_sSeq, q_sBad, q_sBrk, q_sCont, q_sRet, q_sRetN, q_sDrop, q_sIf, q_sSet, q_sSetOwn, q_sFz, q_sApp, q_sPut, q_sPutC, q_sSetCell, q_sAsg, q_sPar, q_sPar3, q_eCallL, q_eLC2, q_eNewC, q_iZip, q_sRaise, q_sTry, Rs.bind, op1, op2, opL, gAdd, gSub, gI2, gLt, gLe, gGt, gGe, gCmp, gIx, gLen, gInt, seqOf, gNeg, q_max2, q_min2, gTuple, gVar, gTupM, gsCons, gsNil, frz1, ownOf, noX, wipeE, q_div, q_mul (.inl hm)]
end KF
end

section
namespace KF
open PySem
theorem we_mono {m : ME} {ρ : Env} {S : Sto} {P Q : D → Sto → Prop} (h : WE m ρ S P) (i : ∀ d S, P d S → Q d S) : WE m ρ S Q := by
  obtain ⟨d, S1, e, p⟩ := h
  exact ⟨d, S1, e, i d S1 p⟩
/-- a comprehension whose element is a comprehension that makes a cell; or any element by WE -/
theorem we_newC {mi : MI} {mg : MG} {me : ME} {vs : List Nat} {ρ : Env} {S S1 : Sto} {xs : List D} {P : D → Sto → Prop} (PS : Sto → Prop) (Q : Nat → D → D → Prop) (hi : mi ρ S = .ok xs S1) (h0 : PS S1) (h : ∀ j x S, xs[j]? = some x → PS S → ∃ ρ1 y S', mg x (wipeE ρ vs) = some ρ1 ∧ me ρ1 S = .ok y S' ∧ Q j x y ∧ PS S')
    (hp : ∀ ys S', ys.length = xs.length → (∀ j x y, xs[j]? = some x → ys[j]? = some y → Q j x y) → PS S' → P (.cell S'.length) (S' ++ [ys])) : WE (eNewC (eLC vs mi mg cYes me)) ρ S P := by
  obtain ⟨ys, S2, e, hl, hq, h2⟩ := lc_st (mg := mg) (me := me) (ρ0 := wipeE ρ vs) PS Q xs [] 0 S1 h0 (fun j x S hx hS => by simpa using h j x S hx hS)
  refine ⟨.cell S2.length, S2 ++ [ys], ?_, hp ys S2 hl (fun j x y hx hy => by simpa using hq j x y hx hy) h2⟩
  unfold eNewC eLC
  simp only [hi, Rs.bind, e, noX]
  simp
/-- the cells from n on hold these rings -/
def Cells (n : Nat) (S : Sto) (R : List (List Pt)) : Prop := ∀ (k : Nat) (r : List Pt), R[k]? = some r → S[n + k]? = some (r.map plD)
/-- a store that has grown by rings behind n cells -/
structure Grown (S0 S : Sto) (R : List (List Pt)) : Prop where
  len : S.length = S0.length + R.length
  old : ∀ k, k < S0.length → S[k]? = S0[k]?
  cel : Cells S0.length S R
theorem Grown.nil (S : Sto) : Grown S S [] := ⟨by simp, fun _ _ => rfl, fun k r h => by simp at h⟩
theorem Grown.snoc {S0 S : Sto} {R : List (List Pt)} (g : Grown S0 S R) (r : List Pt) : Grown S0 (S ++ [r.map plD]) (R ++ [r]) := by
  refine ⟨by simp [g.len]; omega, fun k hk => ?_, fun k r' h => ?_⟩
  · rw [List.getElem?_append_left (by have := g.len; omega)]
    exact g.old k hk
  · by_cases hk : k < R.length
    · rw [List.getElem?_append_left hk] at h
      rw [List.getElem?_append_left (by have := g.len; omega)]
      exact g.cel k r' h
    · have := (List.getElem?_eq_some_iff.mp h).1
      rw [List.length_append] at this
      have hk2 : k = R.length := by simp at this; omega
      subst hk2
      rw [List.getElem?_append_right (Nat.le_refl _), Nat.sub_self] at h
      simp at h
      subst h
      rw [← g.len, List.getElem?_append_right (Nat.le_refl _), Nat.sub_self]
      rfl
theorem Grown.set {S0 S : Sto} {R : List (List Pt)} (g : Grown S0 S R) {k : Nat} {r : List Pt} (r' : List Pt) (h : R[k]? = some r) : Grown S0 (S.set (S0.length + k) (r'.map plD)) (R.set k r') := by
  have hk := (List.getElem?_eq_some_iff.mp h).1
  have hl := g.len
  refine ⟨by rw [List.length_set, List.length_set, g.len], fun j hj => ?_, fun j q hq => ?_⟩
  · rw [List.getElem?_set_ne (by omega)]
    exact g.old j hj
  · by_cases hj : k = j
    · subst hj
      rw [List.getElem?_set_self hk] at hq
      cases hq
      rw [List.getElem?_set_self (by omega)]
    · rw [List.getElem?_set_ne hj] at hq
      rw [List.getElem?_set_ne (by omega)]
      exact g.cel j q hq
theorem Grown.sp {S0 S : Sto} {R : List (List Pt)} (g : Grown S0 S R) (h : Sp S0) : Sp S := by
  obtain ⟨j, r, rfl, hj⟩ := h
  have := g.old 0 (by simp)
  cases S with
  | nil => simp at this
  | cons a S =>
    simp at this
    subst this
    exact ⟨j, S, rfl, hj⟩
def cellsD (n k : Nat) : D := .lst ((List.range k).map fun (i : Nat) => D.cell (n + i))
theorem cells_at {n k i : Nat} (h : i < k) : L2.atI ((List.range k).map fun (i : Nat) => D.cell (n + i)) (i : Int) = some (.cell (n + i)) := by
  rw [atI_nat (by simpa using h)]
  simp
theorem set_some {α : Type} {xs : List α} {k j : Nat} {a x : α} (h : (xs.set k a)[j]? = some x) : x = a ∨ xs[j]? = some x := by
  by_cases hj : k = j
  · subst hj
    have := (List.getElem?_eq_some_iff.mp h).1
    rw [List.length_set] at this
    rw [List.getElem?_set_self this] at h
    cases h
    exact .inl rfl
  · rw [List.getElem?_set_ne hj] at h
    exact .inr h
theorem lc_ix {mg : MG} {me : ME} {ρ0 : Env} (PS : Nat → Sto → Prop) (Q : Nat → D → D → Prop) : ∀ (xs acc : List D) (k : Nat) (S : Sto), PS k S → (∀ j x S, xs[j]? = some x → PS (k + j) S → ∃ ρ1 y S', mg x ρ0 = some ρ1 ∧ me ρ1 S = .ok y S' ∧ Q (k + j) x y ∧ PS (k + j + 1) S') →
    ∃ ys S', lcLoop mg cYes me ρ0 xs acc S = .ok (acc ++ ys) S' ∧ ys.length = xs.length ∧ (∀ j x y, xs[j]? = some x → ys[j]? = some y → Q (k + j) x y) ∧ PS (k + xs.length) S'
  | [], acc, k, S, h, _ => ⟨[], S, by unfold lcLoop; simp, rfl, by simp, h⟩
  | x :: xs, acc, k, S, h, st => by
    obtain ⟨ρ1, y, S1, e1, e2, q, h1⟩ := st 0 x S rfl h
    obtain ⟨ys, S2, e3, hl, hq, h2⟩ := lc_ix PS Q xs (acc ++ [y]) (k + 1) S1 h1 (fun j z S hz hS => by
      have := st (j + 1) z S (by simpa using hz) (by rw [show k + (j + 1) = k + 1 + j by omega]; exact hS)
      rw [show k + (j + 1) = k + 1 + j by omega] at this
      exact this)
    refine ⟨y :: ys, S2, ?_, by simp [hl], ?_, by rw [show k + (x :: xs).length = k + 1 + xs.length by simp; omega]; exact h2⟩
    · unfold lcLoop
      simp only [e1, cYes, Rs.bind, e2]
      rw [e3]
      simp
    · intro j a b ha hb
      cases j with
      | zero =>
        simp at ha hb
        subst ha hb
        exact q
      | succ j =>
        have := hq j a b (by simpa using ha) (by simpa using hb)
        rw [show k + (j + 1) = k + 1 + j by omega]
        exact this
theorem we_lcI {mi : MI} {mg : MG} {me : ME} {vs : List Nat} {ρ : Env} {S S1 : Sto} {xs : List D} {P : D → Sto → Prop} (PS : Nat → Sto → Prop) (Q : Nat → D → D → Prop) (hi : mi ρ S = .ok xs S1) (h0 : PS 0 S1) (h : ∀ j x S, xs[j]? = some x → PS j S → ∃ ρ1 y S', mg x (wipeE ρ vs) = some ρ1 ∧ me ρ1 S = .ok y S' ∧ Q j x y ∧ PS (j + 1) S')
    (hp : ∀ ys S', ys.length = xs.length → (∀ j x y, xs[j]? = some x → ys[j]? = some y → Q j x y) → PS xs.length S' → P (.lst ys) S') : WE (eLst (eLC vs mi mg cYes me)) ρ S P := by
  obtain ⟨ys, S2, e, hl, hq, h2⟩ := lc_ix (mg := mg) (me := me) (ρ0 := wipeE ρ vs) PS Q xs [] 0 S1 h0 (fun j x S hx hS => by simpa using h j x S hx (by simpa using hS))
  refine ⟨.lst ys, S2, ?_, hp ys S2 hl (fun j x y hx hy => by simpa using hq j x y hx hy) (by simpa using h2)⟩
  unfold eLst eLC
  simp only [hi, Rs.bind, e, noX]
  simp
theorem ext_of {ys : List D} {n : Nat} {f : Nat → D} (hl : ys.length = n) (h : ∀ j y, ys[j]? = some y → y = f j) : ys = (List.range n).map f := by
  apply List.ext_getElem?
  intro k
  by_cases hk : k < n
  · have e := at_some (xs := ys) (j := k) (by omega)
    rw [e, h k _ e]
    simp [hk]
  · rw [List.getElem?_eq_none (by omega), List.getElem?_eq_none (by simp; omega)]
/-- one ring brought to fourths: a row of places -/
theorem fourths {r : List Pt} (hb : ∀ p ∈ r, inB p) {ρ : Env} {S : Sto} {P : D → Sto → Prop} (h10 : ρ[10]? = some (.val (rpD r))) (h5 : 5 < ρ.length)
    (hp : ∀ r' : List Pt, r'.length = r.length → (∀ p ∈ r', inB p) → P (.cell S.length) (S ++ [r'.map plD])) :
    WE (eNewC (eLC [5] (iSeq (eVar 10)) (gVar 5) cYes (eTup (aCons (eCall 1 m_f_law_fourth (aCons (eBin gIx (eVar 5) (eC (.int 0))) aNil)) (aCons (eCall 1 m_f_law_fourth (aCons (eBin gIx (eVar 5) (eC (.int 1))) aNil)) aNil))))) ρ S P := by
  refine we_newC (xs := r.map plD) (S1 := S) (fun S' => S' = S) (fun _ _ y => ∃ p, y = plD p ∧ inB p) (by unfold iSeq eVar; rw [h10]; rfl) rfl ?_ ?_
  · rintro j x S' hx rfl
    rw [List.getElem?_map] at hx
    cases q : r[j]? with
    | none => rw [q] at hx; cases hx
    | some p =>
      rw [q] at hx
      cases hx
      obtain ⟨b1, b2⟩ := hb p (List.mem_of_getElem? q)
      obtain ⟨y1, hy1, e1⟩ := fourth_ok b1 S'
      obtain ⟨y2, hy2, e2⟩ := fourth_ok b2 S'
      refine ⟨_, plD (y1, y2), S', rfl, ?_, ⟨(y1, y2), rfl, hy1, hy2⟩, rfl⟩
      simp [bodyM, startE, q_eVar, q_eC, q_eBin, q_eChain, q_eUn, q_eNot, q_eAnd, q_eOr, q_eIf, q_aNil, q_aCons, q_eTup, q_eLst, q_aSmall, q_eCB, q_eIxOwn, q_eLenOwn, q_oNo, q_oOf, q_eSl, q_eCall, q_eCallK, q_iSeq, q_cYes, q_eLC, q_sExp, q_sNil, q_sSeq, q_sBad, q_sBrk, q_sCont, q_sRet, q_sRetN, q_sDrop, q_sIf, q_sSet, q_sSetOwn, q_sFz, q_sApp, q_sPut, q_sPutC, q_sSetCell, q_sAsg, q_sPar, q_sPar3, q_eCallL, q_eLC2, q_eNewC, q_iZip, q_sRaise, q_sTry, Rs.bind, op1, op2, opL, gAdd, gSub, gI2, gLt, gLe, gGt, gGe, gCmp, gIx, gLen, gInt, seqOf, gNeg, q_max2, q_min2, gTuple, gVar, gTupM, gsCons, gsNil, frz1, ownOf, noX, wipeE, plD, List.getElem?_set, h5, at0, at1, e1, e2]
  · rintro ys S' hl hq rfl
    obtain ⟨r', rfl, hl2, hr'⟩ := kinds (f := plD) (p := inB) (ys := ys) (fun y hy => by
      obtain ⟨j, e⟩ := mem_at hy
      have hj := (List.getElem?_eq_some_iff.mp e).1
      exact hq j _ y (at_some (by omega)) e)
    exact hp r' (by simpa using hl) hr'
theorem straightened_ok {L : List (List Str)} (hL : LtOk L) {R : List (List Pt)} (hR : DrOk L R) {c : Nat × Nat} (hc : CoOk L c) {qr : Int} (hq : -10 ≤ qr ∧ qr ≤ 10) {S : Sto} (hs : Sp S) : ∃ d S', m_f_law_straightened [ltD L, coD c, drD R, .int qr] S = .ok d S' ∧ ∃ R', d = drD R' ∧ DrOk L R' ∧ Sp S' := by
  unfold m_f_law_straightened
  apply body_ret
  unfold b_f_law_straightened
  have hlen := hL.len
  have hRl := hR.len
  refine sq_setE (we_lcI (xs := R.map rpD) (S1 := S) (fun i S' => ∃ R', Grown S S' R' ∧ Sofar L R' i) (fun j _ y => y = .cell (S.length + j)) (by simp [bodyM, startE, q_eVar, q_eC, q_eBin, q_eChain, q_eUn, q_eNot, q_eAnd, q_eOr, q_eIf, q_aNil, q_aCons, q_eTup, q_eLst, q_aSmall, q_eCB, q_eIxOwn, q_eLenOwn, q_oNo, q_oOf, q_eSl, q_eCall, q_eCallK, q_iSeq, q_cYes, q_eLC, q_sExp, q_sNil, q_sSeq, q_sBad, q_sBrk, q_sCont, q_sRet, q_sRetN, q_sDrop, q_sIf, q_sSet, q_sSetOwn, q_sFz, q_sApp, q_sPut, q_sPutC, q_sSetCell, q_sAsg, q_sPar, q_sPar3, q_eCallL, q_eLC2, q_eNewC, q_iZip, q_sRaise, q_sTry, Rs.bind, op1, op2, opL, gAdd, gSub, gI2, gLt, gLe, gGt, gGe, gCmp, gIx, gLen, gInt, seqOf, gNeg, q_max2, q_min2, gTuple, gVar, gTupM, gsCons, gsNil, frz1, ownOf, noX, wipeE, drD]) ⟨[], Grown.nil S, Sofar.nil⟩ ?_ ?_)
  · rintro j x S' hx ⟨R', hg, hR'⟩
    have hj : j < R.length := by have := (List.getElem?_eq_some_iff.mp hx).1; rwa [List.length_map] at this
    have hj2 : j < L.length := by omega
    rw [at_some (by rw [List.length_map]; exact hj), List.getElem_map] at hx
    cases hx
    have hrl := hR.lens hj hj2
    have hb := hR.inb _ (List.getElem_mem hj)
    generalize R[j] = r at hrl hb
    have hw : WE (eNewC (eLC [5] (iSeq (eVar 10)) (gVar 5) cYes (eTup (aCons (eCall 1 m_f_law_fourth (aCons (eBin gIx (eVar 5) (eC (.int 0))) aNil)) (aCons (eCall 1 m_f_law_fourth (aCons (eBin gIx (eVar 5) (eC (.int 1))) aNil)) aNil))))) [.val (ltD L), .val (coD c), .val (drD R), .val (.int qr), .un, .un, .un, .un, .un, .un, .val (rpD r)] S' fun y S2 => y = .cell (S.length + j) ∧ ∃ R', Grown S S2 R' ∧ Sofar L R' (j + 1) :=
      fourths hb rfl (by simp) fun r' hl hb' => ⟨by rw [hg.len, hR'.1], R' ++ [r'], hg.snoc r', hR'.snoc hj2 (by omega) hb'⟩
    obtain ⟨y, S2, e, rfl, h2⟩ := hw
    exact ⟨_, _, S2, rfl, e, rfl, h2⟩
  rintro ys S1 hl hq1 ⟨R1, hg, hR1⟩
  rw [List.length_map] at hl hR1
  have hys := ext_of (f := fun j => D.cell (S.length + j)) hl (fun j y e => hq1 j _ y (at_some (by rw [List.length_map]; have := (List.getElem?_eq_some_iff.mp e).1; omega)) e)
  subst hys
  have hD1 : DrOk L R1 := by rw [hRl] at hR1; exact hR1.ok
  clear hq1
  have hs1 : Sp S1 := hg.sp hs
  obtain ⟨cb, hcb, eb⟩ := before_ok hc S1
  obtain ⟨cn, hcn, en⟩ := next_ok hc S1
  refine sq_par (d1 := coD cb) (d2 := coD cn) (S1 := S1) (by simp [bodyM, startE, q_eVar, q_eC, q_eBin, q_eChain, q_eUn, q_eNot, q_eAnd, q_eOr, q_eIf, q_aNil, q_aCons, q_eTup, q_eLst, q_aSmall, q_eCB, q_eIxOwn, q_eLenOwn, q_oNo, q_oOf, q_eSl, q_eCall, q_eCallK, q_iSeq, q_cYes, q_eLC, q_sExp, q_sNil, q_sSeq, q_sBad, q_sBrk, q_sCont, q_sRet, q_sRetN, q_sDrop, q_sIf, q_sSet, q_sSetOwn, q_sFz, q_sApp, q_sPut, q_sPutC, q_sSetCell, q_sAsg, q_sPar, q_sPar3, q_eCallL, q_eLC2, q_eNewC, q_iZip, q_sRaise, q_sTry, Rs.bind, op1, op2, opL, gAdd, gSub, gI2, gLt, gLe, gGt, gGe, gCmp, gIx, gLen, gInt, seqOf, gNeg, q_max2, q_min2, gTuple, gVar, gTupM, gsCons, gsNil, frz1, ownOf, noX, wipeE, eb, en]) ?_
  have look : ∀ {k : Nat × Nat}, CoOk L k → ∃ p, inB p ∧ L2.atI ((List.range R.length).map fun (i : Nat) => D.cell (S.length + i)) (k.1 : Int) = some (.cell (S.length + k.1)) ∧ ∃ r, R1[k.1]? = some r ∧ S1[S.length + k.1]? = some (r.map plD) ∧ r[k.2]? = some p := fun {k} hk => by
    obtain ⟨r, p, e1, e2, hp⟩ := hD1.ring_at hk
    obtain ⟨l, e3, _⟩ := hk
    have hk2 := (List.getElem?_eq_some_iff.mp e3).1
    exact ⟨p, hp, cells_at (by omega), r, e1, hg.cel _ _ e1, e2⟩
  obtain ⟨pf, hpf, f1, rf, f2, f3, f4⟩ := look hcb
  obtain ⟨pl, hpl, l1, rl, l2, l3, l4⟩ := look hcn
  have f5 := rp_q f4
  have l5 := rp_q l4
  refine sq_par (d1 := plD pf) (d2 := plD pl) (S1 := S1) (by simp [bodyM, startE, q_eVar, q_eC, q_eBin, q_eChain, q_eUn, q_eNot, q_eAnd, q_eOr, q_eIf, q_aNil, q_aCons, q_eTup, q_eLst, q_aSmall, q_eCB, q_eIxOwn, q_eLenOwn, q_oNo, q_oOf, q_eSl, q_eCall, q_eCallK, q_iSeq, q_cYes, q_eLC, q_sExp, q_sNil, q_sSeq, q_sBad, q_sBrk, q_sCont, q_sRet, q_sRetN, q_sDrop, q_sIf, q_sSet, q_sSetOwn, q_sFz, q_sApp, q_sPut, q_sPutC, q_sSetCell, q_sAsg, q_sPar, q_sPar3, q_eCallL, q_eLC2, q_eNewC, q_iZip, q_sRaise, q_sTry, Rs.bind, op1, op2, opL, gAdd, gSub, gI2, gLt, gLe, gGt, gGe, gCmp, gIx, gLen, gInt, seqOf, gNeg, q_max2, q_min2, gTuple, gVar, gTupM, gsCons, gsNil, frz1, ownOf, noX, wipeE, coD, at0, at1, f1, f3, f5, l1, l3, l5]) ?_
  obtain ⟨⟨x1, x2⟩, x3, x4⟩ := hpf
  obtain ⟨⟨y1, y2⟩, y3, y4⟩ := hpl
  have m1 : ((pl.1 - pf.1) / 4).natAbs < 2 ^ 64 := by omega
  have m2 : ((pl.2 - pf.2) / 4).natAbs < 2 ^ 64 := by omega
  refine sq_set (d := plD (pf.1 + (pl.1 - pf.1) / 4 * qr, pf.2 + (pl.2 - pf.2) / 4 * qr)) (S1 := S1) (by simp [bodyM, startE, q_eVar, q_eC, q_eBin, q_eChain, q_eUn, q_eNot, q_eAnd, q_eOr, q_eIf, q_aNil, q_aCons, q_eTup, q_eLst, q_aSmall, q_eCB, q_eIxOwn, q_eLenOwn, q_oNo, q_oOf, q_eSl, q_eCall, q_eCallK, q_iSeq, q_cYes, q_eLC, q_sExp, q_sNil, q_sSeq, q_sBad, q_sBrk, q_sCont, q_sRet, q_sRetN, q_sDrop, q_sIf, q_sSet, q_sSetOwn, q_sFz, q_sApp, q_sPut, q_sPutC, q_sSetCell, q_sAsg, q_sPar, q_sPar3, q_eCallL, q_eLC2, q_eNewC, q_iZip, q_sRaise, q_sTry, Rs.bind, op1, op2, opL, gAdd, gSub, gI2, gLt, gLe, gGt, gGe, gCmp, gIx, gLen, gInt, seqOf, gNeg, q_max2, q_min2, gTuple, gVar, gTupM, gsCons, gsNil, frz1, ownOf, noX, wipeE, plD, at0, at1, q_div, q_mul (.inl m1), q_mul (.inl m2)]) ?_
  generalize pf.1 + (pl.1 - pf.1) / 4 * qr = nx
  generalize pf.2 + (pl.2 - pf.2) / 4 * qr = ny
  obtain ⟨pc, hpc, c1, rc, c2, c3, c4⟩ := look hc
  have hc4 := (List.getElem?_eq_some_iff.mp c4).1
  have eix : L2.ixN (rc.map plD).length (c.2 : Int) = some c.2 := by
    unfold L2.ixN
    rw [if_pos (by omega), if_pos (by rw [List.length_map]; omega)]
    simp
  rw [List.length_map] at eix
  have eput : (rc.map plD).set c.2 (plD (clipP (nx, ny))) = (rc.set c.2 (clipP (nx, ny))).map plD := by rw [List.map_set]
  have ecl := clip_ok nx ny S1
  refine sq_join (fun ρ2 S2 => S2 = S1.set (S.length + c.1) ((rc.set c.2 (clipP (nx, ny))).map plD) ∧ ρ2 = [.val (ltD L), .val (coD c), .val (drD R), .val (.int qr), .val (.lst ((List.range R.length).map fun (i : Nat) => D.cell (S.length + i))), .val (plD (nx, ny)), .val (coD cb), .val (coD cn), .val (plD pf), .val (plD pl), .un]) ?_ ?_
  · unfold WS
    simp only [plD] at ecl
    simp [bodyM, startE, q_eVar, q_eC, q_eBin, q_eChain, q_eUn, q_eNot, q_eAnd, q_eOr, q_eIf, q_aNil, q_aCons, q_eTup, q_eLst, q_aSmall, q_eCB, q_eIxOwn, q_eLenOwn, q_oNo, q_oOf, q_eSl, q_eCall, q_eCallK, q_iSeq, q_cYes, q_eLC, q_sExp, q_sNil, q_sSeq, q_sBad, q_sBrk, q_sCont, q_sRet, q_sRetN, q_sDrop, q_sIf, q_sSet, q_sSetOwn, q_sFz, q_sApp, q_sPut, q_sPutC, q_sSetCell, q_sAsg, q_sPar, q_sPar3, q_eCallL, q_eLC2, q_eNewC, q_iZip, q_sRaise, q_sTry, Rs.bind, op1, op2, opL, gAdd, gSub, gI2, gLt, gLe, gGt, gGe, gCmp, gIx, gLen, gInt, seqOf, gNeg, q_max2, q_min2, gTuple, gVar, gTupM, gsCons, gsNil, frz1, ownOf, noX, wipeE, plD, coD, at0, at1, ecl, c1, c3, eix]
    exact ⟨_, _, ⟨rfl, rfl⟩, rfl, rfl⟩
  rintro ρ2 S2 ⟨rfl, rfl⟩
  have hg2 := hg.set (rc.set c.2 (clipP (nx, ny))) c2
  have hD2 : DrOk L (R1.set c.1 (rc.set c.2 (clipP (nx, ny)))) := by
    refine ⟨by rw [List.length_set]; exact hD1.len, fun k r l h1 h2 => ?_, fun r hr p hp => ?_⟩
    · by_cases hk : c.1 = k
      · subst hk
        rw [List.getElem?_set_self (List.getElem?_eq_some_iff.mp c2).1] at h1
        cases h1
        rw [List.length_set]
        exact hD1.ring _ _ _ c2 h2
      · rw [List.getElem?_set_ne hk] at h1
        exact hD1.ring _ _ _ h1 h2
    · obtain ⟨k, hk⟩ := mem_at hr
      rcases set_some hk with rfl | h
      · obtain ⟨j, hj⟩ := mem_at hp
        rcases set_some hj with rfl | h
        · exact clip_in _
        · exact hD1.inb _ (List.mem_of_getElem? c2) _ (List.mem_of_getElem? h)
      · exact hD1.inb _ (List.mem_of_getElem? h) _ hp
  generalize R1.set c.1 (rc.set c.2 (clipP (nx, ny))) = R2 at hg2 hD2
  generalize S1.set (S.length + c.1) ((rc.set c.2 (clipP (nx, ny))).map plD) = S2 at hg2
  have hl2 := hD2.len
  refine ws_retE (we_cb1 (we_lcI (xs := (List.range R.length).map fun (i : Nat) => D.cell (S.length + i)) (S1 := S2) (fun _ S' => S' = S2) (fun j _ y => ∀ r, R2[j]? = some r → y = rpD r) (by simp [bodyM, startE, q_eVar, q_eC, q_eBin, q_eChain, q_eUn, q_eNot, q_eAnd, q_eOr, q_eIf, q_aNil, q_aCons, q_eTup, q_eLst, q_aSmall, q_eCB, q_eIxOwn, q_eLenOwn, q_oNo, q_oOf, q_eSl, q_eCall, q_eCallK, q_iSeq, q_cYes, q_eLC, q_sExp, q_sNil, q_sSeq, q_sBad, q_sBrk, q_sCont, q_sRet, q_sRetN, q_sDrop, q_sIf, q_sSet, q_sSetOwn, q_sFz, q_sApp, q_sPut, q_sPutC, q_sSetCell, q_sAsg, q_sPar, q_sPar3, q_eCallL, q_eLC2, q_eNewC, q_iZip, q_sRaise, q_sTry, Rs.bind, op1, op2, opL, gAdd, gSub, gI2, gLt, gLe, gGt, gGe, gCmp, gIx, gLen, gInt, seqOf, gNeg, q_max2, q_min2, gTuple, gVar, gTupM, gsCons, gsNil, frz1, ownOf, noX, wipeE]) rfl ?_ ?_))
  · rintro j x S' hx rfl
    rw [List.getElem?_map] at hx
    have hj : j < R.length := by
      by_cases h : j < R.length
      · exact h
      · rw [List.getElem?_eq_none (by simpa using h)] at hx; cases hx
    rw [List.getElem?_range hj] at hx
    cases hx
    have e1 := at_some (xs := R2) (j := j) (by omega)
    have e2 := hg2.cel j _ e1
    have hsz : R2[j].length ≤ sizeLine := by
      have := hD2.lens (i := j) (by omega) (by omega)
      have h8 := hL.at_ (i := j) (by omega)
      exact ten_size (by omega)
    exact ⟨_, rpD R2[j], S', rfl, by simp [bodyM, startE, q_eVar, q_eC, q_eBin, q_eChain, q_eUn, q_eNot, q_eAnd, q_eOr, q_eIf, q_aNil, q_aCons, q_eTup, q_eLst, q_aSmall, q_eCB, q_eIxOwn, q_eLenOwn, q_oNo, q_oOf, q_eSl, q_eCall, q_eCallK, q_iSeq, q_cYes, q_eLC, q_sExp, q_sNil, q_sSeq, q_sBad, q_sBrk, q_sCont, q_sRet, q_sRetN, q_sDrop, q_sIf, q_sSet, q_sSetOwn, q_sFz, q_sApp, q_sPut, q_sPutC, q_sSetCell, q_sAsg, q_sPar, q_sPar3, q_eCallL, q_eLC2, q_eNewC, q_iZip, q_sRaise, q_sTry, Rs.bind, op1, op2, opL, gAdd, gSub, gI2, gLt, gLe, gGt, gGe, gCmp, gIx, gLen, gInt, seqOf, gNeg, q_max2, q_min2, gTuple, gVar, gTupM, gsCons, gsNil, frz1, ownOf, noX, wipeE, e2, hsz, rpD], fun r hr => by rw [e1] at hr; cases hr; rfl, rfl⟩
  · rintro ys S' hl hq2 rfl
    rw [List.length_map, List.length_range] at hl
    have hys : ys = R2.map rpD := by
      apply List.ext_getElem?
      intro k
      by_cases hk : k < R.length
      · have e1 := at_some (xs := ys) (j := k) (by omega)
        have e2 := at_some (xs := R2) (j := k) (by omega)
        rw [e1, hq2 k _ _ (at_some (by simpa using hk)) e1 _ e2, List.getElem?_map, e2]
        rfl
      · rw [List.getElem?_eq_none (by omega), List.getElem?_eq_none (by rw [List.length_map]; omega)]
    subst hys
    exact ⟨drD R2, by simp [bodyM, startE, q_eVar, q_eC, q_eBin, q_eChain, q_eUn, q_eNot, q_eAnd, q_eOr, q_eIf, q_aNil, q_aCons, q_eTup, q_eLst, q_aSmall, q_eCB, q_eIxOwn, q_eLenOwn, q_oNo, q_oOf, q_eSl, q_eCall, q_eCallK, q_iSeq, q_cYes, q_eLC, q_sExp, q_sNil, q_sSeq, q_sBad, q_sBrk, q_sCont, q_sRet, q_sRetN, q_sDrop, q_sIf, q_sSet, q_sSetOwn, q_sFz, q_sApp, q_sPut, q_sPutC, q_sSetCell, q_sAsg, q_sPar, q_sPar3, q_eCallL, q_eLC2, q_eNewC, q_iZip, q_sRaise, q_sTry, Rs.bind, op1, op2, opL, gAdd, gSub, gI2, gLt, gLe, gGt, gGe, gCmp, gIx, gLen, gInt, seqOf, gNeg, q_max2, q_min2, gTuple, gVar, gTupM, gsCons, gsNil, frz1, ownOf, noX, wipeE, drD, ten_size (show R2.length ≤ 10000 by omega)], _, _, rfl, R2, rfl, hD2, hg2.sp hs⟩
end KF
end

section
namespace KF
open PySem
theorem cb1_ok {m : ME} {ρ : Env} {S S1 : Sto} {g : GL} {d r : D} (h : m ρ S = .ok d S1) (h2 : g [d] S1 = some r) : eCB g (aCons m aNil) ρ S = .ok r S1 := by
  unfold eCB aCons aNil
  simp only [h, Rs.bind, opL, h2]
theorem ws_asg {m : ME} {ρ : Env} {S S1 : Sto} {G : RS → Prop} {d : D} {mg : MG} {ρ1 : Env} (h : m ρ S = .ok d S1) (hg : mg d ρ = some ρ1) (g : G (.next ρ1 S1)) : WS (sAsg m mg) ρ S G := by
  unfold WS sAsg sExp
  rw [h]
  simp only [hg]
  exact g
theorem units_at {row : D} (hr : RowOk row) {S : Sto} (hs : Sp S) : ∃ (k a b : Int) (S' : Sto), m_f_law_take [row, .cell 0, .int 4] S = .ok (.int k) S' ∧ L2.atI [D.tup [.int 1, .int 0], .tup [.int 0, .int 1], .tup [.int (-1), .int 0], .tup [.int 0, .int (-1)]] k = some (.tup [.int a, .int b]) ∧ (-2 ≤ a ∧ a ≤ 2) ∧ (-2 ≤ b ∧ b ≤ 2) ∧ Sp S' := by
  obtain ⟨k4, S4, e4, hk4, hs4⟩ := take_ok hr (lim := 4) (by decide) hs
  obtain ⟨d, ed, hd⟩ := atI_mem (xs := [D.tup [.int 1, .int 0], .tup [.int 0, .int 1], .tup [.int (-1), .int 0], .tup [.int 0, .int (-1)]]) hk4.1 hk4.2
  simp only [List.mem_cons, List.not_mem_nil, or_false] at hd
  rcases hd with rfl | rfl | rfl | rfl <;> exact ⟨k4, _, _, S4, e4, ed, by decide, by decide, hs4⟩
theorem turned_ring_ok {row : D} (hr : RowOk row) {many : Nat} (hm : 1 ≤ many ∧ many ≤ 8) {mx my : Int} (hx : -67 ≤ mx ∧ mx ≤ 67) (hy : -67 ≤ my ∧ my ≤ 67) {S : Sto} (hs : Sp S) :
    ∃ d S', m_f_law_turned_ring [row, .cell 0, .int many, .tup [.int mx, .int my]] S = .ok d S' ∧ ∃ r : List Pt, d = rpD r ∧ r.length = many ∧ (∀ p ∈ r, inB p) ∧ Sp S' := by
  unfold m_f_law_turned_ring
  apply body_ret
  unfold b_f_law_turned_ring
  obtain ⟨k1, S1, e1, hk1, hs1⟩ := take_ok hr (lim := 5) (by decide) hs
  obtain ⟨k2, S2, e2, hk2, hs2⟩ := take_ok hr (lim := 5) (by decide) hs1
  refine sq_par (d1 := .int (k1 - 2)) (d2 := .int (k2 - 2)) (S1 := S2) (by simp [bodyM, startE, q_eVar, q_eC, q_eBin, q_eChain, q_eUn, q_eNot, q_eAnd, q_eOr, q_eIf, q_aNil, q_aCons, q_eTup, q_eLst, q_aSmall, q_eCB, q_eIxOwn, q_eLenOwn, q_oNo, q_oOf, q_eSl, q_eCall, q_eCallK, q_iSeq, q_cYes, q_eLC, q_sExp, q_sNil, q_sSeq, q_sBad, q_sBrk, q_sCont, q_sRet, q_sRetN, q_sDrop, q_sIf, q_sSet, q_sSetOwn, q_sFz, q_sApp, q_sPut, q_sPutC, q_sSetCell, q_sAsg, q_sPar, q_sPar3, q_eCallL, q_eLC2, q_eNewC, q_iZip, q_sRaise, q_sTry, Rs.bind, op1, op2, opL, gAdd, gSub, gI2, gLt, gLe, gGt, gGe, gCmp, gIx, gLen, gInt, seqOf, gNeg, q_max2, q_min2, gTuple, gVar, gTupM, gsCons, gsNil, frz1, ownOf, noX, wipeE, e1, e2]) ?_
  refine sq_join (fun ρ1 S1 => ∃ (a b : Int), ρ1 = [.val row, .val (.cell 0), .val (.int many), .val (.tup [.int mx, .int my]), .un, .un, .val (.int a), .val (.int b), .un] ∧ (-2 ≤ a ∧ a ≤ 2) ∧ (-2 ≤ b ∧ b ≤ 2) ∧ Sp S1) ?_ ?_
  · by_cases h0 : k1 - 2 = 0 ∧ k2 - 2 = 0
    · obtain ⟨k, a, b, S4, e4, ed, ha, hb, hs4⟩ := units_at hr hs2
      refine ws_ifT (S1 := S2) (by simp [bodyM, startE, q_eVar, q_eC, q_eBin, q_eChain, q_eUn, q_eNot, q_eAnd, q_eOr, q_eIf, q_aNil, q_aCons, q_eTup, q_eLst, q_aSmall, q_eCB, q_eIxOwn, q_eLenOwn, q_oNo, q_oOf, q_eSl, q_eCall, q_eCallK, q_iSeq, q_cYes, q_eLC, q_sExp, q_sNil, q_sSeq, q_sBad, q_sBrk, q_sCont, q_sRet, q_sRetN, q_sDrop, q_sIf, q_sSet, q_sSetOwn, q_sFz, q_sApp, q_sPut, q_sPutC, q_sSetCell, q_sAsg, q_sPar, q_sPar3, q_eCallL, q_eLC2, q_eNewC, q_iZip, q_sRaise, q_sTry, Rs.bind, op1, op2, opL, gAdd, gSub, gI2, gLt, gLe, gGt, gGe, gCmp, gIx, gLen, gInt, seqOf, gNeg, q_max2, q_min2, gTuple, gVar, gTupM, gsCons, gsNil, frz1, ownOf, noX, wipeE, q_eq_int, h0.1, h0.2]) ?_
      exact ws_asg (S1 := S4) (d := .tup [.int a, .int b]) (by simp [bodyM, startE, q_eVar, q_eC, q_eBin, q_eChain, q_eUn, q_eNot, q_eAnd, q_eOr, q_eIf, q_aNil, q_aCons, q_eTup, q_eLst, q_aSmall, q_eCB, q_eIxOwn, q_eLenOwn, q_oNo, q_oOf, q_eSl, q_eCall, q_eCallK, q_iSeq, q_cYes, q_eLC, q_sExp, q_sNil, q_sSeq, q_sBad, q_sBrk, q_sCont, q_sRet, q_sRetN, q_sDrop, q_sIf, q_sSet, q_sSetOwn, q_sFz, q_sApp, q_sPut, q_sPutC, q_sSetCell, q_sAsg, q_sPar, q_sPar3, q_eCallL, q_eLC2, q_eNewC, q_iZip, q_sRaise, q_sTry, Rs.bind, op1, op2, opL, gAdd, gSub, gI2, gLt, gLe, gGt, gGe, gCmp, gIx, gLen, gInt, seqOf, gNeg, q_max2, q_min2, gTuple, gVar, gTupM, gsCons, gsNil, frz1, ownOf, noX, wipeE, e4, ed]) rfl ⟨_, _, rfl, a, b, rfl, ha, hb, hs4⟩
    · obtain ⟨k3, S3, e3, hk3, hs3⟩ := take_ok hr (lim := 2) (by decide) hs2
      obtain ⟨k, a, b, S4, e4, ed, ha, hb, hs4⟩ := units_at hr hs3
      have e5 : (eAnd (eBin gEq (eVar 6) (eC (.int 0))) (eBin gEq (eVar 7) (eC (.int 0)))) [.val row, .val (.cell 0), .val (.int many), .val (.tup [.int mx, .int my]), .un, .un, .val (.int (k1 - 2)), .val (.int (k2 - 2)), .un] S2 = .ok (.bl false) S2 := by
        by_cases h1 : k1 - 2 = 0
        · have h2 : ¬ k2 - 2 = 0 := fun h => h0 ⟨h1, h⟩
          simp [bodyM, startE, q_eVar, q_eC, q_eBin, q_eChain, q_eUn, q_eNot, q_eAnd, q_eOr, q_eIf, q_aNil, q_aCons, q_eTup, q_eLst, q_aSmall, q_eCB, q_eIxOwn, q_eLenOwn, q_oNo, q_oOf, q_eSl, q_eCall, q_eCallK, q_iSeq, q_cYes, q_eLC, q_sExp, q_sNil, q_sSeq, q_sBad, q_sBrk, q_sCont, q_sRet, q_sRetN, q_sDrop, q_sIf, q_sSet, q_sSetOwn, q_sFz, q_sApp, q_sPut, q_sPutC, q_sSetCell, q_sAsg, q_sPar, q_sPar3, q_eCallL, q_eLC2, q_eNewC, q_iZip, q_sRaise, q_sTry, Rs.bind, op1, op2, opL, gAdd, gSub, gI2, gLt, gLe, gGt, gGe, gCmp, gIx, gLen, gInt, seqOf, gNeg, q_max2, q_min2, gTuple, gVar, gTupM, gsCons, gsNil, frz1, ownOf, noX, wipeE, q_eq_int, h1, h2]
        · simp [bodyM, startE, q_eVar, q_eC, q_eBin, q_eChain, q_eUn, q_eNot, q_eAnd, q_eOr, q_eIf, q_aNil, q_aCons, q_eTup, q_eLst, q_aSmall, q_eCB, q_eIxOwn, q_eLenOwn, q_oNo, q_oOf, q_eSl, q_eCall, q_eCallK, q_iSeq, q_cYes, q_eLC, q_sExp, q_sNil, q_sSeq, q_sBad, q_sBrk, q_sCont, q_sRet, q_sRetN, q_sDrop, q_sIf, q_sSet, q_sSetOwn, q_sFz, q_sApp, q_sPut, q_sPutC, q_sSetCell, q_sAsg, q_sPar, q_sPar3, q_eCallL, q_eLC2, q_eNewC, q_iZip, q_sRaise, q_sTry, Rs.bind, op1, op2, opL, gAdd, gSub, gI2, gLt, gLe, gGt, gGe, gCmp, gIx, gLen, gInt, seqOf, gNeg, q_max2, q_min2, gTuple, gVar, gTupM, gsCons, gsNil, frz1, ownOf, noX, wipeE, q_eq_int, h1]
      have e6 : ∀ m2 : ME, (eOr (eAnd (eBin gEq (eVar 6) (eC (.int 0))) (eBin gEq (eVar 7) (eC (.int 0)))) m2) [.val row, .val (.cell 0), .val (.int many), .val (.tup [.int mx, .int my]), .un, .un, .val (.int (k1 - 2)), .val (.int (k2 - 2)), .un] S2 = m2 [.val row, .val (.cell 0), .val (.int many), .val (.tup [.int mx, .int my]), .un, .un, .val (.int (k1 - 2)), .val (.int (k2 - 2)), .un] S2 := fun m2 => by
        unfold eOr
        rw [e5]
        rfl
      by_cases h3 : k3 = 0
      · refine ws_ifT (S1 := S3) ((e6 _).trans (by simp [bodyM, startE, q_eVar, q_eC, q_eBin, q_eChain, q_eUn, q_eNot, q_eAnd, q_eOr, q_eIf, q_aNil, q_aCons, q_eTup, q_eLst, q_aSmall, q_eCB, q_eIxOwn, q_eLenOwn, q_oNo, q_oOf, q_eSl, q_eCall, q_eCallK, q_iSeq, q_cYes, q_eLC, q_sExp, q_sNil, q_sSeq, q_sBad, q_sBrk, q_sCont, q_sRet, q_sRetN, q_sDrop, q_sIf, q_sSet, q_sSetOwn, q_sFz, q_sApp, q_sPut, q_sPutC, q_sSetCell, q_sAsg, q_sPar, q_sPar3, q_eCallL, q_eLC2, q_eNewC, q_iZip, q_sRaise, q_sTry, Rs.bind, op1, op2, opL, gAdd, gSub, gI2, gLt, gLe, gGt, gGe, gCmp, gIx, gLen, gInt, seqOf, gNeg, q_max2, q_min2, gTuple, gVar, gTupM, gsCons, gsNil, frz1, ownOf, noX, wipeE, e3, q_eq_int, h3])) ?_
        exact ws_asg (S1 := S4) (d := .tup [.int a, .int b]) (by simp [bodyM, startE, q_eVar, q_eC, q_eBin, q_eChain, q_eUn, q_eNot, q_eAnd, q_eOr, q_eIf, q_aNil, q_aCons, q_eTup, q_eLst, q_aSmall, q_eCB, q_eIxOwn, q_eLenOwn, q_oNo, q_oOf, q_eSl, q_eCall, q_eCallK, q_iSeq, q_cYes, q_eLC, q_sExp, q_sNil, q_sSeq, q_sBad, q_sBrk, q_sCont, q_sRet, q_sRetN, q_sDrop, q_sIf, q_sSet, q_sSetOwn, q_sFz, q_sApp, q_sPut, q_sPutC, q_sSetCell, q_sAsg, q_sPar, q_sPar3, q_eCallL, q_eLC2, q_eNewC, q_iZip, q_sRaise, q_sTry, Rs.bind, op1, op2, opL, gAdd, gSub, gI2, gLt, gLe, gGt, gGe, gCmp, gIx, gLen, gInt, seqOf, gNeg, q_max2, q_min2, gTuple, gVar, gTupM, gsCons, gsNil, frz1, ownOf, noX, wipeE, e4, ed]) rfl ⟨_, _, rfl, a, b, rfl, ha, hb, hs4⟩
      · exact ws_ifF (S1 := S3) ((e6 _).trans (by simp [bodyM, startE, q_eVar, q_eC, q_eBin, q_eChain, q_eUn, q_eNot, q_eAnd, q_eOr, q_eIf, q_aNil, q_aCons, q_eTup, q_eLst, q_aSmall, q_eCB, q_eIxOwn, q_eLenOwn, q_oNo, q_oOf, q_eSl, q_eCall, q_eCallK, q_iSeq, q_cYes, q_eLC, q_sExp, q_sNil, q_sSeq, q_sBad, q_sBrk, q_sCont, q_sRet, q_sRetN, q_sDrop, q_sIf, q_sSet, q_sSetOwn, q_sFz, q_sApp, q_sPut, q_sPutC, q_sSetCell, q_sAsg, q_sPar, q_sPar3, q_eCallL, q_eLC2, q_eNewC, q_iZip, q_sRaise, q_sTry, Rs.bind, op1, op2, opL, gAdd, gSub, gI2, gLt, gLe, gGt, gGe, gCmp, gIx, gLen, gInt, seqOf, gNeg, q_max2, q_min2, gTuple, gVar, gTupM, gsCons, gsNil, frz1, ownOf, noX, wipeE, e3, q_eq_int, h3])) (ws_nil ⟨_, _, rfl, _, _, rfl, by omega, by omega, hs3⟩)
  rintro ρ1 S3 ⟨a, b, rfl, ha, hb, hs3⟩
  refine sq_setOwn (xs := []) (S1 := S3) (by simp [bodyM, startE, q_eVar, q_eC, q_eBin, q_eChain, q_eUn, q_eNot, q_eAnd, q_eOr, q_eIf, q_aNil, q_aCons, q_eTup, q_eLst, q_aSmall, q_eCB, q_eIxOwn, q_eLenOwn, q_oNo, q_oOf, q_eSl, q_eCall, q_eCallK, q_iSeq, q_cYes, q_eLC, q_sExp, q_sNil, q_sSeq, q_sBad, q_sBrk, q_sCont, q_sRet, q_sRetN, q_sDrop, q_sIf, q_sSet, q_sSetOwn, q_sFz, q_sApp, q_sPut, q_sPutC, q_sSetCell, q_sAsg, q_sPar, q_sPar3, q_eCallL, q_eLC2, q_eNewC, q_iZip, q_sRaise, q_sTry, Rs.bind, op1, op2, opL, gAdd, gSub, gI2, gLt, gLe, gGt, gGe, gCmp, gIx, gLen, gInt, seqOf, gNeg, q_max2, q_min2, gTuple, gVar, gTupM, gsCons, gsNil, frz1, ownOf, noX, wipeE]) ?_
  refine sq_for (items := rangeD 0 many) (S1 := S3) (fun j ρ S => ∃ (r : List Pt) (a5 a8 : Sl), ρ = [.val row, .val (.cell 0), .val (.int many), .val (.tup [.int mx, .int my]), .own (r.map plD), a5, .val (.int a), .val (.int b), a8] ∧ Sp S ∧ r.length = j ∧ ∀ p ∈ r, inB p) ?_ ?_ ?_ ?_
  · exact rng1 (by simp [bodyM, startE, q_eVar, q_eC, q_eBin, q_eChain, q_eUn, q_eNot, q_eAnd, q_eOr, q_eIf, q_aNil, q_aCons, q_eTup, q_eLst, q_aSmall, q_eCB, q_eIxOwn, q_eLenOwn, q_oNo, q_oOf, q_eSl, q_eCall, q_eCallK, q_iSeq, q_cYes, q_eLC, q_sExp, q_sNil, q_sSeq, q_sBad, q_sBrk, q_sCont, q_sRet, q_sRetN, q_sDrop, q_sIf, q_sSet, q_sSetOwn, q_sFz, q_sApp, q_sPut, q_sPutC, q_sSetCell, q_sAsg, q_sPar, q_sPar3, q_eCallL, q_eLC2, q_eNewC, q_iZip, q_sRaise, q_sTry, Rs.bind, op1, op2, opL, gAdd, gSub, gI2, gLt, gLe, gGt, gGe, gCmp, gIx, gLen, gInt, seqOf, gNeg, q_max2, q_min2, gTuple, gVar, gTupM, gsCons, gsNil, frz1, ownOf, noX, wipeE]) (by omega)
  · exact ⟨[], _, _, rfl, hs3, rfl, by simp⟩
  · rintro j x ρ S hx ⟨r, a5, a8, rfl, hs, hj, hr'⟩
    obtain ⟨hj2, rfl⟩ := range_at hx
    refine ⟨_, rfl, ?_⟩
    obtain ⟨way, eway, ⟨⟨w1, w2⟩, w3, w4⟩⟩ := ways_at (12 * (j : Int) / many)
    refine sq_set (d := plD way) (S1 := S) (by simp [bodyM, startE, q_eVar, q_eC, q_eBin, q_eChain, q_eUn, q_eNot, q_eAnd, q_eOr, q_eIf, q_aNil, q_aCons, q_eTup, q_eLst, q_aSmall, q_eCB, q_eIxOwn, q_eLenOwn, q_oNo, q_oOf, q_eSl, q_eCall, q_eCallK, q_iSeq, q_cYes, q_eLC, q_sExp, q_sNil, q_sSeq, q_sBad, q_sBrk, q_sCont, q_sRet, q_sRetN, q_sDrop, q_sIf, q_sSet, q_sSetOwn, q_sFz, q_sApp, q_sPut, q_sPutC, q_sSetCell, q_sAsg, q_sPar, q_sPar3, q_eCallL, q_eLC2, q_eNewC, q_iZip, q_sRaise, q_sTry, Rs.bind, op1, op2, opL, gAdd, gSub, gI2, gLt, gLe, gGt, gGe, gCmp, gIx, gLen, gInt, seqOf, gNeg, q_max2, q_min2, gTuple, gVar, gTupM, gsCons, gsNil, frz1, ownOf, noX, wipeE, ways_ok, q_mul, q_div (show (0 : Int) < many by omega) (by omega), q_mod, eway]) ?_
    have m1 : way.1.natAbs < 2 ^ 64 := by omega
    have m2 : way.2.natAbs < 2 ^ 64 := by omega
    have b1 : ∀ {u v : Int}, -8 ≤ u → u ≤ 8 → -2 ≤ v → v ≤ 2 → -16 ≤ u * v ∧ u * v ≤ 16 := fun {u v} h1 h2 h3 h4 => by
      have : v = -2 ∨ v = -1 ∨ v = 0 ∨ v = 1 ∨ v = 2 := by omega
      rcases this with rfl | rfl | rfl | rfl | rfl <;> omega
    have c1 := b1 w1 w2 ha.1 ha.2
    have c2 := b1 w3 w4 hb.1 hb.2
    have c3 := b1 w1 w2 hb.1 hb.2
    have c4 := b1 w3 w4 ha.1 ha.2
    refine ws_app (xs := r.map plD) (own_i rfl) (d := plD (mx + way.1 * a - way.2 * b, my + way.1 * b + way.2 * a)) (S1 := S) (by simp [bodyM, startE, q_eVar, q_eC, q_eBin, q_eChain, q_eUn, q_eNot, q_eAnd, q_eOr, q_eIf, q_aNil, q_aCons, q_eTup, q_eLst, q_aSmall, q_eCB, q_eIxOwn, q_eLenOwn, q_oNo, q_oOf, q_eSl, q_eCall, q_eCallK, q_iSeq, q_cYes, q_eLC, q_sExp, q_sNil, q_sSeq, q_sBad, q_sBrk, q_sCont, q_sRet, q_sRetN, q_sDrop, q_sIf, q_sSet, q_sSetOwn, q_sFz, q_sApp, q_sPut, q_sPutC, q_sSetCell, q_sAsg, q_sPar, q_sPar3, q_eCallL, q_eLC2, q_eNewC, q_iZip, q_sRaise, q_sTry, Rs.bind, op1, op2, opL, gAdd, gSub, gI2, gLt, gLe, gGt, gGe, gCmp, gIx, gLen, gInt, seqOf, gNeg, q_max2, q_min2, gTuple, gVar, gTupM, gsCons, gsNil, frz1, ownOf, noX, wipeE, plD, at0, at1, q_mul (.inl m1), q_mul (.inl m2)]) (by rw [List.length_map]; omega) ⟨_, _, rfl, r ++ [(mx + way.1 * a - way.2 * b, my + way.1 * b + way.2 * a)], _, _, by rw [List.map_append]; rfl, hs, by simp [hj], ?_⟩
    intro p hp
    rcases List.mem_append.mp hp with h | h
    · exact hr' p h
    · rw [List.mem_singleton.mp h]
      unfold inB
      dsimp only
      omega
  · rintro ρ S ⟨r, a5, a8, rfl, hs, hj, hr'⟩
    rw [rangeD_len] at hj
    exact ws_fz (ws_ret (d := rpD r) (S1 := S) (by simp [bodyM, startE, q_eVar, q_eC, q_eBin, q_eChain, q_eUn, q_eNot, q_eAnd, q_eOr, q_eIf, q_aNil, q_aCons, q_eTup, q_eLst, q_aSmall, q_eCB, q_eIxOwn, q_eLenOwn, q_oNo, q_oOf, q_eSl, q_eCall, q_eCallK, q_iSeq, q_cYes, q_eLC, q_sExp, q_sNil, q_sSeq, q_sBad, q_sBrk, q_sCont, q_sRet, q_sRetN, q_sDrop, q_sIf, q_sSet, q_sSetOwn, q_sFz, q_sApp, q_sPut, q_sPutC, q_sSetCell, q_sAsg, q_sPar, q_sPar3, q_eCallL, q_eLC2, q_eNewC, q_iZip, q_sRaise, q_sTry, Rs.bind, op1, op2, opL, gAdd, gSub, gI2, gLt, gLe, gGt, gGe, gCmp, gIx, gLen, gInt, seqOf, gNeg, q_max2, q_min2, gTuple, gVar, gTupM, gsCons, gsNil, frz1, ownOf, noX, wipeE, rpD, ten_size (show r.length ≤ 10000 by omega)]) ⟨_, _, rfl, r, rfl, hj, hr', hs⟩)
/-- a letter of at most two rings -/
theorem turned_drawing_ok {row : D} (hr : RowOk row) {L : List (List Str)} (hL : LtOk L) (h2 : L.length ≤ 2) {S : Sto} (hs : Sp S) : ∃ d S', m_f_law_turned_drawing [row, .cell 0, ltD L] S = .ok d S' ∧ ∃ R, d = drD R ∧ DrOk L R ∧ Sp S' := by
  unfold m_f_law_turned_drawing
  apply body_ret
  unfold b_f_law_turned_drawing
  have hlen := hL.len
  refine sq_setOwn (xs := []) (S1 := S) (by simp [bodyM, startE, q_eVar, q_eC, q_eBin, q_eChain, q_eUn, q_eNot, q_eAnd, q_eOr, q_eIf, q_aNil, q_aCons, q_eTup, q_eLst, q_aSmall, q_eCB, q_eIxOwn, q_eLenOwn, q_oNo, q_oOf, q_eSl, q_eCall, q_eCallK, q_iSeq, q_cYes, q_eLC, q_sExp, q_sNil, q_sSeq, q_sBad, q_sBrk, q_sCont, q_sRet, q_sRetN, q_sDrop, q_sIf, q_sSet, q_sSetOwn, q_sFz, q_sApp, q_sPut, q_sPutC, q_sSetCell, q_sAsg, q_sPar, q_sPar3, q_eCallL, q_eLC2, q_eNewC, q_iZip, q_sRaise, q_sTry, Rs.bind, op1, op2, opL, gAdd, gSub, gI2, gLt, gLe, gGt, gGe, gCmp, gIx, gLen, gInt, seqOf, gNeg, q_max2, q_min2, gTuple, gVar, gTupM, gsCons, gsNil, frz1, ownOf, noX, wipeE]) ?_
  refine sq_for (items := rangeD 0 L.length) (S1 := S) (fun i ρ S => ∃ (R : List (List Pt)) (a4 a5 : Sl), ρ = [.val row, .val (.cell 0), .val (ltD L), .own (R.map rpD), a4, a5] ∧ Sp S ∧ Sofar L R i) ?_ ?_ ?_ ?_
  · exact rng1 (by simp [bodyM, startE, q_eVar, q_eC, q_eBin, q_eChain, q_eUn, q_eNot, q_eAnd, q_eOr, q_eIf, q_aNil, q_aCons, q_eTup, q_eLst, q_aSmall, q_eCB, q_eIxOwn, q_eLenOwn, q_oNo, q_oOf, q_eSl, q_eCall, q_eCallK, q_iSeq, q_cYes, q_eLC, q_sExp, q_sNil, q_sSeq, q_sBad, q_sBrk, q_sCont, q_sRet, q_sRetN, q_sDrop, q_sIf, q_sSet, q_sSetOwn, q_sFz, q_sApp, q_sPut, q_sPutC, q_sSetCell, q_sAsg, q_sPar, q_sPar3, q_eCallL, q_eLC2, q_eNewC, q_iZip, q_sRaise, q_sTry, Rs.bind, op1, op2, opL, gAdd, gSub, gI2, gLt, gLe, gGt, gGe, gCmp, gIx, gLen, gInt, seqOf, gNeg, q_max2, q_min2, gTuple, gVar, gTupM, gsCons, gsNil, frz1, ownOf, noX, wipeE, ltD]) (by omega)
  · exact ⟨[], _, _, rfl, hs, Sofar.nil⟩
  · rintro i x ρ S hx ⟨R, a4, a5, rfl, hs, hR⟩
    obtain ⟨hi, rfl⟩ := range_at hx
    refine ⟨_, rfl, ?_⟩
    have hLi := hL.at_ hi
    have e1 := at_some hi
    have hsn := fun (r : List Pt) => Sofar.snoc hR hi (r := r)
    generalize L[i] = l at hLi e1 hsn
    have eq := lt_q e1
    obtain ⟨mx, emx, hmx⟩ : ∃ mx : Int, (if (L.length : Int) = 1 then (0 : Int) else 80 * (i : Int) - 40) = mx ∧ -67 ≤ mx ∧ mx ≤ 67 := ⟨_, rfl, by split <;> omega⟩
    refine sq_set (d := .tup [.int mx, .int 0]) (S1 := S) ?_ ?_
    · by_cases h1 : (L.length : Int) = 1
      · rw [if_pos h1] at emx
        subst emx
        simp [bodyM, startE, q_eVar, q_eC, q_eBin, q_eChain, q_eUn, q_eNot, q_eAnd, q_eOr, q_eIf, q_aNil, q_aCons, q_eTup, q_eLst, q_aSmall, q_eCB, q_eIxOwn, q_eLenOwn, q_oNo, q_oOf, q_eSl, q_eCall, q_eCallK, q_iSeq, q_cYes, q_eLC, q_sExp, q_sNil, q_sSeq, q_sBad, q_sBrk, q_sCont, q_sRet, q_sRetN, q_sDrop, q_sIf, q_sSet, q_sSetOwn, q_sFz, q_sApp, q_sPut, q_sPutC, q_sSetCell, q_sAsg, q_sPar, q_sPar3, q_eCallL, q_eLC2, q_eNewC, q_iZip, q_sRaise, q_sTry, Rs.bind, op1, op2, opL, gAdd, gSub, gI2, gLt, gLe, gGt, gGe, gCmp, gIx, gLen, gInt, seqOf, gNeg, q_max2, q_min2, gTuple, gVar, gTupM, gsCons, gsNil, frz1, ownOf, noX, wipeE, ltD, q_eq_int, h1]
      · rw [if_neg h1] at emx
        subst emx
        have h1' : ¬ L.length = 1 := by omega
        simp [bodyM, startE, q_eVar, q_eC, q_eBin, q_eChain, q_eUn, q_eNot, q_eAnd, q_eOr, q_eIf, q_aNil, q_aCons, q_eTup, q_eLst, q_aSmall, q_eCB, q_eIxOwn, q_eLenOwn, q_oNo, q_oOf, q_eSl, q_eCall, q_eCallK, q_iSeq, q_cYes, q_eLC, q_sExp, q_sNil, q_sSeq, q_sBad, q_sBrk, q_sCont, q_sRet, q_sRetN, q_sDrop, q_sIf, q_sSet, q_sSetOwn, q_sFz, q_sApp, q_sPut, q_sPutC, q_sSetCell, q_sAsg, q_sPar, q_sPar3, q_eCallL, q_eLC2, q_eNewC, q_iZip, q_sRaise, q_sTry, Rs.bind, op1, op2, opL, gAdd, gSub, gI2, gLt, gLe, gGt, gGe, gCmp, gIx, gLen, gInt, seqOf, gNeg, q_max2, q_min2, gTuple, gVar, gTupM, gsCons, gsNil, frz1, ownOf, noX, wipeE, ltD, q_eq_int, h1, h1', q_mul]
    obtain ⟨d, S2, e2, r, rfl, hrl, hrb, hs2⟩ := turned_ring_ok hr (many := l.length) (by omega) hmx (my := 0) (by decide) hs
    exact ws_app (xs := R.map rpD) (own_i rfl) (d := rpD r) (S1 := S2) (by simp [bodyM, startE, q_eVar, q_eC, q_eBin, q_eChain, q_eUn, q_eNot, q_eAnd, q_eOr, q_eIf, q_aNil, q_aCons, q_eTup, q_eLst, q_aSmall, q_eCB, q_eIxOwn, q_eLenOwn, q_oNo, q_oOf, q_eSl, q_eCall, q_eCallK, q_iSeq, q_cYes, q_eLC, q_sExp, q_sNil, q_sSeq, q_sBad, q_sBrk, q_sCont, q_sRet, q_sRetN, q_sDrop, q_sIf, q_sSet, q_sSetOwn, q_sFz, q_sApp, q_sPut, q_sPutC, q_sSetCell, q_sAsg, q_sPar, q_sPar3, q_eCallL, q_eLC2, q_eNewC, q_iZip, q_sRaise, q_sTry, Rs.bind, op1, op2, opL, gAdd, gSub, gI2, gLt, gLe, gGt, gGe, gCmp, gIx, gLen, gInt, seqOf, gNeg, q_max2, q_min2, gTuple, gVar, gTupM, gsCons, gsNil, frz1, ownOf, noX, wipeE, ltD, eq, len_rg, e2]; simp [bodyM, startE, q_eVar, q_eC, q_eBin, q_eChain, q_eUn, q_eNot, q_eAnd, q_eOr, q_eIf, q_aNil, q_aCons, q_eTup, q_eLst, q_aSmall, q_eCB, q_eIxOwn, q_eLenOwn, q_oNo, q_oOf, q_eSl, q_eCall, q_eCallK, q_iSeq, q_cYes, q_eLC, q_sExp, q_sNil, q_sSeq, q_sBad, q_sBrk, q_sCont, q_sRet, q_sRetN, q_sDrop, q_sIf, q_sSet, q_sSetOwn, q_sFz, q_sApp, q_sPut, q_sPutC, q_sSetCell, q_sAsg, q_sPar, q_sPar3, q_eCallL, q_eLC2, q_eNewC, q_iZip, q_sRaise, q_sTry, Rs.bind, op1, op2, opL, gAdd, gSub, gI2, gLt, gLe, gGt, gGe, gCmp, gIx, gLen, gInt, seqOf, gNeg, q_max2, q_min2, gTuple, gVar, gTupM, gsCons, gsNil, frz1, ownOf, noX, wipeE, rgD, e2]) (by rw [List.length_map]; have := hR.1; omega) ⟨_, _, rfl, R ++ [r], _, _, by rw [List.map_append]; rfl, hs2, hsn r hrl hrb⟩
  · rintro ρ S ⟨R, a4, a5, rfl, hs, hR⟩
    rw [rangeD_len] at hR
    exact ws_fz (ws_ret (d := drD R) (S1 := S) (by simp [bodyM, startE, q_eVar, q_eC, q_eBin, q_eChain, q_eUn, q_eNot, q_eAnd, q_eOr, q_eIf, q_aNil, q_aCons, q_eTup, q_eLst, q_aSmall, q_eCB, q_eIxOwn, q_eLenOwn, q_oNo, q_oOf, q_eSl, q_eCall, q_eCallK, q_iSeq, q_cYes, q_eLC, q_sExp, q_sNil, q_sSeq, q_sBad, q_sBrk, q_sCont, q_sRet, q_sRetN, q_sDrop, q_sIf, q_sSet, q_sSetOwn, q_sFz, q_sApp, q_sPut, q_sPutC, q_sSetCell, q_sAsg, q_sPar, q_sPar3, q_eCallL, q_eLC2, q_eNewC, q_iZip, q_sRaise, q_sTry, Rs.bind, op1, op2, opL, gAdd, gSub, gI2, gLt, gLe, gGt, gGe, gCmp, gIx, gLen, gInt, seqOf, gNeg, q_max2, q_min2, gTuple, gVar, gTupM, gsCons, gsNil, frz1, ownOf, noX, wipeE, drD, ten_size (show R.length ≤ 10000 by have := hR.1; omega)]) ⟨_, _, rfl, R, rfl, hR.ok, hs⟩)
theorem turned_letter_ok {row : D} (hr : RowOk row) {S : Sto} (hs : Sp S) : ∃ d S', m_f_law_turned_letter [row, .cell 0] S = .ok d S' ∧ ∃ L, d = ltD L ∧ LtOk L ∧ L.length ≤ 2 ∧ Sp S' := by
  unfold m_f_law_turned_letter
  apply body_ret
  unfold b_f_law_turned_letter
  refine sq_setOwn (xs := []) (S1 := S) (by simp [bodyM, startE, q_eVar, q_eC, q_eBin, q_eChain, q_eUn, q_eNot, q_eAnd, q_eOr, q_eIf, q_aNil, q_aCons, q_eTup, q_eLst, q_aSmall, q_eCB, q_eIxOwn, q_eLenOwn, q_oNo, q_oOf, q_eSl, q_eCall, q_eCallK, q_iSeq, q_cYes, q_eLC, q_sExp, q_sNil, q_sSeq, q_sBad, q_sBrk, q_sCont, q_sRet, q_sRetN, q_sDrop, q_sIf, q_sSet, q_sSetOwn, q_sFz, q_sApp, q_sPut, q_sPutC, q_sSetCell, q_sAsg, q_sPar, q_sPar3, q_eCallL, q_eLC2, q_eNewC, q_iZip, q_sRaise, q_sTry, Rs.bind, op1, op2, opL, gAdd, gSub, gI2, gLt, gLe, gGt, gGe, gCmp, gIx, gLen, gInt, seqOf, gNeg, q_max2, q_min2, gTuple, gVar, gTupM, gsCons, gsNil, frz1, ownOf, noX, wipeE]) ?_
  obtain ⟨k1, S1, e1, hk1, hs1⟩ := take_ok hr (lim := 2) (by decide) hs
  obtain ⟨n, en, hn⟩ : ∃ n : Nat, 1 + k1 = (n : Int) ∧ 1 ≤ n ∧ n ≤ 2 := ⟨(1 + k1).toNat, by omega, by omega, by omega⟩
  refine sq_for (items := rangeD 0 n) (S1 := S1) (fun i ρ S => ∃ (L : List (List Str)) (a3 a4 : Sl), ρ = [.val row, .val (.cell 0), .own (L.map rgD), a3, a4] ∧ Sp S ∧ L.length = i ∧ total L ≤ 4 * i ∧ ∀ r ∈ L, 3 ≤ r.length ∧ r.length ≤ 8 ∧ ∀ m ∈ r, m ∈ manners) ?_ ?_ ?_ ?_
  · exact rng1 (by simp [bodyM, startE, q_eVar, q_eC, q_eBin, q_eChain, q_eUn, q_eNot, q_eAnd, q_eOr, q_eIf, q_aNil, q_aCons, q_eTup, q_eLst, q_aSmall, q_eCB, q_eIxOwn, q_eLenOwn, q_oNo, q_oOf, q_eSl, q_eCall, q_eCallK, q_iSeq, q_cYes, q_eLC, q_sExp, q_sNil, q_sSeq, q_sBad, q_sBrk, q_sCont, q_sRet, q_sRetN, q_sDrop, q_sIf, q_sSet, q_sSetOwn, q_sFz, q_sApp, q_sPut, q_sPutC, q_sSetCell, q_sAsg, q_sPar, q_sPar3, q_eCallL, q_eLC2, q_eNewC, q_iZip, q_sRaise, q_sTry, Rs.bind, op1, op2, opL, gAdd, gSub, gI2, gLt, gLe, gGt, gGe, gCmp, gIx, gLen, gInt, seqOf, gNeg, q_max2, q_min2, gTuple, gVar, gTupM, gsCons, gsNil, frz1, ownOf, noX, wipeE, e1, en]) (by omega)
  · exact ⟨[], _, _, rfl, hs1, rfl, by simp [total], by simp⟩
  · rintro i x ρ S hx ⟨L, a3, a4, rfl, hs, hi, ht, hL⟩
    obtain ⟨hi2, rfl⟩ := range_at hx
    refine ⟨_, rfl, ?_⟩
    obtain ⟨k2, S2, e2, hk2, hs2⟩ := take_ok hr (lim := 2) (by decide) hs
    obtain ⟨many, em, hm⟩ : ∃ n : Nat, 3 + k2 = (n : Int) ∧ 3 ≤ n ∧ n ≤ 4 := ⟨(3 + k2).toNat, by omega, by omega, by omega⟩
    have hw : WE (eLst (eLC [4] (iRange1 (aCons (eBin gAdd (eC (.int 3)) (eCall 3 m_f_law_take (aCons (eVar 0) (aCons (eVar 1) (aCons (eC (.int 2)) aNil))))) aNil)) (gVar 4) cYes (eBin gIx (eLst (aSmall (aCons (eC (.str "left")) (aCons (eC (.str "any")) aNil)))) (eCall 3 m_f_law_take (aCons (eVar 0) (aCons (eVar 1) (aCons (eC (.int 2)) aNil))))))) [.val row, .val (.cell 0), .own (L.map rgD), .val (.int i), a4] S
        fun d S' => Sp S' ∧ ∃ r : List Str, d = .lst (r.map D.str) ∧ r.length = many ∧ ∀ m ∈ r, m ∈ manners := by
      refine we_lc (xs := rangeD 0 many) (S1 := S2) Sp (fun _ _ y => ∃ m, y = .str m ∧ m ∈ manners) (rng1 (by simp [bodyM, startE, q_eVar, q_eC, q_eBin, q_eChain, q_eUn, q_eNot, q_eAnd, q_eOr, q_eIf, q_aNil, q_aCons, q_eTup, q_eLst, q_aSmall, q_eCB, q_eIxOwn, q_eLenOwn, q_oNo, q_oOf, q_eSl, q_eCall, q_eCallK, q_iSeq, q_cYes, q_eLC, q_sExp, q_sNil, q_sSeq, q_sBad, q_sBrk, q_sCont, q_sRet, q_sRetN, q_sDrop, q_sIf, q_sSet, q_sSetOwn, q_sFz, q_sApp, q_sPut, q_sPutC, q_sSetCell, q_sAsg, q_sPar, q_sPar3, q_eCallL, q_eLC2, q_eNewC, q_iZip, q_sRaise, q_sTry, Rs.bind, op1, op2, opL, gAdd, gSub, gI2, gLt, gLe, gGt, gGe, gCmp, gIx, gLen, gInt, seqOf, gNeg, q_max2, q_min2, gTuple, gVar, gTupM, gsCons, gsNil, frz1, ownOf, noX, wipeE, e2, em]) (by omega)) hs2 ?_ ?_
      · intro j x S hx hS
        obtain ⟨k3, S3, e3, hk3, hs3⟩ := take_ok hr (lim := 2) (by decide) hS
        obtain ⟨d, ed, hd⟩ := atI_mem (xs := [D.str "left", .str "any"]) hk3.1 hk3.2
        simp only [List.mem_cons, List.not_mem_nil, or_false] at hd
        rcases hd with rfl | rfl
        · exact ⟨_, .str "left", S3, rfl, by simp [bodyM, startE, q_eVar, q_eC, q_eBin, q_eChain, q_eUn, q_eNot, q_eAnd, q_eOr, q_eIf, q_aNil, q_aCons, q_eTup, q_eLst, q_aSmall, q_eCB, q_eIxOwn, q_eLenOwn, q_oNo, q_oOf, q_eSl, q_eCall, q_eCallK, q_iSeq, q_cYes, q_eLC, q_sExp, q_sNil, q_sSeq, q_sBad, q_sBrk, q_sCont, q_sRet, q_sRetN, q_sDrop, q_sIf, q_sSet, q_sSetOwn, q_sFz, q_sApp, q_sPut, q_sPutC, q_sSetCell, q_sAsg, q_sPar, q_sPar3, q_eCallL, q_eLC2, q_eNewC, q_iZip, q_sRaise, q_sTry, Rs.bind, op1, op2, opL, gAdd, gSub, gI2, gLt, gLe, gGt, gGe, gCmp, gIx, gLen, gInt, seqOf, gNeg, q_max2, q_min2, gTuple, gVar, gTupM, gsCons, gsNil, frz1, ownOf, noX, wipeE, e3, ed], ⟨_, rfl, by decide⟩, hs3⟩
        · exact ⟨_, .str "any", S3, rfl, by simp [bodyM, startE, q_eVar, q_eC, q_eBin, q_eChain, q_eUn, q_eNot, q_eAnd, q_eOr, q_eIf, q_aNil, q_aCons, q_eTup, q_eLst, q_aSmall, q_eCB, q_eIxOwn, q_eLenOwn, q_oNo, q_oOf, q_eSl, q_eCall, q_eCallK, q_iSeq, q_cYes, q_eLC, q_sExp, q_sNil, q_sSeq, q_sBad, q_sBrk, q_sCont, q_sRet, q_sRetN, q_sDrop, q_sIf, q_sSet, q_sSetOwn, q_sFz, q_sApp, q_sPut, q_sPutC, q_sSetCell, q_sAsg, q_sPar, q_sPar3, q_eCallL, q_eLC2, q_eNewC, q_iZip, q_sRaise, q_sTry, Rs.bind, op1, op2, opL, gAdd, gSub, gI2, gLt, gLe, gGt, gGe, gCmp, gIx, gLen, gInt, seqOf, gNeg, q_max2, q_min2, gTuple, gVar, gTupM, gsCons, gsNil, frz1, ownOf, noX, wipeE, e3, ed], ⟨_, rfl, by decide⟩, hs3⟩
      · intro ys S' hl hq hs'
        rw [rangeD_len] at hl
        obtain ⟨r, rfl, hl2, hr'⟩ := kinds (f := D.str) (p := fun m => m ∈ manners) (ys := ys) (fun y hy => by
          obtain ⟨j, e⟩ := mem_at hy
          have hj := (List.getElem?_eq_some_iff.mp e).1
          exact hq j _ y (at_some (by rw [rangeD_len]; omega)) e)
        exact ⟨hs', r, rfl, by simpa using hl, hr'⟩
    obtain ⟨d, S3, e3, hs3, r, rfl, hrl, hrm⟩ := hw
    exact ws_app (xs := L.map rgD) (own_i rfl) (d := rgD r) (S1 := S3) (cb1_ok e3 (by simp [bodyM, startE, q_eVar, q_eC, q_eBin, q_eChain, q_eUn, q_eNot, q_eAnd, q_eOr, q_eIf, q_aNil, q_aCons, q_eTup, q_eLst, q_aSmall, q_eCB, q_eIxOwn, q_eLenOwn, q_oNo, q_oOf, q_eSl, q_eCall, q_eCallK, q_iSeq, q_cYes, q_eLC, q_sExp, q_sNil, q_sSeq, q_sBad, q_sBrk, q_sCont, q_sRet, q_sRetN, q_sDrop, q_sIf, q_sSet, q_sSetOwn, q_sFz, q_sApp, q_sPut, q_sPutC, q_sSetCell, q_sAsg, q_sPar, q_sPar3, q_eCallL, q_eLC2, q_eNewC, q_iZip, q_sRaise, q_sTry, Rs.bind, op1, op2, opL, gAdd, gSub, gI2, gLt, gLe, gGt, gGe, gCmp, gIx, gLen, gInt, seqOf, gNeg, q_max2, q_min2, gTuple, gVar, gTupM, gsCons, gsNil, frz1, ownOf, noX, wipeE, rgD, ten_size (show r.length ≤ 10000 by omega)])) (by rw [List.length_map]; omega) ⟨_, _, rfl, L ++ [r], _, _, by rw [List.map_append]; rfl, hs3, by simp [hi], by unfold total at ht ⊢; simp; omega, fun r' h => by
      rcases List.mem_append.mp h with h | h
      · exact hL r' h
      · rw [List.mem_singleton.mp h]; exact ⟨by omega, by omega, hrm⟩⟩
  · rintro ρ S ⟨L, a3, a4, rfl, hs, hi, ht, hL⟩
    rw [rangeD_len] at hi ht
    exact ws_fz (ws_ret (d := ltD L) (S1 := S) (by simp [bodyM, startE, q_eVar, q_eC, q_eBin, q_eChain, q_eUn, q_eNot, q_eAnd, q_eOr, q_eIf, q_aNil, q_aCons, q_eTup, q_eLst, q_aSmall, q_eCB, q_eIxOwn, q_eLenOwn, q_oNo, q_oOf, q_eSl, q_eCall, q_eCallK, q_iSeq, q_cYes, q_eLC, q_sExp, q_sNil, q_sSeq, q_sBad, q_sBrk, q_sCont, q_sRet, q_sRetN, q_sDrop, q_sIf, q_sSet, q_sSetOwn, q_sFz, q_sApp, q_sPut, q_sPutC, q_sSetCell, q_sAsg, q_sPar, q_sPar3, q_eCallL, q_eLC2, q_eNewC, q_iZip, q_sRaise, q_sTry, Rs.bind, op1, op2, opL, gAdd, gSub, gI2, gLt, gLe, gGt, gGe, gCmp, gIx, gLen, gInt, seqOf, gNeg, q_max2, q_min2, gTuple, gVar, gTupM, gsCons, gsNil, frz1, ownOf, noX, wipeE, ltD, ten_size (show L.length ≤ 10000 by omega)]) ⟨_, _, rfl, L, rfl, ⟨by omega, hL, by omega⟩, by omega, hs⟩)
end KF
end

section
namespace KF
open PySem
theorem co_mem {cs : List (Nat × Nat)} {k : Int} (h0 : 0 ≤ k) (h : k < cs.length) {P : Nat × Nat → Prop} (hp : ∀ c ∈ cs, P c) : ∃ c, L2.atI (cs.map coD) k = some (coD c) ∧ P c := by
  obtain ⟨d, e, hm⟩ := atI_mem (xs := cs.map coD) h0 (by rw [List.length_map]; exact h)
  obtain ⟨c, hc, rfl⟩ := List.mem_map.mp hm
  exact ⟨c, e, hp c hc⟩
theorem pick_ok {row : D} (hr : RowOk row) {cs : List (Nat × Nat)} (h0 : 0 < cs.length) {P : Nat × Nat → Prop} (hp : ∀ c ∈ cs, P c) {S : Sto} (hs : Sp S) : ∃ c S', m_f_law_pick [row, .cell 0, .lst (cs.map coD)] S = .ok (coD c) S' ∧ P c ∧ Sp S' := by
  obtain ⟨k, S1, e1, hk, hs1⟩ := take_ok hr (lim := cs.length) (by omega) hs
  obtain ⟨c, ec, hc⟩ := co_mem hk.1 hk.2 hp
  refine ⟨c, S1, ?_, hc, hs1⟩
  unfold m_f_law_pick b_f_law_pick
  simp [bodyM, startE, q_eVar, q_eC, q_eBin, q_eChain, q_eUn, q_eNot, q_eAnd, q_eOr, q_eIf, q_aNil, q_aCons, q_eTup, q_eLst, q_aSmall, q_eCB, q_eIxOwn, q_eLenOwn, q_oNo, q_oOf, q_eSl, q_eCall, q_eCallK, q_iSeq, q_cYes, q_eLC, q_sExp, q_sNil, q_sSeq, q_sBad, q_sBrk, q_sCont, q_sRet, q_sRetN, q_sDrop, q_sIf, q_sSet, q_sSetOwn, q_sFz, q_sApp, q_sPut, q_sPutC, q_sSetCell, q_sAsg, q_sPar, q_sPar3, q_eCallL, q_eLC2, q_eNewC, q_iZip, q_sRaise, q_sTry, Rs.bind, op1, op2, opL, gAdd, gSub, gI2, gLt, gLe, gGt, gGe, gCmp, gIx, gLen, gInt, seqOf, gNeg, q_max2, q_min2, gTuple, gVar, gTupM, gsCons, gsNil, frz1, ownOf, noX, wipeE, e1, ec]
theorem sq_retT {s1 s2 e2 : MS} {m : ME} {ρ : Env} {S S1 : Sto} {G : RS → Prop} (h : m ρ S = .ok (.bl true) S1) (g : WS s1 ρ S1 fun r => ∃ d S', r = .ret d S' ∧ G (.ret d S')) : WS (sSeq (sIf m s1 e2) s2) ρ S G := by
  obtain ⟨d, S', e, g⟩ := g
  unfold WS sSeq sIf sExp
  rw [h]
  simp only [e]
  exact g
/-- what the scene gives -/
structure ScOk (most : Int) (L : List (List Str)) (Ms : List (List (List Pt))) : Prop where
  lt : LtOk L
  len : 1 ≤ Ms.length ∧ (Ms.length : Int) ≤ most
  dr : ∀ R ∈ Ms, DrOk L R
theorem DrOk.relen {L L' : List (List Str)} {R : List (List Pt)} (h : DrOk L R) (e : L'.map List.length = L.map List.length) : DrOk L' R := by
  have hl : L'.length = L.length := by
    have := congrArg List.length e
    rwa [List.length_map, List.length_map] at this
  refine ⟨by rw [h.len, hl], fun k r l h1 h2 => ?_, h.inb⟩
  have hk := (List.getElem?_eq_some_iff.mp h2).1
  have h3 := at_some (xs := L) (j := k) (by omega)
  have : (L'.map List.length)[k]? = (L.map List.length)[k]? := by rw [e]
  rw [List.getElem?_map, List.getElem?_map, h2, h3] at this
  rw [h.ring k r _ h1 h3]
  exact (Option.some.inj this).symm
theorem ms_at {Ms : List (List (List Pt))} (h : 1 ≤ Ms.length) : ∃ R, L2.atI (Ms.map drD) 0 = some (drD R) ∧ R ∈ Ms := by
  obtain ⟨d, e, hm⟩ := atI_mem (xs := Ms.map drD) (k := 0) (by decide) (by rw [List.length_map]; omega)
  obtain ⟨R, hR, rfl⟩ := List.mem_map.mp hm
  exact ⟨R, e, hR⟩
theorem tup2_ok {m1 m2 : ME} {ρ : Env} {S S1 S2 : Sto} {d1 d2 : D} (h1 : m1 ρ S = .ok d1 S1) (h2 : m2 ρ S1 = .ok d2 S2) : (eTup (aCons m1 (aCons m2 aNil))) ρ S = .ok (.tup [d1, d2]) S2 := by
  unfold eTup aCons aNil
  simp [h1, Rs.bind, h2]
theorem scene_ok {row : D} (hr : RowOk row) {most : Int} (hm : 1 ≤ most ∧ most ≤ 10) {S : Sto} (hs : Sp S) : ∃ d S', m_f_law_scene [row, .cell 0, .int most] S = .ok d S' ∧ ∃ L Ms, d = .tup [ltD L, msD Ms] ∧ ScOk most L Ms ∧ Sp S' := by
  unfold m_f_law_scene
  apply body_ret
  unfold b_f_law_scene
  obtain ⟨k1, S1, e1, hk1, hs1⟩ := take_ok hr (lim := 3) (by decide) hs
  by_cases h1 : k1 = 0
  · refine sq_retT (S1 := S1) (by simp [bodyM, startE, q_eVar, q_eC, q_eBin, q_eChain, q_eUn, q_eNot, q_eAnd, q_eOr, q_eIf, q_aNil, q_aCons, q_eTup, q_eLst, q_aSmall, q_eCB, q_eIxOwn, q_eLenOwn, q_oNo, q_oOf, q_eSl, q_eCall, q_eCallK, q_iSeq, q_cYes, q_eLC, q_sExp, q_sNil, q_sSeq, q_sBad, q_sBrk, q_sCont, q_sRet, q_sRetN, q_sDrop, q_sIf, q_sSet, q_sSetOwn, q_sFz, q_sApp, q_sPut, q_sPutC, q_sSetCell, q_sAsg, q_sPar, q_sPar3, q_eCallL, q_eLC2, q_eNewC, q_iZip, q_sRaise, q_sTry, Rs.bind, op1, op2, opL, gAdd, gSub, gI2, gLt, gLe, gGt, gGe, gCmp, gIx, gLen, gInt, seqOf, gNeg, q_max2, q_min2, gTuple, gVar, gTupM, gsCons, gsNil, frz1, ownOf, noX, wipeE, e1, q_eq_int, h1]) ?_
    obtain ⟨d, S2, e2, L, rfl, hL, hL2, hs2⟩ := turned_letter_ok hr hs1
    obtain ⟨k3, S3, e3, hk3, hs3⟩ := take_ok hr (lim := most) (by omega) hs2
    obtain ⟨n, en, hn⟩ : ∃ n : Nat, 1 + k3 = (n : Int) ∧ 1 ≤ n ∧ (n : Int) ≤ most := ⟨(1 + k3).toNat, by omega, by omega, by omega⟩
    have hw : WE (eLst (eLC [9] (iRange1 (aCons (eBin gAdd (eC (.int 1)) (eCall 3 m_f_law_take (aCons (eVar 0) (aCons (eVar 1) (aCons (eVar 2) aNil))))) aNil)) (gVar 9) cYes (eCall 3 m_f_law_turned_drawing (aCons (eVar 0) (aCons (eVar 1) (aCons (eVar 3) aNil)))))) [.val row, .val (.cell 0), .val (.int most), .val (ltD L), .un, .un, .un, .un, .un, .un] S2
        fun d S' => Sp S' ∧ ∃ Ms : List (List (List Pt)), d = .lst (Ms.map drD) ∧ Ms.length = n ∧ ∀ R ∈ Ms, DrOk L R := by
      refine we_lc (xs := rangeD 0 n) (S1 := S3) Sp (fun _ _ y => ∃ R, y = drD R ∧ DrOk L R) (rng1 (by simp [bodyM, startE, q_eVar, q_eC, q_eBin, q_eChain, q_eUn, q_eNot, q_eAnd, q_eOr, q_eIf, q_aNil, q_aCons, q_eTup, q_eLst, q_aSmall, q_eCB, q_eIxOwn, q_eLenOwn, q_oNo, q_oOf, q_eSl, q_eCall, q_eCallK, q_iSeq, q_cYes, q_eLC, q_sExp, q_sNil, q_sSeq, q_sBad, q_sBrk, q_sCont, q_sRet, q_sRetN, q_sDrop, q_sIf, q_sSet, q_sSetOwn, q_sFz, q_sApp, q_sPut, q_sPutC, q_sSetCell, q_sAsg, q_sPar, q_sPar3, q_eCallL, q_eLC2, q_eNewC, q_iZip, q_sRaise, q_sTry, Rs.bind, op1, op2, opL, gAdd, gSub, gI2, gLt, gLe, gGt, gGe, gCmp, gIx, gLen, gInt, seqOf, gNeg, q_max2, q_min2, gTuple, gVar, gTupM, gsCons, gsNil, frz1, ownOf, noX, wipeE, e3, en]) (by omega)) hs3 ?_ ?_
      · intro j x S hx hS
        obtain ⟨d, S4, e4, R, rfl, hR, hs4⟩ := turned_drawing_ok hr hL hL2 hS
        exact ⟨_, drD R, S4, rfl, by simp [bodyM, startE, q_eVar, q_eC, q_eBin, q_eChain, q_eUn, q_eNot, q_eAnd, q_eOr, q_eIf, q_aNil, q_aCons, q_eTup, q_eLst, q_aSmall, q_eCB, q_eIxOwn, q_eLenOwn, q_oNo, q_oOf, q_eSl, q_eCall, q_eCallK, q_iSeq, q_cYes, q_eLC, q_sExp, q_sNil, q_sSeq, q_sBad, q_sBrk, q_sCont, q_sRet, q_sRetN, q_sDrop, q_sIf, q_sSet, q_sSetOwn, q_sFz, q_sApp, q_sPut, q_sPutC, q_sSetCell, q_sAsg, q_sPar, q_sPar3, q_eCallL, q_eLC2, q_eNewC, q_iZip, q_sRaise, q_sTry, Rs.bind, op1, op2, opL, gAdd, gSub, gI2, gLt, gLe, gGt, gGe, gCmp, gIx, gLen, gInt, seqOf, gNeg, q_max2, q_min2, gTuple, gVar, gTupM, gsCons, gsNil, frz1, ownOf, noX, wipeE, e4], ⟨R, rfl, hR⟩, hs4⟩
      · intro ys S' hl hq hs'
        rw [rangeD_len] at hl
        obtain ⟨Ms, rfl, hl2, hr'⟩ := kinds (f := drD) (p := fun R => DrOk L R) (ys := ys) (fun y hy => by
          obtain ⟨j, e⟩ := mem_at hy
          have hj := (List.getElem?_eq_some_iff.mp e).1
          exact hq j _ y (at_some (by rw [rangeD_len]; omega)) e)
        exact ⟨hs', Ms, rfl, by simpa using hl, hr'⟩
    obtain ⟨d, S4, e4, hs4, Ms, rfl, hMl, hMs⟩ := hw
    have e5 := cb1_ok (g := gTuple) (r := msD Ms) e4 (by simp [bodyM, startE, q_eVar, q_eC, q_eBin, q_eChain, q_eUn, q_eNot, q_eAnd, q_eOr, q_eIf, q_aNil, q_aCons, q_eTup, q_eLst, q_aSmall, q_eCB, q_eIxOwn, q_eLenOwn, q_oNo, q_oOf, q_eSl, q_eCall, q_eCallK, q_iSeq, q_cYes, q_eLC, q_sExp, q_sNil, q_sSeq, q_sBad, q_sBrk, q_sCont, q_sRet, q_sRetN, q_sDrop, q_sIf, q_sSet, q_sSetOwn, q_sFz, q_sApp, q_sPut, q_sPutC, q_sSetCell, q_sAsg, q_sPar, q_sPar3, q_eCallL, q_eLC2, q_eNewC, q_iZip, q_sRaise, q_sTry, Rs.bind, op1, op2, opL, gAdd, gSub, gI2, gLt, gLe, gGt, gGe, gCmp, gIx, gLen, gInt, seqOf, gNeg, q_max2, q_min2, gTuple, gVar, gTupM, gsCons, gsNil, frz1, ownOf, noX, wipeE, msD, ten_size (show Ms.length ≤ 10000 by omega)])
    refine sq_set (d := ltD L) (S1 := S2) (by simp [bodyM, startE, q_eVar, q_eC, q_eBin, q_eChain, q_eUn, q_eNot, q_eAnd, q_eOr, q_eIf, q_aNil, q_aCons, q_eTup, q_eLst, q_aSmall, q_eCB, q_eIxOwn, q_eLenOwn, q_oNo, q_oOf, q_eSl, q_eCall, q_eCallK, q_iSeq, q_cYes, q_eLC, q_sExp, q_sNil, q_sSeq, q_sBad, q_sBrk, q_sCont, q_sRet, q_sRetN, q_sDrop, q_sIf, q_sSet, q_sSetOwn, q_sFz, q_sApp, q_sPut, q_sPutC, q_sSetCell, q_sAsg, q_sPar, q_sPar3, q_eCallL, q_eLC2, q_eNewC, q_iZip, q_sRaise, q_sTry, Rs.bind, op1, op2, opL, gAdd, gSub, gI2, gLt, gLe, gGt, gGe, gCmp, gIx, gLen, gInt, seqOf, gNeg, q_max2, q_min2, gTuple, gVar, gTupM, gsCons, gsNil, frz1, ownOf, noX, wipeE, e2]) ?_
    refine ws_ret (d := .tup [ltD L, msD Ms]) (S1 := S4) ?_ ⟨_, _, rfl, _, _, rfl, L, Ms, rfl, ⟨hL, by omega, hMs⟩, hs4⟩
    exact tup2_ok (S1 := S2) (by simp [bodyM, startE, q_eVar, q_eC, q_eBin, q_eChain, q_eUn, q_eNot, q_eAnd, q_eOr, q_eIf, q_aNil, q_aCons, q_eTup, q_eLst, q_aSmall, q_eCB, q_eIxOwn, q_eLenOwn, q_oNo, q_oOf, q_eSl, q_eCall, q_eCallK, q_iSeq, q_cYes, q_eLC, q_sExp, q_sNil, q_sSeq, q_sBad, q_sBrk, q_sCont, q_sRet, q_sRetN, q_sDrop, q_sIf, q_sSet, q_sSetOwn, q_sFz, q_sApp, q_sPut, q_sPutC, q_sSetCell, q_sAsg, q_sPar, q_sPar3, q_eCallL, q_eLC2, q_eNewC, q_iZip, q_sRaise, q_sTry, Rs.bind, op1, op2, opL, gAdd, gSub, gI2, gLt, gLe, gGt, gGe, gCmp, gIx, gLen, gInt, seqOf, gNeg, q_max2, q_min2, gTuple, gVar, gTupM, gsCons, gsNil, frz1, ownOf, noX, wipeE]) e5
  · refine sq_ifF (S1 := S1) (by simp [bodyM, startE, q_eVar, q_eC, q_eBin, q_eChain, q_eUn, q_eNot, q_eAnd, q_eOr, q_eIf, q_aNil, q_aCons, q_eTup, q_eLst, q_aSmall, q_eCB, q_eIxOwn, q_eLenOwn, q_oNo, q_oOf, q_eSl, q_eCall, q_eCallK, q_iSeq, q_cYes, q_eLC, q_sExp, q_sNil, q_sSeq, q_sBad, q_sBrk, q_sCont, q_sRet, q_sRetN, q_sDrop, q_sIf, q_sSet, q_sSetOwn, q_sFz, q_sApp, q_sPut, q_sPutC, q_sSetCell, q_sAsg, q_sPar, q_sPar3, q_eCallL, q_eLC2, q_eNewC, q_iZip, q_sRaise, q_sTry, Rs.bind, op1, op2, opL, gAdd, gSub, gI2, gLt, gLe, gGt, gGe, gCmp, gIx, gLen, gInt, seqOf, gNeg, q_max2, q_min2, gTuple, gVar, gTupM, gsCons, gsNil, frz1, ownOf, noX, wipeE, e1, q_eq_int, h1]) ?_
    obtain ⟨d, S2, e2, L, rfl, hL, hs2⟩ := letter_ok hr hs1
    refine sq_set (d := ltD L) (S1 := S2) (by simp [bodyM, startE, q_eVar, q_eC, q_eBin, q_eChain, q_eUn, q_eNot, q_eAnd, q_eOr, q_eIf, q_aNil, q_aCons, q_eTup, q_eLst, q_aSmall, q_eCB, q_eIxOwn, q_eLenOwn, q_oNo, q_oOf, q_eSl, q_eCall, q_eCallK, q_iSeq, q_cYes, q_eLC, q_sExp, q_sNil, q_sSeq, q_sBad, q_sBrk, q_sCont, q_sRet, q_sRetN, q_sDrop, q_sIf, q_sSet, q_sSetOwn, q_sFz, q_sApp, q_sPut, q_sPutC, q_sSetCell, q_sAsg, q_sPar, q_sPar3, q_eCallL, q_eLC2, q_eNewC, q_iZip, q_sRaise, q_sTry, Rs.bind, op1, op2, opL, gAdd, gSub, gI2, gLt, gLe, gGt, gGe, gCmp, gIx, gLen, gInt, seqOf, gNeg, q_max2, q_min2, gTuple, gVar, gTupM, gsCons, gsNil, frz1, ownOf, noX, wipeE, e2]) ?_
    obtain ⟨d, S3, e3, Ms, rfl, hMl, hMs, hs3⟩ := masters_ok hr hL hm hs2
    refine sq_set (d := msD Ms) (S1 := S3) (by simp [bodyM, startE, q_eVar, q_eC, q_eBin, q_eChain, q_eUn, q_eNot, q_eAnd, q_eOr, q_eIf, q_aNil, q_aCons, q_eTup, q_eLst, q_aSmall, q_eCB, q_eIxOwn, q_eLenOwn, q_oNo, q_oOf, q_eSl, q_eCall, q_eCallK, q_iSeq, q_cYes, q_eLC, q_sExp, q_sNil, q_sSeq, q_sBad, q_sBrk, q_sCont, q_sRet, q_sRetN, q_sDrop, q_sIf, q_sSet, q_sSetOwn, q_sFz, q_sApp, q_sPut, q_sPutC, q_sSetCell, q_sAsg, q_sPar, q_sPar3, q_eCallL, q_eLC2, q_eNewC, q_iZip, q_sRaise, q_sTry, Rs.bind, op1, op2, opL, gAdd, gSub, gI2, gLt, gLe, gGt, gGe, gCmp, gIx, gLen, gInt, seqOf, gNeg, q_max2, q_min2, gTuple, gVar, gTupM, gsCons, gsNil, frz1, ownOf, noX, wipeE, e3]) ?_
    have hlen := hL.len
    refine sq_join (fun ρ S => ∃ (Ms : List (List (List Pt))) (a5 a6 a7 a8 : Sl), ρ = [.val row, .val (.cell 0), .val (.int most), .val (ltD L), .val (msD Ms), a5, a6, a7, a8, .un] ∧ ScOk most L Ms ∧ Sp S) ?_ ?_
    · obtain ⟨k4, S4, e4, hk4, hs4⟩ := take_ok hr (lim := 3) (by decide) hs3
      by_cases h4 : k4 = 0
      · refine ws_ifT (S1 := S4) (by simp [bodyM, startE, q_eVar, q_eC, q_eBin, q_eChain, q_eUn, q_eNot, q_eAnd, q_eOr, q_eIf, q_aNil, q_aCons, q_eTup, q_eLst, q_aSmall, q_eCB, q_eIxOwn, q_eLenOwn, q_oNo, q_oOf, q_eSl, q_eCall, q_eCallK, q_iSeq, q_cYes, q_eLC, q_sExp, q_sNil, q_sSeq, q_sBad, q_sBrk, q_sCont, q_sRet, q_sRetN, q_sDrop, q_sIf, q_sSet, q_sSetOwn, q_sFz, q_sApp, q_sPut, q_sPutC, q_sSetCell, q_sAsg, q_sPar, q_sPar3, q_eCallL, q_eLC2, q_eNewC, q_iZip, q_sRaise, q_sTry, Rs.bind, op1, op2, opL, gAdd, gSub, gI2, gLt, gLe, gGt, gGe, gCmp, gIx, gLen, gInt, seqOf, gNeg, q_max2, q_min2, gTuple, gVar, gTupM, gsCons, gsNil, frz1, ownOf, noX, wipeE, e4, q_eq_int, h4]) ?_
        obtain ⟨cs, ec, hc1, hc2, hc3⟩ := corners_ok hL S4
        obtain ⟨c, S5, e5, hc, hs5⟩ := pick_ok hr hc1 hc3 hs4
        refine sq_set (d := coD c) (S1 := S5) (by simp [bodyM, startE, q_eVar, q_eC, q_eBin, q_eChain, q_eUn, q_eNot, q_eAnd, q_eOr, q_eIf, q_aNil, q_aCons, q_eTup, q_eLst, q_aSmall, q_eCB, q_eIxOwn, q_eLenOwn, q_oNo, q_oOf, q_eSl, q_eCall, q_eCallK, q_iSeq, q_cYes, q_eLC, q_sExp, q_sNil, q_sSeq, q_sBad, q_sBrk, q_sCont, q_sRet, q_sRetN, q_sDrop, q_sIf, q_sSet, q_sSetOwn, q_sFz, q_sApp, q_sPut, q_sPutC, q_sSetCell, q_sAsg, q_sPar, q_sPar3, q_eCallL, q_eLC2, q_eNewC, q_iZip, q_sRaise, q_sTry, Rs.bind, op1, op2, opL, gAdd, gSub, gI2, gLt, gLe, gGt, gGe, gCmp, gIx, gLen, gInt, seqOf, gNeg, q_max2, q_min2, gTuple, gVar, gTupM, gsCons, gsNil, frz1, ownOf, noX, wipeE, ec, e5]) ?_
        obtain ⟨l, el, hl⟩ := id hc
        have eq := lt_q el
        by_cases h5 : (3 : Int) < l.length
        · refine ws_ifT (S1 := S5) (by simp [bodyM, startE, q_eVar, q_eC, q_eBin, q_eChain, q_eUn, q_eNot, q_eAnd, q_eOr, q_eIf, q_aNil, q_aCons, q_eTup, q_eLst, q_aSmall, q_eCB, q_eIxOwn, q_eLenOwn, q_oNo, q_oOf, q_eSl, q_eCall, q_eCallK, q_iSeq, q_cYes, q_eLC, q_sExp, q_sNil, q_sSeq, q_sBad, q_sBrk, q_sCont, q_sRet, q_sRetN, q_sDrop, q_sIf, q_sSet, q_sSetOwn, q_sFz, q_sApp, q_sPut, q_sPutC, q_sSetCell, q_sAsg, q_sPar, q_sPar3, q_eCallL, q_eLC2, q_eNewC, q_iZip, q_sRaise, q_sTry, Rs.bind, op1, op2, opL, gAdd, gSub, gI2, gLt, gLe, gGt, gGe, gCmp, gIx, gLen, gInt, seqOf, gNeg, q_max2, q_min2, gTuple, gVar, gTupM, gsCons, gsNil, frz1, ownOf, noX, wipeE, ltD, coD, at0, eq, rgD]; omega) ?_
          obtain ⟨k6, S6, e6, hk6, hs6⟩ := take_ok hr (lim := 3) (by decide) hs5
          refine sq_set (d := .int (1 + k6)) (S1 := S6) (by simp [bodyM, startE, q_eVar, q_eC, q_eBin, q_eChain, q_eUn, q_eNot, q_eAnd, q_eOr, q_eIf, q_aNil, q_aCons, q_eTup, q_eLst, q_aSmall, q_eCB, q_eIxOwn, q_eLenOwn, q_oNo, q_oOf, q_eSl, q_eCall, q_eCallK, q_iSeq, q_cYes, q_eLC, q_sExp, q_sNil, q_sSeq, q_sBad, q_sBrk, q_sCont, q_sRet, q_sRetN, q_sDrop, q_sIf, q_sSet, q_sSetOwn, q_sFz, q_sApp, q_sPut, q_sPutC, q_sSetCell, q_sAsg, q_sPar, q_sPar3, q_eCallL, q_eLC2, q_eNewC, q_iZip, q_sRaise, q_sTry, Rs.bind, op1, op2, opL, gAdd, gSub, gI2, gLt, gLe, gGt, gGe, gCmp, gIx, gLen, gInt, seqOf, gNeg, q_max2, q_min2, gTuple, gVar, gTupM, gsCons, gsNil, frz1, ownOf, noX, wipeE, e6]) ?_
          refine sq_setOwn (xs := []) (S1 := S6) (by simp [bodyM, startE, q_eVar, q_eC, q_eBin, q_eChain, q_eUn, q_eNot, q_eAnd, q_eOr, q_eIf, q_aNil, q_aCons, q_eTup, q_eLst, q_aSmall, q_eCB, q_eIxOwn, q_eLenOwn, q_oNo, q_oOf, q_eSl, q_eCall, q_eCallK, q_iSeq, q_cYes, q_eLC, q_sExp, q_sNil, q_sSeq, q_sBad, q_sBrk, q_sCont, q_sRet, q_sRetN, q_sDrop, q_sIf, q_sSet, q_sSetOwn, q_sFz, q_sApp, q_sPut, q_sPutC, q_sSetCell, q_sAsg, q_sPar, q_sPar3, q_eCallL, q_eLC2, q_eNewC, q_iZip, q_sRaise, q_sTry, Rs.bind, op1, op2, opL, gAdd, gSub, gI2, gLt, gLe, gGt, gGe, gCmp, gIx, gLen, gInt, seqOf, gNeg, q_max2, q_min2, gTuple, gVar, gTupM, gsCons, gsNil, frz1, ownOf, noX, wipeE]) ?_
          refine sq_for (items := Ms.map drD) (S1 := S6) (fun i ρ S => ∃ (Ns : List (List (List Pt))) (qr : Int) (a8 : Sl), ρ = [.val row, .val (.cell 0), .val (.int most), .val (ltD L), .val (msD Ms), .val (coD c), .val (.int qr), .own (Ns.map drD), a8, .un] ∧ (-10 ≤ qr ∧ qr ≤ 10) ∧ Sp S ∧ Ns.length = i ∧ ∀ R ∈ Ns, DrOk L R) ?_ ?_ ?_ ?_
          · simp [bodyM, startE, q_eVar, q_eC, q_eBin, q_eChain, q_eUn, q_eNot, q_eAnd, q_eOr, q_eIf, q_aNil, q_aCons, q_eTup, q_eLst, q_aSmall, q_eCB, q_eIxOwn, q_eLenOwn, q_oNo, q_oOf, q_eSl, q_eCall, q_eCallK, q_iSeq, q_cYes, q_eLC, q_sExp, q_sNil, q_sSeq, q_sBad, q_sBrk, q_sCont, q_sRet, q_sRetN, q_sDrop, q_sIf, q_sSet, q_sSetOwn, q_sFz, q_sApp, q_sPut, q_sPutC, q_sSetCell, q_sAsg, q_sPar, q_sPar3, q_eCallL, q_eLC2, q_eNewC, q_iZip, q_sRaise, q_sTry, Rs.bind, op1, op2, opL, gAdd, gSub, gI2, gLt, gLe, gGt, gGe, gCmp, gIx, gLen, gInt, seqOf, gNeg, q_max2, q_min2, gTuple, gVar, gTupM, gsCons, gsNil, frz1, ownOf, noX, wipeE, msD]
          · exact ⟨[], _, _, rfl, by omega, hs6, rfl, by simp⟩
          · rintro i x ρ S hx ⟨Ns, qr, a8, rfl, hq, hs, hi, hNs⟩
            rw [List.getElem?_map] at hx
            cases qx : Ms[i]? with
            | none => rw [qx] at hx; cases hx
            | some R =>
              rw [qx] at hx
              cases hx
              have hiM := (List.getElem?_eq_some_iff.mp qx).1
              refine ⟨_, rfl, ?_⟩
              obtain ⟨d, S7, e7, R', rfl, hR', hs7⟩ := straightened_ok hL (hMs R (List.mem_of_getElem? qx)) hc hq hs
              refine sq_app (xs := Ns.map drD) (own_i rfl) (d := drD R') (S1 := S7) (by simp [bodyM, startE, q_eVar, q_eC, q_eBin, q_eChain, q_eUn, q_eNot, q_eAnd, q_eOr, q_eIf, q_aNil, q_aCons, q_eTup, q_eLst, q_aSmall, q_eCB, q_eIxOwn, q_eLenOwn, q_oNo, q_oOf, q_eSl, q_eCall, q_eCallK, q_iSeq, q_cYes, q_eLC, q_sExp, q_sNil, q_sSeq, q_sBad, q_sBrk, q_sCont, q_sRet, q_sRetN, q_sDrop, q_sIf, q_sSet, q_sSetOwn, q_sFz, q_sApp, q_sPut, q_sPutC, q_sSetCell, q_sAsg, q_sPar, q_sPar3, q_eCallL, q_eLC2, q_eNewC, q_iZip, q_sRaise, q_sTry, Rs.bind, op1, op2, opL, gAdd, gSub, gI2, gLt, gLe, gGt, gGe, gCmp, gIx, gLen, gInt, seqOf, gNeg, q_max2, q_min2, gTuple, gVar, gTupM, gsCons, gsNil, frz1, ownOf, noX, wipeE, e7]) (by rw [List.length_map]; omega) ?_
              obtain ⟨k8, S8, e8, hk8, hs8⟩ := take_ok hr (lim := 7) (by decide) hs7
              obtain ⟨q2, eq2, hq2⟩ : ∃ q2 : Int, L2.atI [D.int qr, .int qr, .int 1, .int 2, .int 3, .int 5, .int 0] k8 = some (.int q2) ∧ -10 ≤ q2 ∧ q2 ≤ 10 := by
                obtain ⟨d, e, hm⟩ := atI_mem (xs := [D.int qr, .int qr, .int 1, .int 2, .int 3, .int 5, .int 0]) hk8.1 hk8.2
                simp only [List.mem_cons, List.not_mem_nil, or_false] at hm
                rcases hm with rfl | rfl | rfl | rfl | rfl | rfl | rfl <;> exact ⟨_, e, by omega, by omega⟩
              refine ws_set (d := .int q2) (S1 := S8) (by simp [bodyM, startE, q_eVar, q_eC, q_eBin, q_eChain, q_eUn, q_eNot, q_eAnd, q_eOr, q_eIf, q_aNil, q_aCons, q_eTup, q_eLst, q_aSmall, q_eCB, q_eIxOwn, q_eLenOwn, q_oNo, q_oOf, q_eSl, q_eCall, q_eCallK, q_iSeq, q_cYes, q_eLC, q_sExp, q_sNil, q_sSeq, q_sBad, q_sBrk, q_sCont, q_sRet, q_sRetN, q_sDrop, q_sIf, q_sSet, q_sSetOwn, q_sFz, q_sApp, q_sPut, q_sPutC, q_sSetCell, q_sAsg, q_sPar, q_sPar3, q_eCallL, q_eLC2, q_eNewC, q_iZip, q_sRaise, q_sTry, Rs.bind, op1, op2, opL, gAdd, gSub, gI2, gLt, gLe, gGt, gGe, gCmp, gIx, gLen, gInt, seqOf, gNeg, q_max2, q_min2, gTuple, gVar, gTupM, gsCons, gsNil, frz1, ownOf, noX, wipeE, e8, eq2]) ⟨_, _, rfl, Ns ++ [R'], q2, _, by rw [List.map_append]; rfl, hq2, hs8, by simp [hi], fun R2 h => ?_⟩
              rcases List.mem_append.mp h with h | h
              · exact hNs R2 h
              · rw [List.mem_singleton.mp h]; exact hR'
          · rintro ρ S ⟨Ns, qr, a8, rfl, hq, hs, hi, hNs⟩
            rw [List.length_map] at hi
            exact ws_fz (ws_set (d := msD Ns) (S1 := S) (by simp [bodyM, startE, q_eVar, q_eC, q_eBin, q_eChain, q_eUn, q_eNot, q_eAnd, q_eOr, q_eIf, q_aNil, q_aCons, q_eTup, q_eLst, q_aSmall, q_eCB, q_eIxOwn, q_eLenOwn, q_oNo, q_oOf, q_eSl, q_eCall, q_eCallK, q_iSeq, q_cYes, q_eLC, q_sExp, q_sNil, q_sSeq, q_sBad, q_sBrk, q_sCont, q_sRet, q_sRetN, q_sDrop, q_sIf, q_sSet, q_sSetOwn, q_sFz, q_sApp, q_sPut, q_sPutC, q_sSetCell, q_sAsg, q_sPar, q_sPar3, q_eCallL, q_eLC2, q_eNewC, q_iZip, q_sRaise, q_sTry, Rs.bind, op1, op2, opL, gAdd, gSub, gI2, gLt, gLe, gGt, gGe, gCmp, gIx, gLen, gInt, seqOf, gNeg, q_max2, q_min2, gTuple, gVar, gTupM, gsCons, gsNil, frz1, ownOf, noX, wipeE, msD, ten_size (show Ns.length ≤ 10000 by omega)]) ⟨_, _, rfl, Ns, _, _, _, _, rfl, ⟨hL, by omega, hNs⟩, hs⟩)
        · exact ws_ifF (S1 := S5) (by simp [bodyM, startE, q_eVar, q_eC, q_eBin, q_eChain, q_eUn, q_eNot, q_eAnd, q_eOr, q_eIf, q_aNil, q_aCons, q_eTup, q_eLst, q_aSmall, q_eCB, q_eIxOwn, q_eLenOwn, q_oNo, q_oOf, q_eSl, q_eCall, q_eCallK, q_iSeq, q_cYes, q_eLC, q_sExp, q_sNil, q_sSeq, q_sBad, q_sBrk, q_sCont, q_sRet, q_sRetN, q_sDrop, q_sIf, q_sSet, q_sSetOwn, q_sFz, q_sApp, q_sPut, q_sPutC, q_sSetCell, q_sAsg, q_sPar, q_sPar3, q_eCallL, q_eLC2, q_eNewC, q_iZip, q_sRaise, q_sTry, Rs.bind, op1, op2, opL, gAdd, gSub, gI2, gLt, gLe, gGt, gGe, gCmp, gIx, gLen, gInt, seqOf, gNeg, q_max2, q_min2, gTuple, gVar, gTupM, gsCons, gsNil, frz1, ownOf, noX, wipeE, ltD, coD, at0, eq, rgD]; omega) (ws_nil ⟨_, _, rfl, Ms, _, _, _, _, rfl, ⟨hL, hMl, hMs⟩, hs5⟩)
      · exact ws_ifF (S1 := S4) (by simp [bodyM, startE, q_eVar, q_eC, q_eBin, q_eChain, q_eUn, q_eNot, q_eAnd, q_eOr, q_eIf, q_aNil, q_aCons, q_eTup, q_eLst, q_aSmall, q_eCB, q_eIxOwn, q_eLenOwn, q_oNo, q_oOf, q_eSl, q_eCall, q_eCallK, q_iSeq, q_cYes, q_eLC, q_sExp, q_sNil, q_sSeq, q_sBad, q_sBrk, q_sCont, q_sRet, q_sRetN, q_sDrop, q_sIf, q_sSet, q_sSetOwn, q_sFz, q_sApp, q_sPut, q_sPutC, q_sSetCell, q_sAsg, q_sPar, q_sPar3, q_eCallL, q_eLC2, q_eNewC, q_iZip, q_sRaise, q_sTry, Rs.bind, op1, op2, opL, gAdd, gSub, gI2, gLt, gLe, gGt, gGe, gCmp, gIx, gLen, gInt, seqOf, gNeg, q_max2, q_min2, gTuple, gVar, gTupM, gsCons, gsNil, frz1, ownOf, noX, wipeE, e4, q_eq_int, h4]) (ws_nil ⟨_, _, rfl, Ms, _, _, _, _, rfl, ⟨hL, hMl, hMs⟩, hs4⟩)
    rintro ρ S4 ⟨Ms, a5, a6, a7, a8, rfl, ⟨_, hMl, hMs⟩, hs4⟩
    obtain ⟨k9, S5, e5, hk9, hs5⟩ := take_ok hr (lim := 5) (by decide) hs4
    refine sq_join (fun ρ S => ∃ (L : List (List Str)), ρ = [.val row, .val (.cell 0), .val (.int most), .val (ltD L), .val (msD Ms), a5, a6, a7, a8, .un] ∧ ScOk most L Ms ∧ Sp S) ?_ ?_
    · by_cases h9 : 0 < k9
      · refine ws_ifT (S1 := S5) (by simp [bodyM, startE, q_eVar, q_eC, q_eBin, q_eChain, q_eUn, q_eNot, q_eAnd, q_eOr, q_eIf, q_aNil, q_aCons, q_eTup, q_eLst, q_aSmall, q_eCB, q_eIxOwn, q_eLenOwn, q_oNo, q_oOf, q_eSl, q_eCall, q_eCallK, q_iSeq, q_cYes, q_eLC, q_sExp, q_sNil, q_sSeq, q_sBad, q_sBrk, q_sCont, q_sRet, q_sRetN, q_sDrop, q_sIf, q_sSet, q_sSetOwn, q_sFz, q_sApp, q_sPut, q_sPutC, q_sSetCell, q_sAsg, q_sPar, q_sPar3, q_eCallL, q_eLC2, q_eNewC, q_iZip, q_sRaise, q_sTry, Rs.bind, op1, op2, opL, gAdd, gSub, gI2, gLt, gLe, gGt, gGe, gCmp, gIx, gLen, gInt, seqOf, gNeg, q_max2, q_min2, gTuple, gVar, gTupM, gsCons, gsNil, frz1, ownOf, noX, wipeE, e5, h9]) ?_
        obtain ⟨R, eR, hR⟩ := ms_at hMl.1
        obtain ⟨d, S6, e6, L', rfl, hL', hLR, hee, hs6⟩ := fitted_ok hr hL (hMs R hR) hs5
        exact ws_set (d := ltD L') (S1 := S6) (by simp [bodyM, startE, q_eVar, q_eC, q_eBin, q_eChain, q_eUn, q_eNot, q_eAnd, q_eOr, q_eIf, q_aNil, q_aCons, q_eTup, q_eLst, q_aSmall, q_eCB, q_eIxOwn, q_eLenOwn, q_oNo, q_oOf, q_eSl, q_eCall, q_eCallK, q_iSeq, q_cYes, q_eLC, q_sExp, q_sNil, q_sSeq, q_sBad, q_sBrk, q_sCont, q_sRet, q_sRetN, q_sDrop, q_sIf, q_sSet, q_sSetOwn, q_sFz, q_sApp, q_sPut, q_sPutC, q_sSetCell, q_sAsg, q_sPar, q_sPar3, q_eCallL, q_eLC2, q_eNewC, q_iZip, q_sRaise, q_sTry, Rs.bind, op1, op2, opL, gAdd, gSub, gI2, gLt, gLe, gGt, gGe, gCmp, gIx, gLen, gInt, seqOf, gNeg, q_max2, q_min2, gTuple, gVar, gTupM, gsCons, gsNil, frz1, ownOf, noX, wipeE, msD, eR, e6]) ⟨_, _, rfl, L', rfl, ⟨hL', hMl, fun R h => (hMs R h).relen hee⟩, hs6⟩
      · exact ws_ifF (S1 := S5) (by simp [bodyM, startE, q_eVar, q_eC, q_eBin, q_eChain, q_eUn, q_eNot, q_eAnd, q_eOr, q_eIf, q_aNil, q_aCons, q_eTup, q_eLst, q_aSmall, q_eCB, q_eIxOwn, q_eLenOwn, q_oNo, q_oOf, q_eSl, q_eCall, q_eCallK, q_iSeq, q_cYes, q_eLC, q_sExp, q_sNil, q_sSeq, q_sBad, q_sBrk, q_sCont, q_sRet, q_sRetN, q_sDrop, q_sIf, q_sSet, q_sSetOwn, q_sFz, q_sApp, q_sPut, q_sPutC, q_sSetCell, q_sAsg, q_sPar, q_sPar3, q_eCallL, q_eLC2, q_eNewC, q_iZip, q_sRaise, q_sTry, Rs.bind, op1, op2, opL, gAdd, gSub, gI2, gLt, gLe, gGt, gGe, gCmp, gIx, gLen, gInt, seqOf, gNeg, q_max2, q_min2, gTuple, gVar, gTupM, gsCons, gsNil, frz1, ownOf, noX, wipeE, e5, h9]) (ws_nil ⟨_, _, rfl, L, rfl, ⟨hL, hMl, hMs⟩, hs5⟩)
    rintro ρ S6 ⟨L, rfl, hsc, hs6⟩
    exact ws_ret (d := .tup [ltD L, msD Ms]) (S1 := S6) (by simp [bodyM, startE, q_eVar, q_eC, q_eBin, q_eChain, q_eUn, q_eNot, q_eAnd, q_eOr, q_eIf, q_aNil, q_aCons, q_eTup, q_eLst, q_aSmall, q_eCB, q_eIxOwn, q_eLenOwn, q_oNo, q_oOf, q_eSl, q_eCall, q_eCallK, q_iSeq, q_cYes, q_eLC, q_sExp, q_sNil, q_sSeq, q_sBad, q_sBrk, q_sCont, q_sRet, q_sRetN, q_sDrop, q_sIf, q_sSet, q_sSetOwn, q_sFz, q_sApp, q_sPut, q_sPutC, q_sSetCell, q_sAsg, q_sPar, q_sPar3, q_eCallL, q_eLC2, q_eNewC, q_iZip, q_sRaise, q_sTry, Rs.bind, op1, op2, opL, gAdd, gSub, gI2, gLt, gLe, gGt, gGe, gCmp, gIx, gLen, gInt, seqOf, gNeg, q_max2, q_min2, gTuple, gVar, gTupM, gsCons, gsNil, frz1, ownOf, noX, wipeE]) ⟨_, _, rfl, L, Ms, rfl, hsc, hs6⟩
end KF
end

section
namespace KF
open PySem
theorem forL_gen {mg : MG} {sb : MS} (Inv : Nat → Env → Sto → Prop) (Brk : Env → Sto → Prop) (Ret : D → Sto → Prop) : ∀ (items : List D) (i0 : Nat) (ρ : Env) (S : Sto), Inv i0 ρ S →
    (∀ i x ρ S, items[i]? = some x → Inv (i0 + i) ρ S → ∃ ρ1, mg x ρ = some ρ1 ∧ WS sb ρ1 S fun r => (∃ ρ2 S2, r = .next ρ2 S2 ∧ Inv (i0 + i + 1) ρ2 S2) ∨ (∃ ρ2 S2, r = .brk ρ2 S2 ∧ Brk ρ2 S2) ∨ ∃ d S2, r = .ret d S2 ∧ Ret d S2) →
    (∃ ρ' S', forL mg sb items ρ S = .next ρ' S' ∧ (Inv (i0 + items.length) ρ' S' ∨ Brk ρ' S')) ∨ ∃ d S', forL mg sb items ρ S = .ret d S' ∧ Ret d S'
  | [], i0, ρ, S, h, _ => .inl ⟨ρ, S, rfl, .inl h⟩
  | x :: xs, i0, ρ, S, h, st => by
    obtain ⟨ρ1, e1, hb⟩ := st 0 x ρ S rfl h
    rcases hb with ⟨ρ2, S2, e2, h2⟩ | ⟨ρ2, S2, e2, h2⟩ | ⟨d, S2, e2, h2⟩
    · have ih := forL_gen Inv Brk Ret xs (i0 + 1) ρ2 S2 h2 (fun i y ρ S hy hi => by
        have := st (i + 1) y ρ S (by simpa using hy) (by rw [show i0 + (i + 1) = i0 + 1 + i by omega]; exact hi)
        rw [show i0 + (i + 1) + 1 = i0 + 1 + i + 1 by omega] at this
        exact this)
      have e : forL mg sb (x :: xs) ρ S = forL mg sb xs ρ2 S2 := by
        conv => lhs; unfold forL
        rw [e1]
        simp only
        rw [e2]
      rw [e, show i0 + (x :: xs).length = i0 + 1 + xs.length by simp; omega]
      exact ih
    · refine .inl ⟨ρ2, S2, ?_, .inr h2⟩
      unfold forL
      rw [e1]
      simp only
      rw [e2]
    · refine .inr ⟨d, S2, ?_, h2⟩
      unfold forL
      rw [e1]
      simp only
      rw [e2]
theorem ws_forG {mi : MI} {mg : MG} {sb : MS} {ρ : Env} {S S1 : Sto} {G : RS → Prop} {items : List D} (Inv : Nat → Env → Sto → Prop) (Brk : Env → Sto → Prop) (Ret : D → Sto → Prop) (hi : mi ρ S = .ok items S1) (h0 : Inv 0 ρ S1)
    (st : ∀ i x ρ S, items[i]? = some x → Inv i ρ S → ∃ ρ1, mg x ρ = some ρ1 ∧ WS sb ρ1 S fun r => (∃ ρ2 S2, r = .next ρ2 S2 ∧ Inv (i + 1) ρ2 S2) ∨ (∃ ρ2 S2, r = .brk ρ2 S2 ∧ Brk ρ2 S2) ∨ ∃ d S2, r = .ret d S2 ∧ Ret d S2)
    (hg : ∀ ρ S, Inv items.length ρ S ∨ Brk ρ S → G (.next ρ S)) (hr : ∀ d S, Ret d S → G (.ret d S)) : WS (sFor mi mg sb) ρ S G := by
  have h := forL_gen (mg := mg) (sb := sb) Inv Brk Ret items 0 ρ S1 h0 (fun i x ρ S hx h => by simpa using st i x ρ S hx (by simpa using h))
  unfold WS sFor sExp
  rw [hi]
  show G (forL mg sb items ρ S1)
  rcases h with ⟨ρ', S', e, h⟩ | ⟨d, S', e, h⟩
  · rw [e]
    exact hg _ _ (by simpa using h)
  · rw [e]
    exact hr _ _ h
theorem sq_forG {mi : MI} {mg : MG} {sb s2 : MS} {ρ : Env} {S S1 : Sto} {G : RS → Prop} {items : List D} (Inv : Nat → Env → Sto → Prop) (Ret : D → Sto → Prop) (hi : mi ρ S = .ok items S1) (h0 : Inv 0 ρ S1)
    (st : ∀ i x ρ S, items[i]? = some x → Inv i ρ S → ∃ ρ1, mg x ρ = some ρ1 ∧ WS sb ρ1 S fun r => (∃ ρ2 S2, r = .next ρ2 S2 ∧ Inv (i + 1) ρ2 S2) ∨ (∃ ρ2 S2, r = .brk ρ2 S2 ∧ False) ∨ ∃ d S2, r = .ret d S2 ∧ Ret d S2)
    (hg : ∀ ρ S, Inv items.length ρ S → WS s2 ρ S G) (hr : ∀ d S, Ret d S → G (.ret d S)) : WS (sSeq (sFor mi mg sb) s2) ρ S G := by
  have h : WS (sFor mi mg sb) ρ S fun r => (∃ ρ2 S2, r = .next ρ2 S2 ∧ Inv items.length ρ2 S2) ∨ ∃ d S2, r = .ret d S2 ∧ Ret d S2 :=
    ws_forG Inv (fun _ _ => False) Ret hi h0 st (fun ρ S h => .inl ⟨ρ, S, rfl, by rcases h with h | h; exact h; exact h.elim⟩) (fun d S h => .inr ⟨d, S, rfl, h⟩)
  unfold WS sSeq
  rcases h with ⟨ρ2, S2, e, h⟩ | ⟨d, S2, e, h⟩
  · rw [e]; exact hg _ _ h
  · rw [e]; exact hr _ _ h
theorem numbers_ok (ns : List Int) (hn : ns.length ≤ 63) (S : Sto) : ∃ d S', m_f_law_numbers [.scr (ns.map .int)] S = .ok d S' ∧ S' = S ∧ RowOk d := by
  unfold m_f_law_numbers
  apply body_ret
  unfold b_f_law_numbers
  refine sq_setOwn (xs := []) (S1 := S) (by simp [bodyM, startE, q_eVar, q_eC, q_eBin, q_eChain, q_eUn, q_eNot, q_eAnd, q_eOr, q_eIf, q_aNil, q_aCons, q_eTup, q_eLst, q_aSmall, q_eCB, q_eIxOwn, q_eLenOwn, q_oNo, q_oOf, q_eSl, q_eCall, q_eCallK, q_iSeq, q_cYes, q_eLC, q_sExp, q_sNil, q_sSeq, q_sBad, q_sBrk, q_sCont, q_sRet, q_sRetN, q_sDrop, q_sIf, q_sSet, q_sSetOwn, q_sFz, q_sApp, q_sPut, q_sPutC, q_sSetCell, q_sAsg, q_sPar, q_sPar3, q_eCallL, q_eLC2, q_eNewC, q_iZip, q_sRaise, q_sTry, Rs.bind, op1, op2, opL, gAdd, gSub, gI2, gLt, gLe, gGt, gGe, gCmp, gIx, gLen, gInt, seqOf, gNeg, q_max2, q_min2, gTuple, gVar, gTupM, gsCons, gsNil, frz1, ownOf, noX, wipeE]) ?_
  obtain ⟨ms, ems, hms⟩ : ∃ ms : List Int, cut (ns.map D.int) none (some 63) = ms.map D.int ∧ ms.length ≤ 63 := by
    refine ⟨cut ns none (some 63), ?_, Nat.le_trans (cut_le _ _ _) hn⟩
    unfold cut
    rw [List.length_map, List.map_take, List.map_drop]
  refine sq_for (items := ms.map D.int) (S1 := S) (fun i ρ S' => ∃ (row : List Int) (a2 a3 a4 a5 : Sl), ρ = [.val (.scr (ns.map .int)), .own (row.map D.int), a2, a3, a4, a5] ∧ S' = S ∧ row.length ≤ 60 * i) ?_ ?_ ?_ ?_
  · simp [bodyM, startE, q_eVar, q_eC, q_eBin, q_eChain, q_eUn, q_eNot, q_eAnd, q_eOr, q_eIf, q_aNil, q_aCons, q_eTup, q_eLst, q_aSmall, q_eCB, q_eIxOwn, q_eLenOwn, q_oNo, q_oOf, q_eSl, q_eCall, q_eCallK, q_iSeq, q_cYes, q_eLC, q_sExp, q_sNil, q_sSeq, q_sBad, q_sBrk, q_sCont, q_sRet, q_sRetN, q_sDrop, q_sIf, q_sSet, q_sSetOwn, q_sFz, q_sApp, q_sPut, q_sPutC, q_sSetCell, q_sAsg, q_sPar, q_sPar3, q_eCallL, q_eLC2, q_eNewC, q_iZip, q_sRaise, q_sTry, Rs.bind, op1, op2, opL, gAdd, gSub, gI2, gLt, gLe, gGt, gGe, gCmp, gIx, gLen, gInt, seqOf, gNeg, q_max2, q_min2, gTuple, gVar, gTupM, gsCons, gsNil, frz1, ownOf, noX, wipeE, gSl, ems]
  · exact ⟨[], _, _, _, _, rfl, rfl, by simp⟩
  · rintro i x ρ S' hx ⟨row, a2, a3, a4, a5, rfl, rfl, hr⟩
    rw [List.getElem?_map] at hx
    cases q : ms[i]? with
    | none => rw [q] at hx; cases hx
    | some cell =>
      rw [q] at hx
      cases hx
      have hi := (List.getElem?_eq_some_iff.mp q).1
      refine ⟨_, rfl, ?_⟩
      have ep : gPow (.int 10) (.int 18) S' = some (.int 1000000000000000000) := by
        unfold gPow
        simp only
        rw [if_pos (by decide)]
        rfl
      by_cases hc : 1000000000000000000 ≤ cell
      · refine ws_ifT (S1 := S') (by simp [bodyM, startE, q_eVar, q_eC, q_eBin, q_eChain, q_eUn, q_eNot, q_eAnd, q_eOr, q_eIf, q_aNil, q_aCons, q_eTup, q_eLst, q_aSmall, q_eCB, q_eIxOwn, q_eLenOwn, q_oNo, q_oOf, q_eSl, q_eCall, q_eCallK, q_iSeq, q_cYes, q_eLC, q_sExp, q_sNil, q_sSeq, q_sBad, q_sBrk, q_sCont, q_sRet, q_sRetN, q_sDrop, q_sIf, q_sSet, q_sSetOwn, q_sFz, q_sApp, q_sPut, q_sPutC, q_sSetCell, q_sAsg, q_sPar, q_sPar3, q_eCallL, q_eLC2, q_eNewC, q_iZip, q_sRaise, q_sTry, Rs.bind, op1, op2, opL, gAdd, gSub, gI2, gLt, gLe, gGt, gGe, gCmp, gIx, gLen, gInt, seqOf, gNeg, q_max2, q_min2, gTuple, gVar, gTupM, gsCons, gsNil, frz1, ownOf, noX, wipeE, ep, hc]) ?_
        refine sq_set (d := .int cell) (S1 := S') (by simp [bodyM, startE, q_eVar, q_eC, q_eBin, q_eChain, q_eUn, q_eNot, q_eAnd, q_eOr, q_eIf, q_aNil, q_aCons, q_eTup, q_eLst, q_aSmall, q_eCB, q_eIxOwn, q_eLenOwn, q_oNo, q_oOf, q_eSl, q_eCall, q_eCallK, q_iSeq, q_cYes, q_eLC, q_sExp, q_sNil, q_sSeq, q_sBad, q_sBrk, q_sCont, q_sRet, q_sRetN, q_sDrop, q_sIf, q_sSet, q_sSetOwn, q_sFz, q_sApp, q_sPut, q_sPutC, q_sSetCell, q_sAsg, q_sPar, q_sPar3, q_eCallL, q_eLC2, q_eNewC, q_iZip, q_sRaise, q_sTry, Rs.bind, op1, op2, opL, gAdd, gSub, gI2, gLt, gLe, gGt, gGe, gCmp, gIx, gLen, gInt, seqOf, gNeg, q_max2, q_min2, gTuple, gVar, gTupM, gsCons, gsNil, frz1, ownOf, noX, wipeE]) ?_
        refine ws_forG (items := rangeD 0 60) (S1 := S') (fun j ρ S'' => ∃ (row2 : List Int) (left : Int) (a4 a5 : Sl), ρ = [.val (.scr (ns.map .int)), .own (row2.map D.int), .val (.int cell), .val (.int left), a4, a5] ∧ S'' = S' ∧ row2.length ≤ row.length + j)
          (fun ρ S'' => ∃ (row2 : List Int) (left : Int) (a4 a5 : Sl), ρ = [.val (.scr (ns.map .int)), .own (row2.map D.int), .val (.int cell), .val (.int left), a4, a5] ∧ S'' = S' ∧ row2.length ≤ row.length + 60) (fun _ _ => False) (rng1 (n := 60) (by simp [bodyM, startE, q_eVar, q_eC, q_eBin, q_eChain, q_eUn, q_eNot, q_eAnd, q_eOr, q_eIf, q_aNil, q_aCons, q_eTup, q_eLst, q_aSmall, q_eCB, q_eIxOwn, q_eLenOwn, q_oNo, q_oOf, q_eSl, q_eCall, q_eCallK, q_iSeq, q_cYes, q_eLC, q_sExp, q_sNil, q_sSeq, q_sBad, q_sBrk, q_sCont, q_sRet, q_sRetN, q_sDrop, q_sIf, q_sSet, q_sSetOwn, q_sFz, q_sApp, q_sPut, q_sPutC, q_sSetCell, q_sAsg, q_sPar, q_sPar3, q_eCallL, q_eLC2, q_eNewC, q_iZip, q_sRaise, q_sTry, Rs.bind, op1, op2, opL, gAdd, gSub, gI2, gLt, gLe, gGt, gGe, gCmp, gIx, gLen, gInt, seqOf, gNeg, q_max2, q_min2, gTuple, gVar, gTupM, gsCons, gsNil, frz1, ownOf, noX, wipeE]) (by decide)) ⟨row, cell, _, _, rfl, rfl, by omega⟩ ?_ ?_ (fun _ _ h => h.elim)
        · rintro j x ρ S'' hx ⟨row2, left, a4, a5, rfl, rfl, hl⟩
          obtain ⟨hj, rfl⟩ := range_at hx
          refine ⟨_, rfl, ?_⟩
          by_cases h0 : left = 0
          · refine .inr (.inl ?_)
            refine ⟨[.val (.scr (ns.map .int)), .own (row2.map D.int), .val (.int cell), .val (.int left), .val (.int j), a5], S'', ?_, row2, left, _, _, rfl, rfl, by omega⟩
            simp [bodyM, startE, q_eVar, q_eC, q_eBin, q_eChain, q_eUn, q_eNot, q_eAnd, q_eOr, q_eIf, q_aNil, q_aCons, q_eTup, q_eLst, q_aSmall, q_eCB, q_eIxOwn, q_eLenOwn, q_oNo, q_oOf, q_eSl, q_eCall, q_eCallK, q_iSeq, q_cYes, q_eLC, q_sExp, q_sNil, q_sSeq, q_sBad, q_sBrk, q_sCont, q_sRet, q_sRetN, q_sDrop, q_sIf, q_sSet, q_sSetOwn, q_sFz, q_sApp, q_sPut, q_sPutC, q_sSetCell, q_sAsg, q_sPar, q_sPar3, q_eCallL, q_eLC2, q_eNewC, q_iZip, q_sRaise, q_sTry, Rs.bind, op1, op2, opL, gAdd, gSub, gI2, gLt, gLe, gGt, gGe, gCmp, gIx, gLen, gInt, seqOf, gNeg, q_max2, q_min2, gTuple, gVar, gTupM, gsCons, gsNil, frz1, ownOf, noX, wipeE, q_eq_int, h0]
          · refine sq_ifF (S1 := S'') (by simp [bodyM, startE, q_eVar, q_eC, q_eBin, q_eChain, q_eUn, q_eNot, q_eAnd, q_eOr, q_eIf, q_aNil, q_aCons, q_eTup, q_eLst, q_aSmall, q_eCB, q_eIxOwn, q_eLenOwn, q_oNo, q_oOf, q_eSl, q_eCall, q_eCallK, q_iSeq, q_cYes, q_eLC, q_sExp, q_sNil, q_sSeq, q_sBad, q_sBrk, q_sCont, q_sRet, q_sRetN, q_sDrop, q_sIf, q_sSet, q_sSetOwn, q_sFz, q_sApp, q_sPut, q_sPutC, q_sSetCell, q_sAsg, q_sPar, q_sPar3, q_eCallL, q_eLC2, q_eNewC, q_iZip, q_sRaise, q_sTry, Rs.bind, op1, op2, opL, gAdd, gSub, gI2, gLt, gLe, gGt, gGe, gCmp, gIx, gLen, gInt, seqOf, gNeg, q_max2, q_min2, gTuple, gVar, gTupM, gsCons, gsNil, frz1, ownOf, noX, wipeE, q_eq_int, h0]) ?_
            refine sq_app (xs := row2.map D.int) (own_i rfl) (d := .int (left % 997)) (S1 := S'') (by simp [bodyM, startE, q_eVar, q_eC, q_eBin, q_eChain, q_eUn, q_eNot, q_eAnd, q_eOr, q_eIf, q_aNil, q_aCons, q_eTup, q_eLst, q_aSmall, q_eCB, q_eIxOwn, q_eLenOwn, q_oNo, q_oOf, q_eSl, q_eCall, q_eCallK, q_iSeq, q_cYes, q_eLC, q_sExp, q_sNil, q_sSeq, q_sBad, q_sBrk, q_sCont, q_sRet, q_sRetN, q_sDrop, q_sIf, q_sSet, q_sSetOwn, q_sFz, q_sApp, q_sPut, q_sPutC, q_sSetCell, q_sAsg, q_sPar, q_sPar3, q_eCallL, q_eLC2, q_eNewC, q_iZip, q_sRaise, q_sTry, Rs.bind, op1, op2, opL, gAdd, gSub, gI2, gLt, gLe, gGt, gGe, gCmp, gIx, gLen, gInt, seqOf, gNeg, q_max2, q_min2, gTuple, gVar, gTupM, gsCons, gsNil, frz1, ownOf, noX, wipeE, q_mod]) (by rw [List.length_map]; omega) ?_
            exact ws_set (d := .int (left / 997)) (S1 := S'') (by simp [bodyM, startE, q_eVar, q_eC, q_eBin, q_eChain, q_eUn, q_eNot, q_eAnd, q_eOr, q_eIf, q_aNil, q_aCons, q_eTup, q_eLst, q_aSmall, q_eCB, q_eIxOwn, q_eLenOwn, q_oNo, q_oOf, q_eSl, q_eCall, q_eCallK, q_iSeq, q_cYes, q_eLC, q_sExp, q_sNil, q_sSeq, q_sBad, q_sBrk, q_sCont, q_sRet, q_sRetN, q_sDrop, q_sIf, q_sSet, q_sSetOwn, q_sFz, q_sApp, q_sPut, q_sPutC, q_sSetCell, q_sAsg, q_sPar, q_sPar3, q_eCallL, q_eLC2, q_eNewC, q_iZip, q_sRaise, q_sTry, Rs.bind, op1, op2, opL, gAdd, gSub, gI2, gLt, gLe, gGt, gGe, gCmp, gIx, gLen, gInt, seqOf, gNeg, q_max2, q_min2, gTuple, gVar, gTupM, gsCons, gsNil, frz1, ownOf, noX, wipeE, q_div]) (.inl ⟨_, _, rfl, row2 ++ [left % 997], left / 997, _, _, by rw [List.map_append]; rfl, rfl, by rw [List.length_append, List.length_singleton]; omega⟩)
        · rintro ρ S'' h
          have h : ∃ (row2 : List Int) (left : Int) (a4 a5 : Sl), ρ = [.val (.scr (ns.map .int)), .own (row2.map D.int), .val (.int cell), .val (.int left), a4, a5] ∧ S'' = S' ∧ row2.length ≤ row.length + 60 := by
            rcases h with h | h
            · rw [rangeD_len] at h; exact h
            · exact h
          obtain ⟨row2, left, a4, a5, rfl, rfl, hl⟩ := h
          exact ⟨_, _, rfl, row2, _, _, _, _, rfl, rfl, by omega⟩
      · refine ws_ifF (S1 := S') (by simp [bodyM, startE, q_eVar, q_eC, q_eBin, q_eChain, q_eUn, q_eNot, q_eAnd, q_eOr, q_eIf, q_aNil, q_aCons, q_eTup, q_eLst, q_aSmall, q_eCB, q_eIxOwn, q_eLenOwn, q_oNo, q_oOf, q_eSl, q_eCall, q_eCallK, q_iSeq, q_cYes, q_eLC, q_sExp, q_sNil, q_sSeq, q_sBad, q_sBrk, q_sCont, q_sRet, q_sRetN, q_sDrop, q_sIf, q_sSet, q_sSetOwn, q_sFz, q_sApp, q_sPut, q_sPutC, q_sSetCell, q_sAsg, q_sPar, q_sPar3, q_eCallL, q_eLC2, q_eNewC, q_iZip, q_sRaise, q_sTry, Rs.bind, op1, op2, opL, gAdd, gSub, gI2, gLt, gLe, gGt, gGe, gCmp, gIx, gLen, gInt, seqOf, gNeg, q_max2, q_min2, gTuple, gVar, gTupM, gsCons, gsNil, frz1, ownOf, noX, wipeE, ep, hc]) ?_
        refine ws_for (items := rangeD 0 4) (S1 := S') (fun j ρ S'' => ∃ (row2 : List Int) (a3 a4 a5 : Sl), ρ = [.val (.scr (ns.map .int)), .own (row2.map D.int), .val (.int cell), a3, a4, a5] ∧ S'' = S' ∧ row2.length ≤ row.length + j) (rng1 (n := 4) (by simp [bodyM, startE, q_eVar, q_eC, q_eBin, q_eChain, q_eUn, q_eNot, q_eAnd, q_eOr, q_eIf, q_aNil, q_aCons, q_eTup, q_eLst, q_aSmall, q_eCB, q_eIxOwn, q_eLenOwn, q_oNo, q_oOf, q_eSl, q_eCall, q_eCallK, q_iSeq, q_cYes, q_eLC, q_sExp, q_sNil, q_sSeq, q_sBad, q_sBrk, q_sCont, q_sRet, q_sRetN, q_sDrop, q_sIf, q_sSet, q_sSetOwn, q_sFz, q_sApp, q_sPut, q_sPutC, q_sSetCell, q_sAsg, q_sPar, q_sPar3, q_eCallL, q_eLC2, q_eNewC, q_iZip, q_sRaise, q_sTry, Rs.bind, op1, op2, opL, gAdd, gSub, gI2, gLt, gLe, gGt, gGe, gCmp, gIx, gLen, gInt, seqOf, gNeg, q_max2, q_min2, gTuple, gVar, gTupM, gsCons, gsNil, frz1, ownOf, noX, wipeE]) (by decide)) ⟨row, _, _, _, rfl, rfl, by omega⟩ ?_ ?_
        · rintro j x ρ S'' hx ⟨row2, a3, a4, a5, rfl, rfl, hl⟩
          obtain ⟨hj, rfl⟩ := range_at hx
          refine ⟨_, rfl, ?_⟩
          refine sq_set (d := .int ((cell * 48271 + j * 69621 + 11) % 2147483647)) (S1 := S'') (by simp [bodyM, startE, q_eVar, q_eC, q_eBin, q_eChain, q_eUn, q_eNot, q_eAnd, q_eOr, q_eIf, q_aNil, q_aCons, q_eTup, q_eLst, q_aSmall, q_eCB, q_eIxOwn, q_eLenOwn, q_oNo, q_oOf, q_eSl, q_eCall, q_eCallK, q_iSeq, q_cYes, q_eLC, q_sExp, q_sNil, q_sSeq, q_sBad, q_sBrk, q_sCont, q_sRet, q_sRetN, q_sDrop, q_sIf, q_sSet, q_sSetOwn, q_sFz, q_sApp, q_sPut, q_sPutC, q_sSetCell, q_sAsg, q_sPar, q_sPar3, q_eCallL, q_eLC2, q_eNewC, q_iZip, q_sRaise, q_sTry, Rs.bind, op1, op2, opL, gAdd, gSub, gI2, gLt, gLe, gGt, gGe, gCmp, gIx, gLen, gInt, seqOf, gNeg, q_max2, q_min2, gTuple, gVar, gTupM, gsCons, gsNil, frz1, ownOf, noX, wipeE, q_mul, q_mod]) ?_
          refine ws_app (xs := row2.map D.int) (own_i rfl) (d := .int (((cell * 48271 + j * 69621 + 11) % 2147483647 * 16807 + j) % 2147483629)) (S1 := S'') (by simp [bodyM, startE, q_eVar, q_eC, q_eBin, q_eChain, q_eUn, q_eNot, q_eAnd, q_eOr, q_eIf, q_aNil, q_aCons, q_eTup, q_eLst, q_aSmall, q_eCB, q_eIxOwn, q_eLenOwn, q_oNo, q_oOf, q_eSl, q_eCall, q_eCallK, q_iSeq, q_cYes, q_eLC, q_sExp, q_sNil, q_sSeq, q_sBad, q_sBrk, q_sCont, q_sRet, q_sRetN, q_sDrop, q_sIf, q_sSet, q_sSetOwn, q_sFz, q_sApp, q_sPut, q_sPutC, q_sSetCell, q_sAsg, q_sPar, q_sPar3, q_eCallL, q_eLC2, q_eNewC, q_iZip, q_sRaise, q_sTry, Rs.bind, op1, op2, opL, gAdd, gSub, gI2, gLt, gLe, gGt, gGe, gCmp, gIx, gLen, gInt, seqOf, gNeg, q_max2, q_min2, gTuple, gVar, gTupM, gsCons, gsNil, frz1, ownOf, noX, wipeE, q_mul, q_mod]) (by rw [List.length_map]; omega) ⟨_, _, rfl, row2 ++ [((cell * 48271 + j * 69621 + 11) % 2147483647 * 16807 + j) % 2147483629], _, _, _, by rw [List.map_append]; rfl, rfl, by rw [List.length_append, List.length_singleton]; omega⟩
        · rintro ρ S'' ⟨row2, a3, a4, a5, rfl, rfl, hl⟩
          rw [rangeD_len] at hl
          exact ⟨_, _, rfl, row2, _, _, _, _, rfl, rfl, by omega⟩
  · rintro ρ S' ⟨row, a2, a3, a4, a5, rfl, rfl, hr⟩
    rw [List.length_map] at hr
    refine sq_join (fun ρ S'' => ∃ row : List Int, ρ = [.val (.scr (ns.map .int)), .own (row.map D.int), a2, a3, a4, a5] ∧ S'' = S' ∧ 0 < row.length) ?_ ?_
    · by_cases h0 : row.length = 0
      · have : row = [] := List.eq_nil_of_length_eq_zero h0
        subst this
        exact ws_ifT (S1 := S') (by simp [bodyM, startE, q_eVar, q_eC, q_eBin, q_eChain, q_eUn, q_eNot, q_eAnd, q_eOr, q_eIf, q_aNil, q_aCons, q_eTup, q_eLst, q_aSmall, q_eCB, q_eIxOwn, q_eLenOwn, q_oNo, q_oOf, q_eSl, q_eCall, q_eCallK, q_iSeq, q_cYes, q_eLC, q_sExp, q_sNil, q_sSeq, q_sBad, q_sBrk, q_sCont, q_sRet, q_sRetN, q_sDrop, q_sIf, q_sSet, q_sSetOwn, q_sFz, q_sApp, q_sPut, q_sPutC, q_sSetCell, q_sAsg, q_sPar, q_sPar3, q_eCallL, q_eLC2, q_eNewC, q_iZip, q_sRaise, q_sTry, Rs.bind, op1, op2, opL, gAdd, gSub, gI2, gLt, gLe, gGt, gGe, gCmp, gIx, gLen, gInt, seqOf, gNeg, q_max2, q_min2, gTuple, gVar, gTupM, gsCons, gsNil, frz1, ownOf, noX, wipeE, q_eq_int]) (ws_app (xs := []) (own_i rfl) (d := .int 0) (S1 := S') (by simp [bodyM, startE, q_eVar, q_eC, q_eBin, q_eChain, q_eUn, q_eNot, q_eAnd, q_eOr, q_eIf, q_aNil, q_aCons, q_eTup, q_eLst, q_aSmall, q_eCB, q_eIxOwn, q_eLenOwn, q_oNo, q_oOf, q_eSl, q_eCall, q_eCallK, q_iSeq, q_cYes, q_eLC, q_sExp, q_sNil, q_sSeq, q_sBad, q_sBrk, q_sCont, q_sRet, q_sRetN, q_sDrop, q_sIf, q_sSet, q_sSetOwn, q_sFz, q_sApp, q_sPut, q_sPutC, q_sSetCell, q_sAsg, q_sPar, q_sPar3, q_eCallL, q_eLC2, q_eNewC, q_iZip, q_sRaise, q_sTry, Rs.bind, op1, op2, opL, gAdd, gSub, gI2, gLt, gLe, gGt, gGe, gCmp, gIx, gLen, gInt, seqOf, gNeg, q_max2, q_min2, gTuple, gVar, gTupM, gsCons, gsNil, frz1, ownOf, noX, wipeE]) (by decide) ⟨_, _, rfl, [0], rfl, rfl, by decide⟩)
      · exact ws_ifF (S1 := S') (by simp [bodyM, startE, q_eVar, q_eC, q_eBin, q_eChain, q_eUn, q_eNot, q_eAnd, q_eOr, q_eIf, q_aNil, q_aCons, q_eTup, q_eLst, q_aSmall, q_eCB, q_eIxOwn, q_eLenOwn, q_oNo, q_oOf, q_eSl, q_eCall, q_eCallK, q_iSeq, q_cYes, q_eLC, q_sExp, q_sNil, q_sSeq, q_sBad, q_sBrk, q_sCont, q_sRet, q_sRetN, q_sDrop, q_sIf, q_sSet, q_sSetOwn, q_sFz, q_sApp, q_sPut, q_sPutC, q_sSetCell, q_sAsg, q_sPar, q_sPar3, q_eCallL, q_eLC2, q_eNewC, q_iZip, q_sRaise, q_sTry, Rs.bind, op1, op2, opL, gAdd, gSub, gI2, gLt, gLe, gGt, gGe, gCmp, gIx, gLen, gInt, seqOf, gNeg, q_max2, q_min2, gTuple, gVar, gTupM, gsCons, gsNil, frz1, ownOf, noX, wipeE, q_eq_int, h0]) (ws_nil ⟨_, _, rfl, row, rfl, rfl, by omega⟩)
    · rintro ρ S'' ⟨row, rfl, rfl, h0⟩
      exact ws_fz (ws_ret (d := .lst (row.map D.int)) (S1 := S'') (by simp [bodyM, startE, q_eVar, q_eC, q_eBin, q_eChain, q_eUn, q_eNot, q_eAnd, q_eOr, q_eIf, q_aNil, q_aCons, q_eTup, q_eLst, q_aSmall, q_eCB, q_eIxOwn, q_eLenOwn, q_oNo, q_oOf, q_eSl, q_eCall, q_eCallK, q_iSeq, q_cYes, q_eLC, q_sExp, q_sNil, q_sSeq, q_sBad, q_sBrk, q_sCont, q_sRet, q_sRetN, q_sDrop, q_sIf, q_sSet, q_sSetOwn, q_sFz, q_sApp, q_sPut, q_sPutC, q_sSetCell, q_sAsg, q_sPar, q_sPar3, q_eCallL, q_eLC2, q_eNewC, q_iZip, q_sRaise, q_sTry, Rs.bind, op1, op2, opL, gAdd, gSub, gI2, gLt, gLe, gGt, gGe, gCmp, gIx, gLen, gInt, seqOf, gNeg, q_max2, q_min2, gTuple, gVar, gTupM, gsCons, gsNil, frz1, ownOf, noX, wipeE]) ⟨_, _, rfl, rfl, row, rfl, h0⟩)
end KF
end

section
namespace KF
open PySem
/-! ### plain values: what the law hands in, as tuples -/
def atomB : D → Bool
  | .non => true | .bl _ => true | .int _ => true | .str s => PyData.strOk s
  | _ => false
/-- of depth n at most, rows of w at most -/
def Vd (w : Nat) : Nat → D → Prop
  | 0, d => atomB d = true
  | n + 1, d => atomB d = true ∨ ∃ xs, d = .tup xs ∧ xs.length ≤ w ∧ ∀ x ∈ xs, Vd w n x
theorem Vd.atom {w n : Nat} {d : D} (h : atomB d = true) : Vd w n d := by
  cases n with
  | zero => exact h
  | succ n => exact .inl h
theorem Vd.up {w : Nat} : ∀ {n m : Nat} {d : D}, n ≤ m → Vd w n d → Vd w m d
  | 0, _, _, _, h => Vd.atom h
  | n + 1, 0, _, hl, _ => by omega
  | n + 1, m + 1, d, hl, h => by
    rcases h with h | ⟨xs, e, hx, h⟩
    · exact .inl h
    · exact .inr ⟨xs, e, hx, fun x hx => Vd.up (by omega) (h x hx)⟩
theorem Vd.wide {w w' : Nat} (hw : w ≤ w') : ∀ {n : Nat} {d : D}, Vd w n d → Vd w' n d
  | 0, _, h => h
  | n + 1, d, h => by
    rcases h with h | ⟨xs, e, hx, h⟩
    · exact .inl h
    · exact .inr ⟨xs, e, by omega, fun x hx => Vd.wide hw (h x hx)⟩
/-- h is v with some of its tuples as lists -/
def Hl : Nat → D → D → Prop
  | 0, h, v => h = v ∧ atomB v = true
  | n + 1, h, v => (h = v ∧ atomB v = true) ∨ ∃ hs vs, v = .tup vs ∧ (h = .lst hs ∨ h = .tup hs) ∧ hs.length = vs.length ∧ hs.length ≤ 100 ∧ ∀ (k : Nat) (a b : D), hs[k]? = some a → vs[k]? = some b → Hl n a b
theorem Hl.atom {n : Nat} {d : D} (h : atomB d = true) : Hl n d d := by
  cases n with
  | zero => exact ⟨rfl, h⟩
  | succ n => exact .inl ⟨rfl, h⟩
theorem Hl.refl {w : Nat} (hw : w ≤ 100) : ∀ {n : Nat} {d : D}, Vd w n d → Hl n d d
  | 0, _, h => ⟨rfl, h⟩
  | n + 1, d, h => by
    rcases h with h | ⟨xs, rfl, hx, h⟩
    · exact .inl ⟨rfl, h⟩
    · exact .inr ⟨xs, xs, rfl, .inr rfl, rfl, by omega, fun k a b h1 h2 => by
        rw [h1] at h2
        cases h2
        exact Hl.refl hw (h a (List.mem_of_getElem? h1))⟩
theorem isTup_atom {d : D} (h : atomB d = true) : gIsi [.tup] d = some (.bl false) := by cases d <;> simp [atomB] at h <;> rfl
theorem isTup_tup {xs : List D} : gIsi [.tup] (.tup xs) = some (.bl true) := rfl
theorem isLst_atom {d : D} (h : atomB d = true) : gIsi [.lst] d = some (.bl false) := by cases d <;> simp [atomB] at h <;> rfl
theorem isSeq_atom {d : D} (h : atomB d = true) : gIsi [.lst, .tup] d = some (.bl false) := by cases d <;> simp [atomB] at h <;> rfl
theorem hs_of {vs ys : List D} {n : Nat} (hl : ys.length = vs.length) (hq : ∀ (j : Nat) (x y : D), vs[j]? = some x → ys[j]? = some y → Hl n y x) : ∀ (k : Nat) (a b : D), ys[k]? = some a → vs[k]? = some b → Hl n a b := fun k a b h1 h2 => hq k b a h2 h1
theorem listed_ok {w : Nat} (hw : w ≤ 100) : ∀ (n f : Nat) (v : D) (S : Sto), Vd w n v → n < f → ∃ h, m_f_law_listed f [v] S = .ok h S ∧ Hl n h v
  | n, 0, v, S, _, hf => by omega
  | n, f + 1, v, S, hv, hf => by
    have key : ∃ d S', bodyM 2 (b_f_law_listed (m_f_law_listed f)) [v] S = .ok d S' ∧ S' = S ∧ Hl n d v := by
      apply body_ret
      unfold b_f_law_listed
      have atom : atomB v = true → WS (sSeq (sIf (eUn (gIsi [.tup]) (eVar 0)) (sRet (eLst (eLC (List.map (fun x => x.2) ([("one", 1)] : List (Str × Nat))) (iSeq (eVar 0)) (gVar 1) cYes (eCall 1 (m_f_law_listed f) (aCons (eVar 1) aNil))))) sNil) (sRet (eVar 0))) (startE 2 [v]) S (fun r => ∃ d S', r = .ret d S' ∧ S' = S ∧ Hl n d v) := fun ha =>
        sq_ifF (S1 := S) (by simp [bodyM, startE, q_eVar, q_eC, q_eBin, q_eChain, q_eUn, q_eNot, q_eAnd, q_eOr, q_eIf, q_aNil, q_aCons, q_eTup, q_eLst, q_aSmall, q_eCB, q_eIxOwn, q_eLenOwn, q_oNo, q_oOf, q_eSl, q_eCall, q_eCallK, q_iSeq, q_cYes, q_eLC, q_sExp, q_sNil, q_sSeq, q_sBad, q_sBrk, q_sCont, q_sRet, q_sRetN, q_sDrop, q_sIf, q_sSet, q_sSetOwn, q_sFz, q_sApp, q_sPut, q_sPutC, q_sSetCell, q_sAsg, q_sPar, q_sPar3, q_eCallL, q_eLC2, q_eNewC, q_iZip, q_sRaise, q_sTry, Rs.bind, op1, op2, opL, gAdd, gSub, gI2, gLt, gLe, gGt, gGe, gCmp, gIx, gLen, gInt, seqOf, gNeg, q_max2, q_min2, gTuple, gVar, gTupM, gsCons, gsNil, frz1, ownOf, noX, wipeE, isTup_atom ha]) (ws_ret (d := v) (S1 := S) (by simp [bodyM, startE, q_eVar, q_eC, q_eBin, q_eChain, q_eUn, q_eNot, q_eAnd, q_eOr, q_eIf, q_aNil, q_aCons, q_eTup, q_eLst, q_aSmall, q_eCB, q_eIxOwn, q_eLenOwn, q_oNo, q_oOf, q_eSl, q_eCall, q_eCallK, q_iSeq, q_cYes, q_eLC, q_sExp, q_sNil, q_sSeq, q_sBad, q_sBrk, q_sCont, q_sRet, q_sRetN, q_sDrop, q_sIf, q_sSet, q_sSetOwn, q_sFz, q_sApp, q_sPut, q_sPutC, q_sSetCell, q_sAsg, q_sPar, q_sPar3, q_eCallL, q_eLC2, q_eNewC, q_iZip, q_sRaise, q_sTry, Rs.bind, op1, op2, opL, gAdd, gSub, gI2, gLt, gLe, gGt, gGe, gCmp, gIx, gLen, gInt, seqOf, gNeg, q_max2, q_min2, gTuple, gVar, gTupM, gsCons, gsNil, frz1, ownOf, noX, wipeE]) ⟨_, _, rfl, rfl, Hl.atom ha⟩)
      cases n with
      | zero => exact atom hv
      | succ n =>
        rcases hv with ha | ⟨vs, rfl, hvs, hx⟩
        · exact atom ha
        · refine sq_retT (S1 := S) (by simp [bodyM, startE, q_eVar, q_eC, q_eBin, q_eChain, q_eUn, q_eNot, q_eAnd, q_eOr, q_eIf, q_aNil, q_aCons, q_eTup, q_eLst, q_aSmall, q_eCB, q_eIxOwn, q_eLenOwn, q_oNo, q_oOf, q_eSl, q_eCall, q_eCallK, q_iSeq, q_cYes, q_eLC, q_sExp, q_sNil, q_sSeq, q_sBad, q_sBrk, q_sCont, q_sRet, q_sRetN, q_sDrop, q_sIf, q_sSet, q_sSetOwn, q_sFz, q_sApp, q_sPut, q_sPutC, q_sSetCell, q_sAsg, q_sPar, q_sPar3, q_eCallL, q_eLC2, q_eNewC, q_iZip, q_sRaise, q_sTry, Rs.bind, op1, op2, opL, gAdd, gSub, gI2, gLt, gLe, gGt, gGe, gCmp, gIx, gLen, gInt, seqOf, gNeg, q_max2, q_min2, gTuple, gVar, gTupM, gsCons, gsNil, frz1, ownOf, noX, wipeE, isTup_tup]) ?_
          refine ws_retE (we_lc (xs := vs) (S1 := S) (fun S' => S' = S) (fun _ x y => Hl n y x) (by simp [bodyM, startE, q_eVar, q_eC, q_eBin, q_eChain, q_eUn, q_eNot, q_eAnd, q_eOr, q_eIf, q_aNil, q_aCons, q_eTup, q_eLst, q_aSmall, q_eCB, q_eIxOwn, q_eLenOwn, q_oNo, q_oOf, q_eSl, q_eCall, q_eCallK, q_iSeq, q_cYes, q_eLC, q_sExp, q_sNil, q_sSeq, q_sBad, q_sBrk, q_sCont, q_sRet, q_sRetN, q_sDrop, q_sIf, q_sSet, q_sSetOwn, q_sFz, q_sApp, q_sPut, q_sPutC, q_sSetCell, q_sAsg, q_sPar, q_sPar3, q_eCallL, q_eLC2, q_eNewC, q_iZip, q_sRaise, q_sTry, Rs.bind, op1, op2, opL, gAdd, gSub, gI2, gLt, gLe, gGt, gGe, gCmp, gIx, gLen, gInt, seqOf, gNeg, q_max2, q_min2, gTuple, gVar, gTupM, gsCons, gsNil, frz1, ownOf, noX, wipeE]) rfl ?_ ?_)
          · rintro j x S' hj rfl
            obtain ⟨h, e, hh⟩ := listed_ok hw n f x S' (hx x (List.mem_of_getElem? hj)) (by omega)
            exact ⟨_, h, S', rfl, by simp [bodyM, startE, q_eVar, q_eC, q_eBin, q_eChain, q_eUn, q_eNot, q_eAnd, q_eOr, q_eIf, q_aNil, q_aCons, q_eTup, q_eLst, q_aSmall, q_eCB, q_eIxOwn, q_eLenOwn, q_oNo, q_oOf, q_eSl, q_eCall, q_eCallK, q_iSeq, q_cYes, q_eLC, q_sExp, q_sNil, q_sSeq, q_sBad, q_sBrk, q_sCont, q_sRet, q_sRetN, q_sDrop, q_sIf, q_sSet, q_sSetOwn, q_sFz, q_sApp, q_sPut, q_sPutC, q_sSetCell, q_sAsg, q_sPar, q_sPar3, q_eCallL, q_eLC2, q_eNewC, q_iZip, q_sRaise, q_sTry, Rs.bind, op1, op2, opL, gAdd, gSub, gI2, gLt, gLe, gGt, gGe, gCmp, gIx, gLen, gInt, seqOf, gNeg, q_max2, q_min2, gTuple, gVar, gTupM, gsCons, gsNil, frz1, ownOf, noX, wipeE, e], hh, rfl⟩
          · rintro ys S' hl hq rfl
            exact ⟨_, _, rfl, _, _, rfl, rfl, .inr ⟨ys, vs, rfl, .inl rfl, hl, by omega, hs_of hl hq⟩⟩
    obtain ⟨d, S', e, rfl, h⟩ := key
    exact ⟨d, e, h⟩
theorem either_ok {row : D} (hr : RowOk row) {w : Nat} (hw : w ≤ 100) : ∀ (n f : Nat) (v : D) (S : Sto), Vd w n v → n < f → Sp S → ∃ h S', m_f_law_either f [row, .cell 0, v] S = .ok h S' ∧ Hl n h v ∧ Sp S'
  | n, 0, v, S, _, hf, _ => by omega
  | n, f + 1, v, S, hv, hf, hs => by
    show ∃ d S', bodyM 5 (b_f_law_either (m_f_law_either f)) [row, .cell 0, v] S = .ok d S' ∧ Hl n d v ∧ Sp S'
    apply body_ret
    unfold b_f_law_either
    by_cases ha : atomB v = true
    · exact sq_ifF (S1 := S) (by simp [bodyM, startE, q_eVar, q_eC, q_eBin, q_eChain, q_eUn, q_eNot, q_eAnd, q_eOr, q_eIf, q_aNil, q_aCons, q_eTup, q_eLst, q_aSmall, q_eCB, q_eIxOwn, q_eLenOwn, q_oNo, q_oOf, q_eSl, q_eCall, q_eCallK, q_iSeq, q_cYes, q_eLC, q_sExp, q_sNil, q_sSeq, q_sBad, q_sBrk, q_sCont, q_sRet, q_sRetN, q_sDrop, q_sIf, q_sSet, q_sSetOwn, q_sFz, q_sApp, q_sPut, q_sPutC, q_sSetCell, q_sAsg, q_sPar, q_sPar3, q_eCallL, q_eLC2, q_eNewC, q_iZip, q_sRaise, q_sTry, Rs.bind, op1, op2, opL, gAdd, gSub, gI2, gLt, gLe, gGt, gGe, gCmp, gIx, gLen, gInt, seqOf, gNeg, q_max2, q_min2, gTuple, gVar, gTupM, gsCons, gsNil, frz1, ownOf, noX, wipeE, isTup_atom ha]) (ws_ret (d := v) (S1 := S) (by simp [bodyM, startE, q_eVar, q_eC, q_eBin, q_eChain, q_eUn, q_eNot, q_eAnd, q_eOr, q_eIf, q_aNil, q_aCons, q_eTup, q_eLst, q_aSmall, q_eCB, q_eIxOwn, q_eLenOwn, q_oNo, q_oOf, q_eSl, q_eCall, q_eCallK, q_iSeq, q_cYes, q_eLC, q_sExp, q_sNil, q_sSeq, q_sBad, q_sBrk, q_sCont, q_sRet, q_sRetN, q_sDrop, q_sIf, q_sSet, q_sSetOwn, q_sFz, q_sApp, q_sPut, q_sPutC, q_sSetCell, q_sAsg, q_sPar, q_sPar3, q_eCallL, q_eLC2, q_eNewC, q_iZip, q_sRaise, q_sTry, Rs.bind, op1, op2, opL, gAdd, gSub, gI2, gLt, gLe, gGt, gGe, gCmp, gIx, gLen, gInt, seqOf, gNeg, q_max2, q_min2, gTuple, gVar, gTupM, gsCons, gsNil, frz1, ownOf, noX, wipeE]) ⟨_, _, rfl, Hl.atom ha, hs⟩)
    · cases n with
      | zero => exact absurd hv ha
      | succ n =>
        rcases hv with h | ⟨vs, rfl, hvs, hx⟩
        · exact absurd h ha
        · refine sq_retT (S1 := S) (by simp [bodyM, startE, q_eVar, q_eC, q_eBin, q_eChain, q_eUn, q_eNot, q_eAnd, q_eOr, q_eIf, q_aNil, q_aCons, q_eTup, q_eLst, q_aSmall, q_eCB, q_eIxOwn, q_eLenOwn, q_oNo, q_oOf, q_eSl, q_eCall, q_eCallK, q_iSeq, q_cYes, q_eLC, q_sExp, q_sNil, q_sSeq, q_sBad, q_sBrk, q_sCont, q_sRet, q_sRetN, q_sDrop, q_sIf, q_sSet, q_sSetOwn, q_sFz, q_sApp, q_sPut, q_sPutC, q_sSetCell, q_sAsg, q_sPar, q_sPar3, q_eCallL, q_eLC2, q_eNewC, q_iZip, q_sRaise, q_sTry, Rs.bind, op1, op2, opL, gAdd, gSub, gI2, gLt, gLe, gGt, gGe, gCmp, gIx, gLen, gInt, seqOf, gNeg, q_max2, q_min2, gTuple, gVar, gTupM, gsCons, gsNil, frz1, ownOf, noX, wipeE, isTup_tup]) ?_
          refine sq_setE (we_lc (xs := vs) (S1 := S) Sp (fun _ x y => Hl n y x) (by simp [bodyM, startE, q_eVar, q_eC, q_eBin, q_eChain, q_eUn, q_eNot, q_eAnd, q_eOr, q_eIf, q_aNil, q_aCons, q_eTup, q_eLst, q_aSmall, q_eCB, q_eIxOwn, q_eLenOwn, q_oNo, q_oOf, q_eSl, q_eCall, q_eCallK, q_iSeq, q_cYes, q_eLC, q_sExp, q_sNil, q_sSeq, q_sBad, q_sBrk, q_sCont, q_sRet, q_sRetN, q_sDrop, q_sIf, q_sSet, q_sSetOwn, q_sFz, q_sApp, q_sPut, q_sPutC, q_sSetCell, q_sAsg, q_sPar, q_sPar3, q_eCallL, q_eLC2, q_eNewC, q_iZip, q_sRaise, q_sTry, Rs.bind, op1, op2, opL, gAdd, gSub, gI2, gLt, gLe, gGt, gGe, gCmp, gIx, gLen, gInt, seqOf, gNeg, q_max2, q_min2, gTuple, gVar, gTupM, gsCons, gsNil, frz1, ownOf, noX, wipeE]) hs ?_ ?_)
          · intro j x S' hj hs'
            obtain ⟨h, S2, e, hh, hs2⟩ := either_ok hr hw n f x S' (hx x (List.mem_of_getElem? hj)) (by omega) hs'
            exact ⟨_, h, S2, rfl, by simp [bodyM, startE, q_eVar, q_eC, q_eBin, q_eChain, q_eUn, q_eNot, q_eAnd, q_eOr, q_eIf, q_aNil, q_aCons, q_eTup, q_eLst, q_aSmall, q_eCB, q_eIxOwn, q_eLenOwn, q_oNo, q_oOf, q_eSl, q_eCall, q_eCallK, q_iSeq, q_cYes, q_eLC, q_sExp, q_sNil, q_sSeq, q_sBad, q_sBrk, q_sCont, q_sRet, q_sRetN, q_sDrop, q_sIf, q_sSet, q_sSetOwn, q_sFz, q_sApp, q_sPut, q_sPutC, q_sSetCell, q_sAsg, q_sPar, q_sPar3, q_eCallL, q_eLC2, q_eNewC, q_iZip, q_sRaise, q_sTry, Rs.bind, op1, op2, opL, gAdd, gSub, gI2, gLt, gLe, gGt, gGe, gCmp, gIx, gLen, gInt, seqOf, gNeg, q_max2, q_min2, gTuple, gVar, gTupM, gsCons, gsNil, frz1, ownOf, noX, wipeE, e], hh, hs2⟩
          · intro ys S1 hl hq hs1
            obtain ⟨k, S2, e2, hk, hs2⟩ := take_ok hr (lim := 2) (by decide) hs1
            have hz : ys.length ≤ sizeLine := ten_size (by omega)
            by_cases h0 : k = 0
            · exact ws_ret (d := .lst ys) (S1 := S2) (by simp [bodyM, startE, q_eVar, q_eC, q_eBin, q_eChain, q_eUn, q_eNot, q_eAnd, q_eOr, q_eIf, q_aNil, q_aCons, q_eTup, q_eLst, q_aSmall, q_eCB, q_eIxOwn, q_eLenOwn, q_oNo, q_oOf, q_eSl, q_eCall, q_eCallK, q_iSeq, q_cYes, q_eLC, q_sExp, q_sNil, q_sSeq, q_sBad, q_sBrk, q_sCont, q_sRet, q_sRetN, q_sDrop, q_sIf, q_sSet, q_sSetOwn, q_sFz, q_sApp, q_sPut, q_sPutC, q_sSetCell, q_sAsg, q_sPar, q_sPar3, q_eCallL, q_eLC2, q_eNewC, q_iZip, q_sRaise, q_sTry, Rs.bind, op1, op2, opL, gAdd, gSub, gI2, gLt, gLe, gGt, gGe, gCmp, gIx, gLen, gInt, seqOf, gNeg, q_max2, q_min2, gTuple, gVar, gTupM, gsCons, gsNil, frz1, ownOf, noX, wipeE, e2, q_eq_int, h0]) ⟨_, _, rfl, _, _, rfl, .inr ⟨ys, vs, rfl, .inl rfl, hl, by omega, hs_of hl hq⟩, hs2⟩
            · exact ws_ret (d := .tup ys) (S1 := S2) (by simp [bodyM, startE, q_eVar, q_eC, q_eBin, q_eChain, q_eUn, q_eNot, q_eAnd, q_eOr, q_eIf, q_aNil, q_aCons, q_eTup, q_eLst, q_aSmall, q_eCB, q_eIxOwn, q_eLenOwn, q_oNo, q_oOf, q_eSl, q_eCall, q_eCallK, q_iSeq, q_cYes, q_eLC, q_sExp, q_sNil, q_sSeq, q_sBad, q_sBrk, q_sCont, q_sRet, q_sRetN, q_sDrop, q_sIf, q_sSet, q_sSetOwn, q_sFz, q_sApp, q_sPut, q_sPutC, q_sSetCell, q_sAsg, q_sPar, q_sPar3, q_eCallL, q_eLC2, q_eNewC, q_iZip, q_sRaise, q_sTry, Rs.bind, op1, op2, opL, gAdd, gSub, gI2, gLt, gLe, gGt, gGe, gCmp, gIx, gLen, gInt, seqOf, gNeg, q_max2, q_min2, gTuple, gVar, gTupM, gsCons, gsNil, frz1, ownOf, noX, wipeE, e2, q_eq_int, h0, hz]) ⟨_, _, rfl, _, _, rfl, .inr ⟨ys, vs, rfl, .inr rfl, hl, by omega, hs_of hl hq⟩, hs2⟩
theorem handed_ok {row : D} (hr : RowOk row) {w n : Nat} (hw : w ≤ 100) (hn : n ≤ 10) {v : D} (hv : Vd w n v) {S : Sto} (hs : Sp S) : ∃ h S', m_f_law_handed [row, .cell 0, v] S = .ok h S' ∧ Hl n h v ∧ Sp S' := by
  unfold m_f_law_handed
  apply body_ret
  unfold b_f_law_handed
  obtain ⟨k, S1, e1, hk, hs1⟩ := take_ok hr (lim := 3) (by decide) hs
  refine sq_set (d := .int k) (S1 := S1) (by simp [bodyM, startE, q_eVar, q_eC, q_eBin, q_eChain, q_eUn, q_eNot, q_eAnd, q_eOr, q_eIf, q_aNil, q_aCons, q_eTup, q_eLst, q_aSmall, q_eCB, q_eIxOwn, q_eLenOwn, q_oNo, q_oOf, q_eSl, q_eCall, q_eCallK, q_iSeq, q_cYes, q_eLC, q_sExp, q_sNil, q_sSeq, q_sBad, q_sBrk, q_sCont, q_sRet, q_sRetN, q_sDrop, q_sIf, q_sSet, q_sSetOwn, q_sFz, q_sApp, q_sPut, q_sPutC, q_sSetCell, q_sAsg, q_sPar, q_sPar3, q_eCallL, q_eLC2, q_eNewC, q_iZip, q_sRaise, q_sTry, Rs.bind, op1, op2, opL, gAdd, gSub, gI2, gLt, gLe, gGt, gGe, gCmp, gIx, gLen, gInt, seqOf, gNeg, q_max2, q_min2, gTuple, gVar, gTupM, gsCons, gsNil, frz1, ownOf, noX, wipeE, e1]) ?_
  by_cases h2 : k = 2
  · obtain ⟨h, S2, e2, hh, hs2⟩ := either_ok hr hw n 12 v S1 hv (by omega) hs1
    exact sq_retT (S1 := S1) (by simp [bodyM, startE, q_eVar, q_eC, q_eBin, q_eChain, q_eUn, q_eNot, q_eAnd, q_eOr, q_eIf, q_aNil, q_aCons, q_eTup, q_eLst, q_aSmall, q_eCB, q_eIxOwn, q_eLenOwn, q_oNo, q_oOf, q_eSl, q_eCall, q_eCallK, q_iSeq, q_cYes, q_eLC, q_sExp, q_sNil, q_sSeq, q_sBad, q_sBrk, q_sCont, q_sRet, q_sRetN, q_sDrop, q_sIf, q_sSet, q_sSetOwn, q_sFz, q_sApp, q_sPut, q_sPutC, q_sSetCell, q_sAsg, q_sPar, q_sPar3, q_eCallL, q_eLC2, q_eNewC, q_iZip, q_sRaise, q_sTry, Rs.bind, op1, op2, opL, gAdd, gSub, gI2, gLt, gLe, gGt, gGe, gCmp, gIx, gLen, gInt, seqOf, gNeg, q_max2, q_min2, gTuple, gVar, gTupM, gsCons, gsNil, frz1, ownOf, noX, wipeE, q_eq_int, h2]) (ws_ret (d := h) (S1 := S2) (by simp [bodyM, startE, q_eVar, q_eC, q_eBin, q_eChain, q_eUn, q_eNot, q_eAnd, q_eOr, q_eIf, q_aNil, q_aCons, q_eTup, q_eLst, q_aSmall, q_eCB, q_eIxOwn, q_eLenOwn, q_oNo, q_oOf, q_eSl, q_eCall, q_eCallK, q_iSeq, q_cYes, q_eLC, q_sExp, q_sNil, q_sSeq, q_sBad, q_sBrk, q_sCont, q_sRet, q_sRetN, q_sDrop, q_sIf, q_sSet, q_sSetOwn, q_sFz, q_sApp, q_sPut, q_sPutC, q_sSetCell, q_sAsg, q_sPar, q_sPar3, q_eCallL, q_eLC2, q_eNewC, q_iZip, q_sRaise, q_sTry, Rs.bind, op1, op2, opL, gAdd, gSub, gI2, gLt, gLe, gGt, gGe, gCmp, gIx, gLen, gInt, seqOf, gNeg, q_max2, q_min2, gTuple, gVar, gTupM, gsCons, gsNil, frz1, ownOf, noX, wipeE, e2]) ⟨_, _, rfl, _, _, rfl, hh, hs2⟩)
  · refine sq_ifF (S1 := S1) (by simp [bodyM, startE, q_eVar, q_eC, q_eBin, q_eChain, q_eUn, q_eNot, q_eAnd, q_eOr, q_eIf, q_aNil, q_aCons, q_eTup, q_eLst, q_aSmall, q_eCB, q_eIxOwn, q_eLenOwn, q_oNo, q_oOf, q_eSl, q_eCall, q_eCallK, q_iSeq, q_cYes, q_eLC, q_sExp, q_sNil, q_sSeq, q_sBad, q_sBrk, q_sCont, q_sRet, q_sRetN, q_sDrop, q_sIf, q_sSet, q_sSetOwn, q_sFz, q_sApp, q_sPut, q_sPutC, q_sSetCell, q_sAsg, q_sPar, q_sPar3, q_eCallL, q_eLC2, q_eNewC, q_iZip, q_sRaise, q_sTry, Rs.bind, op1, op2, opL, gAdd, gSub, gI2, gLt, gLe, gGt, gGe, gCmp, gIx, gLen, gInt, seqOf, gNeg, q_max2, q_min2, gTuple, gVar, gTupM, gsCons, gsNil, frz1, ownOf, noX, wipeE, q_eq_int, h2]) ?_
    by_cases h0 : k = 0
    · obtain ⟨h, e2, hh⟩ := listed_ok hw n 12 v S1 hv (by omega)
      exact ws_ret (d := h) (S1 := S1) (by simp [bodyM, startE, q_eVar, q_eC, q_eBin, q_eChain, q_eUn, q_eNot, q_eAnd, q_eOr, q_eIf, q_aNil, q_aCons, q_eTup, q_eLst, q_aSmall, q_eCB, q_eIxOwn, q_eLenOwn, q_oNo, q_oOf, q_eSl, q_eCall, q_eCallK, q_iSeq, q_cYes, q_eLC, q_sExp, q_sNil, q_sSeq, q_sBad, q_sBrk, q_sCont, q_sRet, q_sRetN, q_sDrop, q_sIf, q_sSet, q_sSetOwn, q_sFz, q_sApp, q_sPut, q_sPutC, q_sSetCell, q_sAsg, q_sPar, q_sPar3, q_eCallL, q_eLC2, q_eNewC, q_iZip, q_sRaise, q_sTry, Rs.bind, op1, op2, opL, gAdd, gSub, gI2, gLt, gLe, gGt, gGe, gCmp, gIx, gLen, gInt, seqOf, gNeg, q_max2, q_min2, gTuple, gVar, gTupM, gsCons, gsNil, frz1, ownOf, noX, wipeE, q_eq_int, h0, e2]) ⟨_, _, rfl, hh, hs1⟩
    · exact ws_ret (d := v) (S1 := S1) (by simp [bodyM, startE, q_eVar, q_eC, q_eBin, q_eChain, q_eUn, q_eNot, q_eAnd, q_eOr, q_eIf, q_aNil, q_aCons, q_eTup, q_eLst, q_aSmall, q_eCB, q_eIxOwn, q_eLenOwn, q_oNo, q_oOf, q_eSl, q_eCall, q_eCallK, q_iSeq, q_cYes, q_eLC, q_sExp, q_sNil, q_sSeq, q_sBad, q_sBrk, q_sCont, q_sRet, q_sRetN, q_sDrop, q_sIf, q_sSet, q_sSetOwn, q_sFz, q_sApp, q_sPut, q_sPutC, q_sSetCell, q_sAsg, q_sPar, q_sPar3, q_eCallL, q_eLC2, q_eNewC, q_iZip, q_sRaise, q_sTry, Rs.bind, op1, op2, opL, gAdd, gSub, gI2, gLt, gLe, gGt, gGe, gCmp, gIx, gLen, gInt, seqOf, gNeg, q_max2, q_min2, gTuple, gVar, gTupM, gsCons, gsNil, frz1, ownOf, noX, wipeE, q_eq_int, h0]) ⟨_, _, rfl, Hl.refl hw hv, hs1⟩
theorem tupled_ok : ∀ (n f : Nat) (h v : D) (S : Sto), Hl n h v → n < f → m_f_law_tupled f [h] S = .ok v S
  | n, 0, h, v, S, _, hf => by omega
  | n, f + 1, h, v, S, hh, hf => by
    have key : ∃ d S', bodyM 2 (b_f_law_tupled (m_f_law_tupled f)) [h] S = .ok d S' ∧ S' = S ∧ d = v := by
      apply body_ret
      unfold b_f_law_tupled
      by_cases ha : h = v ∧ atomB v = true
      · obtain ⟨rfl, ha⟩ := ha
        exact sq_ifF (S1 := S) (by simp [bodyM, startE, q_eVar, q_eC, q_eBin, q_eChain, q_eUn, q_eNot, q_eAnd, q_eOr, q_eIf, q_aNil, q_aCons, q_eTup, q_eLst, q_aSmall, q_eCB, q_eIxOwn, q_eLenOwn, q_oNo, q_oOf, q_eSl, q_eCall, q_eCallK, q_iSeq, q_cYes, q_eLC, q_sExp, q_sNil, q_sSeq, q_sBad, q_sBrk, q_sCont, q_sRet, q_sRetN, q_sDrop, q_sIf, q_sSet, q_sSetOwn, q_sFz, q_sApp, q_sPut, q_sPutC, q_sSetCell, q_sAsg, q_sPar, q_sPar3, q_eCallL, q_eLC2, q_eNewC, q_iZip, q_sRaise, q_sTry, Rs.bind, op1, op2, opL, gAdd, gSub, gI2, gLt, gLe, gGt, gGe, gCmp, gIx, gLen, gInt, seqOf, gNeg, q_max2, q_min2, gTuple, gVar, gTupM, gsCons, gsNil, frz1, ownOf, noX, wipeE, isTup_atom ha, isLst_atom ha]) (ws_ret (d := h) (S1 := S) (by simp [bodyM, startE, q_eVar, q_eC, q_eBin, q_eChain, q_eUn, q_eNot, q_eAnd, q_eOr, q_eIf, q_aNil, q_aCons, q_eTup, q_eLst, q_aSmall, q_eCB, q_eIxOwn, q_eLenOwn, q_oNo, q_oOf, q_eSl, q_eCall, q_eCallK, q_iSeq, q_cYes, q_eLC, q_sExp, q_sNil, q_sSeq, q_sBad, q_sBrk, q_sCont, q_sRet, q_sRetN, q_sDrop, q_sIf, q_sSet, q_sSetOwn, q_sFz, q_sApp, q_sPut, q_sPutC, q_sSetCell, q_sAsg, q_sPar, q_sPar3, q_eCallL, q_eLC2, q_eNewC, q_iZip, q_sRaise, q_sTry, Rs.bind, op1, op2, opL, gAdd, gSub, gI2, gLt, gLe, gGt, gGe, gCmp, gIx, gLen, gInt, seqOf, gNeg, q_max2, q_min2, gTuple, gVar, gTupM, gsCons, gsNil, frz1, ownOf, noX, wipeE]) ⟨_, _, rfl, rfl, rfl⟩)
      · cases n with
        | zero => exact absurd hh ha
        | succ n =>
          rcases hh with h | ⟨hs, vs, rfl, hc, hl, hz, hx⟩
          · exact absurd h ha
          · have ec : (eOr (eUn (gIsi [.lst]) (eVar 0)) (eUn (gIsi [.tup]) (eVar 0))) (startE 2 [h]) S = .ok (.bl true) S := by
              rcases hc with rfl | rfl <;> rfl
            have es : (iSeq (eVar 0)) (startE 2 [h]) S = .ok hs S := by rcases hc with rfl | rfl <;> rfl
            refine sq_retT (S1 := S) ec ?_
            refine ws_retE (we_cb1 (we_lc (xs := hs) (S1 := S) (fun S' => S' = S) (fun k _ y => vs[k]? = some y) es rfl ?_ ?_))
            · rintro j x S' hj rfl
              have hj2 := (List.getElem?_eq_some_iff.mp hj).1
              have e2 := at_some (xs := vs) (j := j) (by omega)
              have e := tupled_ok n f x vs[j] S' (hx j x _ hj e2) (by omega)
              have el : (wipeE (startE 2 [h]) [1]).length = 2 := by simp [wipeE, startE]
              exact ⟨_, vs[j], S', rfl, by simp only [List.map]; simp [bodyM, startE, q_eVar, q_eC, q_eBin, q_eChain, q_eUn, q_eNot, q_eAnd, q_eOr, q_eIf, q_aNil, q_aCons, q_eTup, q_eLst, q_aSmall, q_eCB, q_eIxOwn, q_eLenOwn, q_oNo, q_oOf, q_eSl, q_eCall, q_eCallK, q_iSeq, q_cYes, q_eLC, q_sExp, q_sNil, q_sSeq, q_sBad, q_sBrk, q_sCont, q_sRet, q_sRetN, q_sDrop, q_sIf, q_sSet, q_sSetOwn, q_sFz, q_sApp, q_sPut, q_sPutC, q_sSetCell, q_sAsg, q_sPar, q_sPar3, q_eCallL, q_eLC2, q_eNewC, q_iZip, q_sRaise, q_sTry, Rs.bind, op1, op2, opL, gAdd, gSub, gI2, gLt, gLe, gGt, gGe, gCmp, gIx, gLen, gInt, seqOf, gNeg, q_max2, q_min2, gTuple, gVar, gTupM, gsCons, gsNil, frz1, ownOf, noX, wipeE, e], e2, rfl⟩
            · rintro ys S' hyl hq rfl
              have : ys = vs := by
                apply List.ext_getElem?
                intro k
                by_cases hk : k < ys.length
                · have e1 := at_some hk
                  rw [e1, hq k _ _ (at_some (xs := hs) (j := k) (by omega)) e1]
                · rw [List.getElem?_eq_none (by omega), List.getElem?_eq_none (by omega)]
              subst this
              exact ⟨.tup ys, by simp [bodyM, startE, q_eVar, q_eC, q_eBin, q_eChain, q_eUn, q_eNot, q_eAnd, q_eOr, q_eIf, q_aNil, q_aCons, q_eTup, q_eLst, q_aSmall, q_eCB, q_eIxOwn, q_eLenOwn, q_oNo, q_oOf, q_eSl, q_eCall, q_eCallK, q_iSeq, q_cYes, q_eLC, q_sExp, q_sNil, q_sSeq, q_sBad, q_sBrk, q_sCont, q_sRet, q_sRetN, q_sDrop, q_sIf, q_sSet, q_sSetOwn, q_sFz, q_sApp, q_sPut, q_sPutC, q_sSetCell, q_sAsg, q_sPar, q_sPar3, q_eCallL, q_eLC2, q_eNewC, q_iZip, q_sRaise, q_sTry, Rs.bind, op1, op2, opL, gAdd, gSub, gI2, gLt, gLe, gGt, gGe, gCmp, gIx, gLen, gInt, seqOf, gNeg, q_max2, q_min2, gTuple, gVar, gTupM, gsCons, gsNil, frz1, ownOf, noX, wipeE, ten_size (show ys.length ≤ 10000 by omega)], _, _, rfl, _, _, rfl, rfl, rfl⟩
    obtain ⟨d, S', e, rfl, rfl⟩ := key
    exact e
end KF
end

section
namespace KF
open PySem
theorem can_bl (i : Bool) : SeqAt.shaped (.bool i) = true := by
  unfold SeqAt.shaped
  simp [PyData.canLay0, PyData.depth]
theorem can_str {i : Str} (h : PyData.strOk i = true) : SeqAt.shaped (.str i) = true := by
  unfold SeqAt.shaped
  simp [PyData.canLay0, PyData.depth, h]
theorem q_eq_bl {i j : Bool} {S : Sto} : gEq (.bl i) (.bl j) S = some (.bl (i == j)) := by
  unfold gEq eqG
  simp only [toP, can_bl]
  cases i <;> cases j <;> simp [PyData.eqv]
theorem q_eq_str {i j : Str} (h : PyData.strOk i = true) (h' : PyData.strOk j = true) {S : Sto} : gEq (.str i) (.str j) S = some (.bl (i == j)) := by
  unfold gEq eqG
  simp only [toP, can_str h, can_str h']
  simp [PyData.eqv]
theorem so_bl (f : Nat) (a b : Bool) (S : Sto) : m_f_law_so (f + 1) [.bl a, .bl b] S = .ok (.bl (a == b)) S := by
  show bodyM 3 (b_f_law_so (m_f_law_so f)) [.bl a, .bl b] S = _
  unfold b_f_law_so
  simp [bodyM, startE, q_eVar, q_eC, q_eBin, q_eChain, q_eUn, q_eNot, q_eAnd, q_eOr, q_eIf, q_aNil, q_aCons, q_eTup, q_eLst, q_aSmall, q_eCB, q_eIxOwn, q_eLenOwn, q_oNo, q_oOf, q_eSl, q_eCall, q_eCallK, q_iSeq, q_cYes, q_eLC, q_sExp, q_sNil, q_sSeq, q_sBad, q_sBrk, q_sCont, q_sRet, q_sRetN, q_sDrop, q_sIf, q_sSet, q_sSetOwn, q_sFz, q_sApp, q_sPut, q_sPutC, q_sSetCell, q_sAsg, q_sPar, q_sPar3, q_eCallL, q_eLC2, q_eNewC, q_iZip, q_sRaise, q_sTry, Rs.bind, op1, op2, opL, gAdd, gSub, gI2, gLt, gLe, gGt, gGe, gCmp, gIx, gLen, gInt, seqOf, gNeg, q_max2, q_min2, gTuple, gVar, gTupM, gsCons, gsNil, frz1, ownOf, noX, wipeE, gIs, isNon, gIsi, tyD, isi, q_eq_bl]
theorem so_refl {w : Nat} (hw : w ≤ 1000) : ∀ (n f : Nat) (v : D) (S : Sto), Vd w n v → n < f → m_f_law_so f [v, v] S = .ok (.bl true) S
  | n, 0, v, S, _, hf => by omega
  | n, f + 1, v, S, hv, hf => by
    show bodyM 3 (b_f_law_so (m_f_law_so f)) [v, v] S = _
    have atom : atomB v = true → bodyM 3 (b_f_law_so (m_f_law_so f)) [v, v] S = .ok (.bl true) S := fun ha => by
      unfold b_f_law_so
      cases v <;> simp [atomB] at ha
      · simp [bodyM, startE, q_eVar, q_eC, q_eBin, q_eChain, q_eUn, q_eNot, q_eAnd, q_eOr, q_eIf, q_aNil, q_aCons, q_eTup, q_eLst, q_aSmall, q_eCB, q_eIxOwn, q_eLenOwn, q_oNo, q_oOf, q_eSl, q_eCall, q_eCallK, q_iSeq, q_cYes, q_eLC, q_sExp, q_sNil, q_sSeq, q_sBad, q_sBrk, q_sCont, q_sRet, q_sRetN, q_sDrop, q_sIf, q_sSet, q_sSetOwn, q_sFz, q_sApp, q_sPut, q_sPutC, q_sSetCell, q_sAsg, q_sPar, q_sPar3, q_eCallL, q_eLC2, q_eNewC, q_iZip, q_sRaise, q_sTry, Rs.bind, op1, op2, opL, gAdd, gSub, gI2, gLt, gLe, gGt, gGe, gCmp, gIx, gLen, gInt, seqOf, gNeg, q_max2, q_min2, gTuple, gVar, gTupM, gsCons, gsNil, frz1, ownOf, noX, wipeE, gIs, isNon, gIsi, tyD, isi]
      · simp [bodyM, startE, q_eVar, q_eC, q_eBin, q_eChain, q_eUn, q_eNot, q_eAnd, q_eOr, q_eIf, q_aNil, q_aCons, q_eTup, q_eLst, q_aSmall, q_eCB, q_eIxOwn, q_eLenOwn, q_oNo, q_oOf, q_eSl, q_eCall, q_eCallK, q_iSeq, q_cYes, q_eLC, q_sExp, q_sNil, q_sSeq, q_sBad, q_sBrk, q_sCont, q_sRet, q_sRetN, q_sDrop, q_sIf, q_sSet, q_sSetOwn, q_sFz, q_sApp, q_sPut, q_sPutC, q_sSetCell, q_sAsg, q_sPar, q_sPar3, q_eCallL, q_eLC2, q_eNewC, q_iZip, q_sRaise, q_sTry, Rs.bind, op1, op2, opL, gAdd, gSub, gI2, gLt, gLe, gGt, gGe, gCmp, gIx, gLen, gInt, seqOf, gNeg, q_max2, q_min2, gTuple, gVar, gTupM, gsCons, gsNil, frz1, ownOf, noX, wipeE, gIs, isNon, gIsi, tyD, isi, q_eq_bl]
      · simp [bodyM, startE, q_eVar, q_eC, q_eBin, q_eChain, q_eUn, q_eNot, q_eAnd, q_eOr, q_eIf, q_aNil, q_aCons, q_eTup, q_eLst, q_aSmall, q_eCB, q_eIxOwn, q_eLenOwn, q_oNo, q_oOf, q_eSl, q_eCall, q_eCallK, q_iSeq, q_cYes, q_eLC, q_sExp, q_sNil, q_sSeq, q_sBad, q_sBrk, q_sCont, q_sRet, q_sRetN, q_sDrop, q_sIf, q_sSet, q_sSetOwn, q_sFz, q_sApp, q_sPut, q_sPutC, q_sSetCell, q_sAsg, q_sPar, q_sPar3, q_eCallL, q_eLC2, q_eNewC, q_iZip, q_sRaise, q_sTry, Rs.bind, op1, op2, opL, gAdd, gSub, gI2, gLt, gLe, gGt, gGe, gCmp, gIx, gLen, gInt, seqOf, gNeg, q_max2, q_min2, gTuple, gVar, gTupM, gsCons, gsNil, frz1, ownOf, noX, wipeE, gIs, isNon, gIsi, tyD, isi, q_eq_int]
      · simp [bodyM, startE, q_eVar, q_eC, q_eBin, q_eChain, q_eUn, q_eNot, q_eAnd, q_eOr, q_eIf, q_aNil, q_aCons, q_eTup, q_eLst, q_aSmall, q_eCB, q_eIxOwn, q_eLenOwn, q_oNo, q_oOf, q_eSl, q_eCall, q_eCallK, q_iSeq, q_cYes, q_eLC, q_sExp, q_sNil, q_sSeq, q_sBad, q_sBrk, q_sCont, q_sRet, q_sRetN, q_sDrop, q_sIf, q_sSet, q_sSetOwn, q_sFz, q_sApp, q_sPut, q_sPutC, q_sSetCell, q_sAsg, q_sPar, q_sPar3, q_eCallL, q_eLC2, q_eNewC, q_iZip, q_sRaise, q_sTry, Rs.bind, op1, op2, opL, gAdd, gSub, gI2, gLt, gLe, gGt, gGe, gCmp, gIx, gLen, gInt, seqOf, gNeg, q_max2, q_min2, gTuple, gVar, gTupM, gsCons, gsNil, frz1, ownOf, noX, wipeE, gIs, isNon, gIsi, tyD, isi, q_eq_str ha ha]
    cases n with
    | zero => exact atom hv
    | succ n =>
      rcases hv with ha | ⟨vs, rfl, hvs, hx⟩
      · exact atom ha
      · have key : ∃ d S', bodyM 3 (b_f_law_so (m_f_law_so f)) [.tup vs, .tup vs] S = .ok d S' ∧ S' = S ∧ d = .bl true := by
          apply body_ret
          unfold b_f_law_so
          refine sq_ifF (S1 := S) (by simp [bodyM, startE, q_eVar, q_eC, q_eBin, q_eChain, q_eUn, q_eNot, q_eAnd, q_eOr, q_eIf, q_aNil, q_aCons, q_eTup, q_eLst, q_aSmall, q_eCB, q_eIxOwn, q_eLenOwn, q_oNo, q_oOf, q_eSl, q_eCall, q_eCallK, q_iSeq, q_cYes, q_eLC, q_sExp, q_sNil, q_sSeq, q_sBad, q_sBrk, q_sCont, q_sRet, q_sRetN, q_sDrop, q_sIf, q_sSet, q_sSetOwn, q_sFz, q_sApp, q_sPut, q_sPutC, q_sSetCell, q_sAsg, q_sPar, q_sPar3, q_eCallL, q_eLC2, q_eNewC, q_iZip, q_sRaise, q_sTry, Rs.bind, op1, op2, opL, gAdd, gSub, gI2, gLt, gLe, gGt, gGe, gCmp, gIx, gLen, gInt, seqOf, gNeg, q_max2, q_min2, gTuple, gVar, gTupM, gsCons, gsNil, frz1, ownOf, noX, wipeE, gIs, isNon]) ?_
          refine sq_retT (S1 := S) (by simp [bodyM, startE, q_eVar, q_eC, q_eBin, q_eChain, q_eUn, q_eNot, q_eAnd, q_eOr, q_eIf, q_aNil, q_aCons, q_eTup, q_eLst, q_aSmall, q_eCB, q_eIxOwn, q_eLenOwn, q_oNo, q_oOf, q_eSl, q_eCall, q_eCallK, q_iSeq, q_cYes, q_eLC, q_sExp, q_sNil, q_sSeq, q_sBad, q_sBrk, q_sCont, q_sRet, q_sRetN, q_sDrop, q_sIf, q_sSet, q_sSetOwn, q_sFz, q_sApp, q_sPut, q_sPutC, q_sSetCell, q_sAsg, q_sPar, q_sPar3, q_eCallL, q_eLC2, q_eNewC, q_iZip, q_sRaise, q_sTry, Rs.bind, op1, op2, opL, gAdd, gSub, gI2, gLt, gLe, gGt, gGe, gCmp, gIx, gLen, gInt, seqOf, gNeg, q_max2, q_min2, gTuple, gVar, gTupM, gsCons, gsNil, frz1, ownOf, noX, wipeE, gIsi, tyD, isi]) ?_
          refine sq_ifF (S1 := S) (by simp [bodyM, startE, q_eVar, q_eC, q_eBin, q_eChain, q_eUn, q_eNot, q_eAnd, q_eOr, q_eIf, q_aNil, q_aCons, q_eTup, q_eLst, q_aSmall, q_eCB, q_eIxOwn, q_eLenOwn, q_oNo, q_oOf, q_eSl, q_eCall, q_eCallK, q_iSeq, q_cYes, q_eLC, q_sExp, q_sNil, q_sSeq, q_sBad, q_sBrk, q_sCont, q_sRet, q_sRetN, q_sDrop, q_sIf, q_sSet, q_sSetOwn, q_sFz, q_sApp, q_sPut, q_sPutC, q_sSetCell, q_sAsg, q_sPar, q_sPar3, q_eCallL, q_eLC2, q_eNewC, q_iZip, q_sRaise, q_sTry, Rs.bind, op1, op2, opL, gAdd, gSub, gI2, gLt, gLe, gGt, gGe, gCmp, gIx, gLen, gInt, seqOf, gNeg, q_max2, q_min2, gTuple, gVar, gTupM, gsCons, gsNil, frz1, ownOf, noX, wipeE, gIsi, tyD, isi, q_ne_int]) ?_
          refine sq_for (items := rangeD 0 vs.length) (S1 := S) (fun i ρ S' => ∃ a2 : Sl, ρ = [.val (.tup vs), .val (.tup vs), a2] ∧ S' = S) (rng1 (by simp [bodyM, startE, q_eVar, q_eC, q_eBin, q_eChain, q_eUn, q_eNot, q_eAnd, q_eOr, q_eIf, q_aNil, q_aCons, q_eTup, q_eLst, q_aSmall, q_eCB, q_eIxOwn, q_eLenOwn, q_oNo, q_oOf, q_eSl, q_eCall, q_eCallK, q_iSeq, q_cYes, q_eLC, q_sExp, q_sNil, q_sSeq, q_sBad, q_sBrk, q_sCont, q_sRet, q_sRetN, q_sDrop, q_sIf, q_sSet, q_sSetOwn, q_sFz, q_sApp, q_sPut, q_sPutC, q_sSetCell, q_sAsg, q_sPar, q_sPar3, q_eCallL, q_eLC2, q_eNewC, q_iZip, q_sRaise, q_sTry, Rs.bind, op1, op2, opL, gAdd, gSub, gI2, gLt, gLe, gGt, gGe, gCmp, gIx, gLen, gInt, seqOf, gNeg, q_max2, q_min2, gTuple, gVar, gTupM, gsCons, gsNil, frz1, ownOf, noX, wipeE]) (by omega)) ⟨_, rfl, rfl⟩ ?_ ?_
          · rintro i x ρ S' hx2 ⟨a2, rfl, rfl⟩
            obtain ⟨hi, rfl⟩ := range_at hx2
            refine ⟨_, rfl, ?_⟩
            have e1 := so_refl hw n f vs[i] S' (hx _ (List.getElem_mem hi)) (by omega)
            exact ws_ifF (S1 := S') (by simp [bodyM, startE, q_eVar, q_eC, q_eBin, q_eChain, q_eUn, q_eNot, q_eAnd, q_eOr, q_eIf, q_aNil, q_aCons, q_eTup, q_eLst, q_aSmall, q_eCB, q_eIxOwn, q_eLenOwn, q_oNo, q_oOf, q_eSl, q_eCall, q_eCallK, q_iSeq, q_cYes, q_eLC, q_sExp, q_sNil, q_sSeq, q_sBad, q_sBrk, q_sCont, q_sRet, q_sRetN, q_sDrop, q_sIf, q_sSet, q_sSetOwn, q_sFz, q_sApp, q_sPut, q_sPutC, q_sSetCell, q_sAsg, q_sPar, q_sPar3, q_eCallL, q_eLC2, q_eNewC, q_iZip, q_sRaise, q_sTry, Rs.bind, op1, op2, opL, gAdd, gSub, gI2, gLt, gLe, gGt, gGe, gCmp, gIx, gLen, gInt, seqOf, gNeg, q_max2, q_min2, gTuple, gVar, gTupM, gsCons, gsNil, frz1, ownOf, noX, wipeE, atI_nat hi, e1]) (ws_nil ⟨_, _, rfl, _, rfl, rfl⟩)
          · rintro ρ S' ⟨a2, rfl, rfl⟩
            exact ws_ret (d := .bl true) (S1 := S') (by simp [bodyM, startE, q_eVar, q_eC, q_eBin, q_eChain, q_eUn, q_eNot, q_eAnd, q_eOr, q_eIf, q_aNil, q_aCons, q_eTup, q_eLst, q_aSmall, q_eCB, q_eIxOwn, q_eLenOwn, q_oNo, q_oOf, q_eSl, q_eCall, q_eCallK, q_iSeq, q_cYes, q_eLC, q_sExp, q_sNil, q_sSeq, q_sBad, q_sBrk, q_sCont, q_sRet, q_sRetN, q_sDrop, q_sIf, q_sSet, q_sSetOwn, q_sFz, q_sApp, q_sPut, q_sPutC, q_sSetCell, q_sAsg, q_sPar, q_sPar3, q_eCallL, q_eLC2, q_eNewC, q_iZip, q_sRaise, q_sTry, Rs.bind, op1, op2, opL, gAdd, gSub, gI2, gLt, gLe, gGt, gGe, gCmp, gIx, gLen, gInt, seqOf, gNeg, q_max2, q_min2, gTuple, gVar, gTupM, gsCons, gsNil, frz1, ownOf, noX, wipeE]) ⟨_, _, rfl, _, _, rfl, rfl, rfl⟩
        obtain ⟨d, S', e, rfl, rfl⟩ := key
        exact e
/-! ### values changed in one place -/
def intB : D → Bool
  | .int _ => true | .str s => PyData.strOk s
  | _ => false
def Vi (w : Nat) : Nat → D → Prop
  | 0, d => intB d = true
  | n + 1, d => intB d = true ∨ ∃ xs, d = .tup xs ∧ xs.length ≤ w ∧ ∀ x ∈ xs, Vi w n x
theorem intB_atom {d : D} (h : intB d = true) : atomB d = true := by cases d <;> simp [intB] at h <;> first | rfl | exact h
theorem Vi.vd {w : Nat} : ∀ {n : Nat} {d : D}, Vi w n d → Vd w n d
  | 0, _, h => intB_atom h
  | n + 1, d, h => by
    rcases h with h | ⟨xs, e, hx, h⟩
    · exact .inl (intB_atom h)
    · exact .inr ⟨xs, e, hx, fun x hx => (h x hx).vd⟩
theorem cut_to {α : Type} {xs : List α} {k : Nat} (h : k ≤ xs.length) : cut xs none (some (k : Int)) = xs.take k := by
  unfold cut
  rw [HT.sIx_nat]
  show (xs.drop 0).take (min k xs.length - 0) = _
  rw [List.drop_zero, Nat.min_eq_left h, Nat.sub_zero]
theorem cut_from {α : Type} {xs : List α} {k : Nat} (h : k ≤ xs.length) : cut xs (some (k : Int)) none = xs.drop k := by
  unfold cut
  rw [HT.sIx_nat]
  show (xs.drop (min k xs.length)).take (xs.length - min k xs.length) = _
  rw [Nat.min_eq_left h, List.take_of_length_le (by rw [List.length_drop]; omega)]
theorem vd_row {w n : Nat} {xs : List D} {k : Int} (h0 : 0 ≤ k) (h : k < xs.length) (hx : ∀ x ∈ xs, Vd w n x) : ∃ d, L2.atI xs k = some d ∧ Vd w n d := by
  obtain ⟨d, e, hm⟩ := atI_mem h0 h
  exact ⟨d, e, hx d hm⟩
theorem vd3 {w n : Nat} {xs : List D} (hw : xs.length ≤ w) (h : ∀ x ∈ xs, atomB x = true) : Vd w (n + 1) (.tup xs) := .inr ⟨xs, rfl, hw, fun x hx => Vd.atom (h x hx)⟩
/-- the last row of odd values -/
theorem changed_last {row : D} (hr : RowOk row) {w n : Nat} (hw : 3 ≤ w) {ρ : Env} {S : Sto} (hs : Sp S) (h0 : ρ[0]? = some (.val row)) (h1 : ρ[1]? = some (.val (.cell 0))) :
    WS (sRet (eBin gIx (eLst (aSmall (aCons (eC .non) (aCons (eC (.int 7)) (aCons (eC (.bl true)) (aCons (eC (.str "")) (aCons (eTup aNil) (aCons (eTup (aCons (eC (.int 0)) (aCons (eC (.int 0)) aNil))) (aCons (eTup (aCons (eC (.str "any")) (aCons (eC (.str "any")) (aCons (eC (.str "any")) aNil)))) (aCons (eC (.str "any")) aNil)))))))))) (eCall 3 m_f_law_take (aCons (eVar 0) (aCons (eVar 1) (aCons (eC (.int 8)) aNil)))))) ρ S
      (fun r => ∃ d S', r = .ret d S' ∧ Vd (w + 1) (n + 1) d ∧ Sp S') := by
  obtain ⟨k, S1, e1, hk, hs1⟩ := take_ok hr (lim := 8) (by decide) hs
  obtain ⟨d, ed, hd⟩ := vd_row (w := w + 1) (n := n + 1) (xs := [D.non, .int 7, .bl true, .str "", .tup [], .tup [.int 0, .int 0], .tup [.str "any", .str "any", .str "any"], .str "any"]) hk.1 hk.2 (by
    intro x hx
    simp only [List.mem_cons, List.not_mem_nil, or_false] at hx
    rcases hx with rfl | rfl | rfl | rfl | rfl | rfl | rfl | rfl
    · exact Vd.atom rfl
    · exact Vd.atom rfl
    · exact Vd.atom rfl
    · exact Vd.atom (by decide +kernel)
    · exact vd3 (by simp) (by simp)
    · exact vd3 (by simp; omega) (by simp [atomB])
    · exact vd3 (by simp; omega) (by simp; decide +kernel)
    · exact Vd.atom (by decide +kernel))
  exact ws_ret (d := d) (S1 := S1) (by simp [bodyM, startE, q_eVar, q_eC, q_eBin, q_eChain, q_eUn, q_eNot, q_eAnd, q_eOr, q_eIf, q_aNil, q_aCons, q_eTup, q_eLst, q_aSmall, q_eCB, q_eIxOwn, q_eLenOwn, q_oNo, q_oOf, q_eSl, q_eCall, q_eCallK, q_iSeq, q_cYes, q_eLC, q_sExp, q_sNil, q_sSeq, q_sBad, q_sBrk, q_sCont, q_sRet, q_sRetN, q_sDrop, q_sIf, q_sSet, q_sSetOwn, q_sFz, q_sApp, q_sPut, q_sPutC, q_sSetCell, q_sAsg, q_sPar, q_sPar3, q_eCallL, q_eLC2, q_eNewC, q_iZip, q_sRaise, q_sTry, Rs.bind, op1, op2, opL, gAdd, gSub, gI2, gLt, gLe, gGt, gGe, gCmp, gIx, gLen, gInt, seqOf, gNeg, q_max2, q_min2, gTuple, gVar, gTupM, gsCons, gsNil, frz1, ownOf, noX, wipeE, h0, h1, e1, ed]) ⟨_, _, rfl, hd, hs1⟩
theorem vi_of {w n : Nat} {v : D} (hv : Vi w n v) : intB v = true ∨ ∃ m xs, n = m + 1 ∧ v = .tup xs ∧ xs.length ≤ w ∧ ∀ x ∈ xs, Vi w m x := by
  cases n with
  | zero => exact .inl hv
  | succ n =>
    rcases hv with h | ⟨xs, e, hx, h⟩
    · exact .inl h
    · exact .inr ⟨n, xs, rfl, e, hx, h⟩
theorem changed_ok {row : D} (hr : RowOk row) {w : Nat} (hw : 3 ≤ w ∧ w ≤ 90) : ∀ (n f : Nat) (v : D) (S : Sto), Vi w n v → n < f → Sp S → ∃ d S', m_f_law_changed_part f [row, .cell 0, v] S = .ok d S' ∧ Vd (w + 1) (n + 1) d ∧ Sp S'
  | n, 0, v, S, _, hf, _ => by omega
  | n, f + 1, v, S, hv, hf, hs => by
    show ∃ d S', bodyM 5 (b_f_law_changed_part (m_f_law_changed_part f)) [row, .cell 0, v] S = .ok d S' ∧ _
    apply body_ret
    unfold b_f_law_changed_part
    rcases vi_of hv with ha | ⟨m, xs, rfl, rfl, hxl, hx⟩
    · -- an int or a text
      have hT := isTup_atom (intB_atom ha)
      refine sq_ifF (S1 := S) (by simp [bodyM, startE, q_eVar, q_eC, q_eBin, q_eChain, q_eUn, q_eNot, q_eAnd, q_eOr, q_eIf, q_aNil, q_aCons, q_eTup, q_eLst, q_aSmall, q_eCB, q_eIxOwn, q_eLenOwn, q_oNo, q_oOf, q_eSl, q_eCall, q_eCallK, q_iSeq, q_cYes, q_eLC, q_sExp, q_sNil, q_sSeq, q_sBad, q_sBrk, q_sCont, q_sRet, q_sRetN, q_sDrop, q_sIf, q_sSet, q_sSetOwn, q_sFz, q_sApp, q_sPut, q_sPutC, q_sSetCell, q_sAsg, q_sPar, q_sPar3, q_eCallL, q_eLC2, q_eNewC, q_iZip, q_sRaise, q_sTry, Rs.bind, op1, op2, opL, gAdd, gSub, gI2, gLt, gLe, gGt, gGe, gCmp, gIx, gLen, gInt, seqOf, gNeg, q_max2, q_min2, gTuple, gVar, gTupM, gsCons, gsNil, frz1, ownOf, noX, wipeE, hT]) ?_
      obtain ⟨turn, S1, e1, hk, hs1⟩ := take_ok hr (lim := 5) (by decide) hs
      refine sq_set (d := .int turn) (S1 := S1) (by simp [bodyM, startE, q_eVar, q_eC, q_eBin, q_eChain, q_eUn, q_eNot, q_eAnd, q_eOr, q_eIf, q_aNil, q_aCons, q_eTup, q_eLst, q_aSmall, q_eCB, q_eIxOwn, q_eLenOwn, q_oNo, q_oOf, q_eSl, q_eCall, q_eCallK, q_iSeq, q_cYes, q_eLC, q_sExp, q_sNil, q_sSeq, q_sBad, q_sBrk, q_sCont, q_sRet, q_sRetN, q_sDrop, q_sIf, q_sSet, q_sSetOwn, q_sFz, q_sApp, q_sPut, q_sPutC, q_sSetCell, q_sAsg, q_sPar, q_sPar3, q_eCallL, q_eLC2, q_eNewC, q_iZip, q_sRaise, q_sTry, Rs.bind, op1, op2, opL, gAdd, gSub, gI2, gLt, gLe, gGt, gGe, gCmp, gIx, gLen, gInt, seqOf, gNeg, q_max2, q_min2, gTuple, gVar, gTupM, gsCons, gsNil, frz1, ownOf, noX, wipeE, e1]) ?_
      refine sq_ifF (S1 := S1) (by simp [bodyM, startE, q_eVar, q_eC, q_eBin, q_eChain, q_eUn, q_eNot, q_eAnd, q_eOr, q_eIf, q_aNil, q_aCons, q_eTup, q_eLst, q_aSmall, q_eCB, q_eIxOwn, q_eLenOwn, q_oNo, q_oOf, q_eSl, q_eCall, q_eCallK, q_iSeq, q_cYes, q_eLC, q_sExp, q_sNil, q_sSeq, q_sBad, q_sBrk, q_sCont, q_sRet, q_sRetN, q_sDrop, q_sIf, q_sSet, q_sSetOwn, q_sFz, q_sApp, q_sPut, q_sPutC, q_sSetCell, q_sAsg, q_sPar, q_sPar3, q_eCallL, q_eLC2, q_eNewC, q_iZip, q_sRaise, q_sTry, Rs.bind, op1, op2, opL, gAdd, gSub, gI2, gLt, gLe, gGt, gGe, gCmp, gIx, gLen, gInt, seqOf, gNeg, q_max2, q_min2, gTuple, gVar, gTupM, gsCons, gsNil, frz1, ownOf, noX, wipeE, hT]) ?_
      refine sq_ifF (S1 := S1) (by simp [bodyM, startE, q_eVar, q_eC, q_eBin, q_eChain, q_eUn, q_eNot, q_eAnd, q_eOr, q_eIf, q_aNil, q_aCons, q_eTup, q_eLst, q_aSmall, q_eCB, q_eIxOwn, q_eLenOwn, q_oNo, q_oOf, q_eSl, q_eCall, q_eCallK, q_iSeq, q_cYes, q_eLC, q_sExp, q_sNil, q_sSeq, q_sBad, q_sBrk, q_sCont, q_sRet, q_sRetN, q_sDrop, q_sIf, q_sSet, q_sSetOwn, q_sFz, q_sApp, q_sPut, q_sPutC, q_sSetCell, q_sAsg, q_sPar, q_sPar3, q_eCallL, q_eLC2, q_eNewC, q_iZip, q_sRaise, q_sTry, Rs.bind, op1, op2, opL, gAdd, gSub, gI2, gLt, gLe, gGt, gGe, gCmp, gIx, gLen, gInt, seqOf, gNeg, q_max2, q_min2, gTuple, gVar, gTupM, gsCons, gsNil, frz1, ownOf, noX, wipeE, hT]) ?_
      obtain ⟨k2, S2, e2, hk2, hs2⟩ := take_ok hr (lim := 8) (by decide) hs1
      cases v with
      | int i =>
        by_cases h3 : turn < 3
        · refine sq_retT (S1 := S1) (by simp [bodyM, startE, q_eVar, q_eC, q_eBin, q_eChain, q_eUn, q_eNot, q_eAnd, q_eOr, q_eIf, q_aNil, q_aCons, q_eTup, q_eLst, q_aSmall, q_eCB, q_eIxOwn, q_eLenOwn, q_oNo, q_oOf, q_eSl, q_eCall, q_eCallK, q_iSeq, q_cYes, q_eLC, q_sExp, q_sNil, q_sSeq, q_sBad, q_sBrk, q_sCont, q_sRet, q_sRetN, q_sDrop, q_sIf, q_sSet, q_sSetOwn, q_sFz, q_sApp, q_sPut, q_sPutC, q_sSetCell, q_sAsg, q_sPar, q_sPar3, q_eCallL, q_eLC2, q_eNewC, q_iZip, q_sRaise, q_sTry, Rs.bind, op1, op2, opL, gAdd, gSub, gI2, gLt, gLe, gGt, gGe, gCmp, gIx, gLen, gInt, seqOf, gNeg, q_max2, q_min2, gTuple, gVar, gTupM, gsCons, gsNil, frz1, ownOf, noX, wipeE, gIsi, tyD, isi, h3]) ?_
          obtain ⟨d, ed, hd⟩ := vd_row (w := w + 1) (n := n + 1) (xs := [D.int (i + 1), .int 99, .int 100, .int (-99), .int (-100), .non, .bl true, .int 0]) hk2.1 hk2.2 (by
            intro x hx
            simp only [List.mem_cons, List.not_mem_nil, or_false] at hx
            rcases hx with rfl | rfl | rfl | rfl | rfl | rfl | rfl | rfl <;> exact Vd.atom rfl)
          exact ws_ret (d := d) (S1 := S2) (by simp [bodyM, startE, q_eVar, q_eC, q_eBin, q_eChain, q_eUn, q_eNot, q_eAnd, q_eOr, q_eIf, q_aNil, q_aCons, q_eTup, q_eLst, q_aSmall, q_eCB, q_eIxOwn, q_eLenOwn, q_oNo, q_oOf, q_eSl, q_eCall, q_eCallK, q_iSeq, q_cYes, q_eLC, q_sExp, q_sNil, q_sSeq, q_sBad, q_sBrk, q_sCont, q_sRet, q_sRetN, q_sDrop, q_sIf, q_sSet, q_sSetOwn, q_sFz, q_sApp, q_sPut, q_sPutC, q_sSetCell, q_sAsg, q_sPar, q_sPar3, q_eCallL, q_eLC2, q_eNewC, q_iZip, q_sRaise, q_sTry, Rs.bind, op1, op2, opL, gAdd, gSub, gI2, gLt, gLe, gGt, gGe, gCmp, gIx, gLen, gInt, seqOf, gNeg, q_max2, q_min2, gTuple, gVar, gTupM, gsCons, gsNil, frz1, ownOf, noX, wipeE, e2, ed]) ⟨_, _, rfl, _, _, rfl, hd, hs2⟩
        · refine sq_ifF (S1 := S1) (by simp [bodyM, startE, q_eVar, q_eC, q_eBin, q_eChain, q_eUn, q_eNot, q_eAnd, q_eOr, q_eIf, q_aNil, q_aCons, q_eTup, q_eLst, q_aSmall, q_eCB, q_eIxOwn, q_eLenOwn, q_oNo, q_oOf, q_eSl, q_eCall, q_eCallK, q_iSeq, q_cYes, q_eLC, q_sExp, q_sNil, q_sSeq, q_sBad, q_sBrk, q_sCont, q_sRet, q_sRetN, q_sDrop, q_sIf, q_sSet, q_sSetOwn, q_sFz, q_sApp, q_sPut, q_sPutC, q_sSetCell, q_sAsg, q_sPar, q_sPar3, q_eCallL, q_eLC2, q_eNewC, q_iZip, q_sRaise, q_sTry, Rs.bind, op1, op2, opL, gAdd, gSub, gI2, gLt, gLe, gGt, gGe, gCmp, gIx, gLen, gInt, seqOf, gNeg, q_max2, q_min2, gTuple, gVar, gTupM, gsCons, gsNil, frz1, ownOf, noX, wipeE, gIsi, tyD, isi, h3]) ?_
          refine sq_ifF (S1 := S1) (by simp [bodyM, startE, q_eVar, q_eC, q_eBin, q_eChain, q_eUn, q_eNot, q_eAnd, q_eOr, q_eIf, q_aNil, q_aCons, q_eTup, q_eLst, q_aSmall, q_eCB, q_eIxOwn, q_eLenOwn, q_oNo, q_oOf, q_eSl, q_eCall, q_eCallK, q_iSeq, q_cYes, q_eLC, q_sExp, q_sNil, q_sSeq, q_sBad, q_sBrk, q_sCont, q_sRet, q_sRetN, q_sDrop, q_sIf, q_sSet, q_sSetOwn, q_sFz, q_sApp, q_sPut, q_sPutC, q_sSetCell, q_sAsg, q_sPar, q_sPar3, q_eCallL, q_eLC2, q_eNewC, q_iZip, q_sRaise, q_sTry, Rs.bind, op1, op2, opL, gAdd, gSub, gI2, gLt, gLe, gGt, gGe, gCmp, gIx, gLen, gInt, seqOf, gNeg, q_max2, q_min2, gTuple, gVar, gTupM, gsCons, gsNil, frz1, ownOf, noX, wipeE, gIsi, tyD, isi]) ?_
          exact changed_last hr hw.1 hs1 rfl rfl
      | str z =>
        refine sq_ifF (S1 := S1) (by simp [bodyM, startE, q_eVar, q_eC, q_eBin, q_eChain, q_eUn, q_eNot, q_eAnd, q_eOr, q_eIf, q_aNil, q_aCons, q_eTup, q_eLst, q_aSmall, q_eCB, q_eIxOwn, q_eLenOwn, q_oNo, q_oOf, q_eSl, q_eCall, q_eCallK, q_iSeq, q_cYes, q_eLC, q_sExp, q_sNil, q_sSeq, q_sBad, q_sBrk, q_sCont, q_sRet, q_sRetN, q_sDrop, q_sIf, q_sSet, q_sSetOwn, q_sFz, q_sApp, q_sPut, q_sPutC, q_sSetCell, q_sAsg, q_sPar, q_sPar3, q_eCallL, q_eLC2, q_eNewC, q_iZip, q_sRaise, q_sTry, Rs.bind, op1, op2, opL, gAdd, gSub, gI2, gLt, gLe, gGt, gGe, gCmp, gIx, gLen, gInt, seqOf, gNeg, q_max2, q_min2, gTuple, gVar, gTupM, gsCons, gsNil, frz1, ownOf, noX, wipeE, gIsi, tyD, isi]) ?_
        by_cases h3 : turn < 3
        · refine sq_retT (S1 := S1) (by simp [bodyM, startE, q_eVar, q_eC, q_eBin, q_eChain, q_eUn, q_eNot, q_eAnd, q_eOr, q_eIf, q_aNil, q_aCons, q_eTup, q_eLst, q_aSmall, q_eCB, q_eIxOwn, q_eLenOwn, q_oNo, q_oOf, q_eSl, q_eCall, q_eCallK, q_iSeq, q_cYes, q_eLC, q_sExp, q_sNil, q_sSeq, q_sBad, q_sBrk, q_sCont, q_sRet, q_sRetN, q_sDrop, q_sIf, q_sSet, q_sSetOwn, q_sFz, q_sApp, q_sPut, q_sPutC, q_sSetCell, q_sAsg, q_sPar, q_sPar3, q_eCallL, q_eLC2, q_eNewC, q_iZip, q_sRaise, q_sTry, Rs.bind, op1, op2, opL, gAdd, gSub, gI2, gLt, gLe, gGt, gGe, gCmp, gIx, gLen, gInt, seqOf, gNeg, q_max2, q_min2, gTuple, gVar, gTupM, gsCons, gsNil, frz1, ownOf, noX, wipeE, gIsi, tyD, isi, h3]) ?_
          obtain ⟨d, ed, hd⟩ := vd_row (w := w + 1) (n := n + 1) (xs := [D.str "any", .str "left", .str "right", .str "straight", .str "Any", .str "", .str "lef", .str "any "]) hk2.1 hk2.2 (by
            intro x hx
            simp only [List.mem_cons, List.not_mem_nil, or_false] at hx
            rcases hx with rfl | rfl | rfl | rfl | rfl | rfl | rfl | rfl <;> exact Vd.atom (by decide +kernel))
          exact ws_ret (d := d) (S1 := S2) (by simp [bodyM, startE, q_eVar, q_eC, q_eBin, q_eChain, q_eUn, q_eNot, q_eAnd, q_eOr, q_eIf, q_aNil, q_aCons, q_eTup, q_eLst, q_aSmall, q_eCB, q_eIxOwn, q_eLenOwn, q_oNo, q_oOf, q_eSl, q_eCall, q_eCallK, q_iSeq, q_cYes, q_eLC, q_sExp, q_sNil, q_sSeq, q_sBad, q_sBrk, q_sCont, q_sRet, q_sRetN, q_sDrop, q_sIf, q_sSet, q_sSetOwn, q_sFz, q_sApp, q_sPut, q_sPutC, q_sSetCell, q_sAsg, q_sPar, q_sPar3, q_eCallL, q_eLC2, q_eNewC, q_iZip, q_sRaise, q_sTry, Rs.bind, op1, op2, opL, gAdd, gSub, gI2, gLt, gLe, gGt, gGe, gCmp, gIx, gLen, gInt, seqOf, gNeg, q_max2, q_min2, gTuple, gVar, gTupM, gsCons, gsNil, frz1, ownOf, noX, wipeE, e2, ed]) ⟨_, _, rfl, _, _, rfl, hd, hs2⟩
        · refine sq_ifF (S1 := S1) (by simp [bodyM, startE, q_eVar, q_eC, q_eBin, q_eChain, q_eUn, q_eNot, q_eAnd, q_eOr, q_eIf, q_aNil, q_aCons, q_eTup, q_eLst, q_aSmall, q_eCB, q_eIxOwn, q_eLenOwn, q_oNo, q_oOf, q_eSl, q_eCall, q_eCallK, q_iSeq, q_cYes, q_eLC, q_sExp, q_sNil, q_sSeq, q_sBad, q_sBrk, q_sCont, q_sRet, q_sRetN, q_sDrop, q_sIf, q_sSet, q_sSetOwn, q_sFz, q_sApp, q_sPut, q_sPutC, q_sSetCell, q_sAsg, q_sPar, q_sPar3, q_eCallL, q_eLC2, q_eNewC, q_iZip, q_sRaise, q_sTry, Rs.bind, op1, op2, opL, gAdd, gSub, gI2, gLt, gLe, gGt, gGe, gCmp, gIx, gLen, gInt, seqOf, gNeg, q_max2, q_min2, gTuple, gVar, gTupM, gsCons, gsNil, frz1, ownOf, noX, wipeE, gIsi, tyD, isi, h3]) ?_
          exact changed_last hr hw.1 hs1 rfl rfl
      | _ => cases ha
    · have hT := isTup_tup (xs := xs)
      have hxd : ∀ x ∈ xs, Vd (w + 1) m x := fun x h => (hx x h).vd.wide (by omega)
      -- behind the first test
      have rest : ∀ (S1 : Sto), Sp S1 → ∀ {G : RS → Prop}, True := fun _ _ _ => trivial
      have hz1 : xs.length ≤ sizeLine := ten_size (by omega)
      by_cases h0 : xs.length = 0
      · have : xs = [] := List.eq_nil_of_length_eq_zero h0
        subst this
        refine sq_ifF (S1 := S) (by simp [bodyM, startE, q_eVar, q_eC, q_eBin, q_eChain, q_eUn, q_eNot, q_eAnd, q_eOr, q_eIf, q_aNil, q_aCons, q_eTup, q_eLst, q_aSmall, q_eCB, q_eIxOwn, q_eLenOwn, q_oNo, q_oOf, q_eSl, q_eCall, q_eCallK, q_iSeq, q_cYes, q_eLC, q_sExp, q_sNil, q_sSeq, q_sBad, q_sBrk, q_sCont, q_sRet, q_sRetN, q_sDrop, q_sIf, q_sSet, q_sSetOwn, q_sFz, q_sApp, q_sPut, q_sPutC, q_sSetCell, q_sAsg, q_sPar, q_sPar3, q_eCallL, q_eLC2, q_eNewC, q_iZip, q_sRaise, q_sTry, Rs.bind, op1, op2, opL, gAdd, gSub, gI2, gLt, gLe, gGt, gGe, gCmp, gIx, gLen, gInt, seqOf, gNeg, q_max2, q_min2, gTuple, gVar, gTupM, gsCons, gsNil, frz1, ownOf, noX, wipeE, hT]) ?_
        obtain ⟨turn, S1, e1, hk, hs1⟩ := take_ok hr (lim := 5) (by decide) hs
        refine sq_set (d := .int turn) (S1 := S1) (by simp [bodyM, startE, q_eVar, q_eC, q_eBin, q_eChain, q_eUn, q_eNot, q_eAnd, q_eOr, q_eIf, q_aNil, q_aCons, q_eTup, q_eLst, q_aSmall, q_eCB, q_eIxOwn, q_eLenOwn, q_oNo, q_oOf, q_eSl, q_eCall, q_eCallK, q_iSeq, q_cYes, q_eLC, q_sExp, q_sNil, q_sSeq, q_sBad, q_sBrk, q_sCont, q_sRet, q_sRetN, q_sDrop, q_sIf, q_sSet, q_sSetOwn, q_sFz, q_sApp, q_sPut, q_sPutC, q_sSetCell, q_sAsg, q_sPar, q_sPar3, q_eCallL, q_eLC2, q_eNewC, q_iZip, q_sRaise, q_sTry, Rs.bind, op1, op2, opL, gAdd, gSub, gI2, gLt, gLe, gGt, gGe, gCmp, gIx, gLen, gInt, seqOf, gNeg, q_max2, q_min2, gTuple, gVar, gTupM, gsCons, gsNil, frz1, ownOf, noX, wipeE, e1]) ?_
        refine sq_ifF (S1 := S1) (by by_cases ht : turn = 0 <;> simp [bodyM, startE, q_eVar, q_eC, q_eBin, q_eChain, q_eUn, q_eNot, q_eAnd, q_eOr, q_eIf, q_aNil, q_aCons, q_eTup, q_eLst, q_aSmall, q_eCB, q_eIxOwn, q_eLenOwn, q_oNo, q_oOf, q_eSl, q_eCall, q_eCallK, q_iSeq, q_cYes, q_eLC, q_sExp, q_sNil, q_sSeq, q_sBad, q_sBrk, q_sCont, q_sRet, q_sRetN, q_sDrop, q_sIf, q_sSet, q_sSetOwn, q_sFz, q_sApp, q_sPut, q_sPutC, q_sSetCell, q_sAsg, q_sPar, q_sPar3, q_eCallL, q_eLC2, q_eNewC, q_iZip, q_sRaise, q_sTry, Rs.bind, op1, op2, opL, gAdd, gSub, gI2, gLt, gLe, gGt, gGe, gCmp, gIx, gLen, gInt, seqOf, gNeg, q_max2, q_min2, gTuple, gVar, gTupM, gsCons, gsNil, frz1, ownOf, noX, wipeE, hT, q_eq_int, ht]) ?_
        refine sq_ifF (S1 := S1) (by by_cases ht : turn = 1 <;> simp [bodyM, startE, q_eVar, q_eC, q_eBin, q_eChain, q_eUn, q_eNot, q_eAnd, q_eOr, q_eIf, q_aNil, q_aCons, q_eTup, q_eLst, q_aSmall, q_eCB, q_eIxOwn, q_eLenOwn, q_oNo, q_oOf, q_eSl, q_eCall, q_eCallK, q_iSeq, q_cYes, q_eLC, q_sExp, q_sNil, q_sSeq, q_sBad, q_sBrk, q_sCont, q_sRet, q_sRetN, q_sDrop, q_sIf, q_sSet, q_sSetOwn, q_sFz, q_sApp, q_sPut, q_sPutC, q_sSetCell, q_sAsg, q_sPar, q_sPar3, q_eCallL, q_eLC2, q_eNewC, q_iZip, q_sRaise, q_sTry, Rs.bind, op1, op2, opL, gAdd, gSub, gI2, gLt, gLe, gGt, gGe, gCmp, gIx, gLen, gInt, seqOf, gNeg, q_max2, q_min2, gTuple, gVar, gTupM, gsCons, gsNil, frz1, ownOf, noX, wipeE, hT, q_eq_int, ht]) ?_
        refine sq_ifF (S1 := S1) (by simp [bodyM, startE, q_eVar, q_eC, q_eBin, q_eChain, q_eUn, q_eNot, q_eAnd, q_eOr, q_eIf, q_aNil, q_aCons, q_eTup, q_eLst, q_aSmall, q_eCB, q_eIxOwn, q_eLenOwn, q_oNo, q_oOf, q_eSl, q_eCall, q_eCallK, q_iSeq, q_cYes, q_eLC, q_sExp, q_sNil, q_sSeq, q_sBad, q_sBrk, q_sCont, q_sRet, q_sRetN, q_sDrop, q_sIf, q_sSet, q_sSetOwn, q_sFz, q_sApp, q_sPut, q_sPutC, q_sSetCell, q_sAsg, q_sPar, q_sPar3, q_eCallL, q_eLC2, q_eNewC, q_iZip, q_sRaise, q_sTry, Rs.bind, op1, op2, opL, gAdd, gSub, gI2, gLt, gLe, gGt, gGe, gCmp, gIx, gLen, gInt, seqOf, gNeg, q_max2, q_min2, gTuple, gVar, gTupM, gsCons, gsNil, frz1, ownOf, noX, wipeE, gIsi, tyD, isi]) ?_
        refine sq_ifF (S1 := S1) (by simp [bodyM, startE, q_eVar, q_eC, q_eBin, q_eChain, q_eUn, q_eNot, q_eAnd, q_eOr, q_eIf, q_aNil, q_aCons, q_eTup, q_eLst, q_aSmall, q_eCB, q_eIxOwn, q_eLenOwn, q_oNo, q_oOf, q_eSl, q_eCall, q_eCallK, q_iSeq, q_cYes, q_eLC, q_sExp, q_sNil, q_sSeq, q_sBad, q_sBrk, q_sCont, q_sRet, q_sRetN, q_sDrop, q_sIf, q_sSet, q_sSetOwn, q_sFz, q_sApp, q_sPut, q_sPutC, q_sSetCell, q_sAsg, q_sPar, q_sPar3, q_eCallL, q_eLC2, q_eNewC, q_iZip, q_sRaise, q_sTry, Rs.bind, op1, op2, opL, gAdd, gSub, gI2, gLt, gLe, gGt, gGe, gCmp, gIx, gLen, gInt, seqOf, gNeg, q_max2, q_min2, gTuple, gVar, gTupM, gsCons, gsNil, frz1, ownOf, noX, wipeE, gIsi, tyD, isi]) ?_
        exact changed_last hr hw.1 hs1 rfl rfl
      · have hpos : 0 < xs.length := by omega
        obtain ⟨k6, S1, e6, hk6, hs1⟩ := take_ok hr (lim := 6) (by decide) hs
        by_cases h6 : 0 < k6
        · refine sq_retT (S1 := S1) (by simp [bodyM, startE, q_eVar, q_eC, q_eBin, q_eChain, q_eUn, q_eNot, q_eAnd, q_eOr, q_eIf, q_aNil, q_aCons, q_eTup, q_eLst, q_aSmall, q_eCB, q_eIxOwn, q_eLenOwn, q_oNo, q_oOf, q_eSl, q_eCall, q_eCallK, q_iSeq, q_cYes, q_eLC, q_sExp, q_sNil, q_sSeq, q_sBad, q_sBrk, q_sCont, q_sRet, q_sRetN, q_sDrop, q_sIf, q_sSet, q_sSetOwn, q_sFz, q_sApp, q_sPut, q_sPutC, q_sSetCell, q_sAsg, q_sPar, q_sPar3, q_eCallL, q_eLC2, q_eNewC, q_iZip, q_sRaise, q_sTry, Rs.bind, op1, op2, opL, gAdd, gSub, gI2, gLt, gLe, gGt, gGe, gCmp, gIx, gLen, gInt, seqOf, gNeg, q_max2, q_min2, gTuple, gVar, gTupM, gsCons, gsNil, frz1, ownOf, noX, wipeE, hT, hpos, e6, h6]) ?_
          obtain ⟨at_, S2, e2, hat, hs2⟩ := take_ok hr (lim := xs.length) (by omega) hs1
          obtain ⟨j, rfl⟩ := Int.eq_ofNat_of_zero_le hat.1
          have hj : j < xs.length := by omega
          refine sq_set (d := .int j) (S1 := S2) (by simp [bodyM, startE, q_eVar, q_eC, q_eBin, q_eChain, q_eUn, q_eNot, q_eAnd, q_eOr, q_eIf, q_aNil, q_aCons, q_eTup, q_eLst, q_aSmall, q_eCB, q_eIxOwn, q_eLenOwn, q_oNo, q_oOf, q_eSl, q_eCall, q_eCallK, q_iSeq, q_cYes, q_eLC, q_sExp, q_sNil, q_sSeq, q_sBad, q_sBrk, q_sCont, q_sRet, q_sRetN, q_sDrop, q_sIf, q_sSet, q_sSetOwn, q_sFz, q_sApp, q_sPut, q_sPutC, q_sSetCell, q_sAsg, q_sPar, q_sPar3, q_eCallL, q_eLC2, q_eNewC, q_iZip, q_sRaise, q_sTry, Rs.bind, op1, op2, opL, gAdd, gSub, gI2, gLt, gLe, gGt, gGe, gCmp, gIx, gLen, gInt, seqOf, gNeg, q_max2, q_min2, gTuple, gVar, gTupM, gsCons, gsNil, frz1, ownOf, noX, wipeE, e2]) ?_
          obtain ⟨d, S3, e3, hd, hs3⟩ := changed_ok hr hw m f xs[j] S2 (hx _ (List.getElem_mem hj)) (by omega) hs2
          have c1 := cut_to (xs := xs) (k := j) (by omega)
          have c2 := cut_from (xs := xs) (k := j + 1) (by omega)
          rw [show ((j + 1 : Nat) : Int) = (j : Int) + 1 by omega] at c2
          have z1 : (xs.take j).length + 1 ≤ sizeLine := ten_size (by rw [List.length_take]; omega)
          have z2 : (xs.take j).length + 1 + (xs.drop (j + 1)).length ≤ sizeLine := ten_size (by rw [List.length_take, List.length_drop]; omega)
          simp only [List.length_take, List.length_drop] at z1 z2
          refine ws_ret (d := .tup (xs.take j ++ [d] ++ xs.drop (j + 1))) (S1 := S3) (by simp [bodyM, startE, q_eVar, q_eC, q_eBin, q_eChain, q_eUn, q_eNot, q_eAnd, q_eOr, q_eIf, q_aNil, q_aCons, q_eTup, q_eLst, q_aSmall, q_eCB, q_eIxOwn, q_eLenOwn, q_oNo, q_oOf, q_eSl, q_eCall, q_eCallK, q_iSeq, q_cYes, q_eLC, q_sExp, q_sNil, q_sSeq, q_sBad, q_sBrk, q_sCont, q_sRet, q_sRetN, q_sDrop, q_sIf, q_sSet, q_sSetOwn, q_sFz, q_sApp, q_sPut, q_sPutC, q_sSetCell, q_sAsg, q_sPar, q_sPar3, q_eCallL, q_eLC2, q_eNewC, q_iZip, q_sRaise, q_sTry, Rs.bind, op1, op2, opL, gAdd, gSub, gI2, gLt, gLe, gGt, gGe, gCmp, gIx, gLen, gInt, seqOf, gNeg, q_max2, q_min2, gTuple, gVar, gTupM, gsCons, gsNil, frz1, ownOf, noX, wipeE, gSl, c1, c2, atI_nat hj, e3, z1, z2]) ⟨_, _, rfl, _, _, rfl, .inr ⟨_, rfl, by simp only [List.length_append, List.length_take, List.length_drop, List.length_singleton]; omega, fun y hy => ?_⟩, hs3⟩
          simp only [List.mem_append, List.mem_singleton] at hy
          rcases hy with (hy | rfl) | hy
          · exact (hxd y (List.mem_of_mem_take hy)).up (by omega)
          · exact hd
          · exact (hxd y (List.mem_of_mem_drop hy)).up (by omega)
        · refine sq_ifF (S1 := S1) (by simp [bodyM, startE, q_eVar, q_eC, q_eBin, q_eChain, q_eUn, q_eNot, q_eAnd, q_eOr, q_eIf, q_aNil, q_aCons, q_eTup, q_eLst, q_aSmall, q_eCB, q_eIxOwn, q_eLenOwn, q_oNo, q_oOf, q_eSl, q_eCall, q_eCallK, q_iSeq, q_cYes, q_eLC, q_sExp, q_sNil, q_sSeq, q_sBad, q_sBrk, q_sCont, q_sRet, q_sRetN, q_sDrop, q_sIf, q_sSet, q_sSetOwn, q_sFz, q_sApp, q_sPut, q_sPutC, q_sSetCell, q_sAsg, q_sPar, q_sPar3, q_eCallL, q_eLC2, q_eNewC, q_iZip, q_sRaise, q_sTry, Rs.bind, op1, op2, opL, gAdd, gSub, gI2, gLt, gLe, gGt, gGe, gCmp, gIx, gLen, gInt, seqOf, gNeg, q_max2, q_min2, gTuple, gVar, gTupM, gsCons, gsNil, frz1, ownOf, noX, wipeE, hT, hpos, e6, h6]) ?_
          obtain ⟨turn, S2, e1, hk, hs2⟩ := take_ok hr (lim := 5) (by decide) hs1
          refine sq_set (d := .int turn) (S1 := S2) (by simp [bodyM, startE, q_eVar, q_eC, q_eBin, q_eChain, q_eUn, q_eNot, q_eAnd, q_eOr, q_eIf, q_aNil, q_aCons, q_eTup, q_eLst, q_aSmall, q_eCB, q_eIxOwn, q_eLenOwn, q_oNo, q_oOf, q_eSl, q_eCall, q_eCallK, q_iSeq, q_cYes, q_eLC, q_sExp, q_sNil, q_sSeq, q_sBad, q_sBrk, q_sCont, q_sRet, q_sRetN, q_sDrop, q_sIf, q_sSet, q_sSetOwn, q_sFz, q_sApp, q_sPut, q_sPutC, q_sSetCell, q_sAsg, q_sPar, q_sPar3, q_eCallL, q_eLC2, q_eNewC, q_iZip, q_sRaise, q_sTry, Rs.bind, op1, op2, opL, gAdd, gSub, gI2, gLt, gLe, gGt, gGe, gCmp, gIx, gLen, gInt, seqOf, gNeg, q_max2, q_min2, gTuple, gVar, gTupM, gsCons, gsNil, frz1, ownOf, noX, wipeE, e1]) ?_
          by_cases ht0 : turn = 0
          · refine sq_retT (S1 := S2) (by simp [bodyM, startE, q_eVar, q_eC, q_eBin, q_eChain, q_eUn, q_eNot, q_eAnd, q_eOr, q_eIf, q_aNil, q_aCons, q_eTup, q_eLst, q_aSmall, q_eCB, q_eIxOwn, q_eLenOwn, q_oNo, q_oOf, q_eSl, q_eCall, q_eCallK, q_iSeq, q_cYes, q_eLC, q_sExp, q_sNil, q_sSeq, q_sBad, q_sBrk, q_sCont, q_sRet, q_sRetN, q_sDrop, q_sIf, q_sSet, q_sSetOwn, q_sFz, q_sApp, q_sPut, q_sPutC, q_sSetCell, q_sAsg, q_sPar, q_sPar3, q_eCallL, q_eLC2, q_eNewC, q_iZip, q_sRaise, q_sTry, Rs.bind, op1, op2, opL, gAdd, gSub, gI2, gLt, gLe, gGt, gGe, gCmp, gIx, gLen, gInt, seqOf, gNeg, q_max2, q_min2, gTuple, gVar, gTupM, gsCons, gsNil, frz1, ownOf, noX, wipeE, hT, q_eq_int, ht0, hpos]) ?_
            have c1 : cut xs none (some 1) = xs.take 1 := cut_to (xs := xs) (k := 1) (by omega)
            have z1 : xs.length + (xs.take 1).length ≤ sizeLine := ten_size (by rw [List.length_take]; omega)
            simp only [List.length_take] at z1
            refine ws_ret (d := .tup (xs ++ xs.take 1)) (S1 := S2) (by simp [bodyM, startE, q_eVar, q_eC, q_eBin, q_eChain, q_eUn, q_eNot, q_eAnd, q_eOr, q_eIf, q_aNil, q_aCons, q_eTup, q_eLst, q_aSmall, q_eCB, q_eIxOwn, q_eLenOwn, q_oNo, q_oOf, q_eSl, q_eCall, q_eCallK, q_iSeq, q_cYes, q_eLC, q_sExp, q_sNil, q_sSeq, q_sBad, q_sBrk, q_sCont, q_sRet, q_sRetN, q_sDrop, q_sIf, q_sSet, q_sSetOwn, q_sFz, q_sApp, q_sPut, q_sPutC, q_sSetCell, q_sAsg, q_sPar, q_sPar3, q_eCallL, q_eLC2, q_eNewC, q_iZip, q_sRaise, q_sTry, Rs.bind, op1, op2, opL, gAdd, gSub, gI2, gLt, gLe, gGt, gGe, gCmp, gIx, gLen, gInt, seqOf, gNeg, q_max2, q_min2, gTuple, gVar, gTupM, gsCons, gsNil, frz1, ownOf, noX, wipeE, gSl, c1, z1]) ⟨_, _, rfl, _, _, rfl, .inr ⟨_, rfl, by rw [List.length_append, List.length_take]; omega, fun y hy => ?_⟩, hs2⟩
            rcases List.mem_append.mp hy with hy | hy
            · exact (hxd y hy).up (by omega)
            · exact (hxd y (List.mem_of_mem_take hy)).up (by omega)
          · refine sq_ifF (S1 := S2) (by simp [bodyM, startE, q_eVar, q_eC, q_eBin, q_eChain, q_eUn, q_eNot, q_eAnd, q_eOr, q_eIf, q_aNil, q_aCons, q_eTup, q_eLst, q_aSmall, q_eCB, q_eIxOwn, q_eLenOwn, q_oNo, q_oOf, q_eSl, q_eCall, q_eCallK, q_iSeq, q_cYes, q_eLC, q_sExp, q_sNil, q_sSeq, q_sBad, q_sBrk, q_sCont, q_sRet, q_sRetN, q_sDrop, q_sIf, q_sSet, q_sSetOwn, q_sFz, q_sApp, q_sPut, q_sPutC, q_sSetCell, q_sAsg, q_sPar, q_sPar3, q_eCallL, q_eLC2, q_eNewC, q_iZip, q_sRaise, q_sTry, Rs.bind, op1, op2, opL, gAdd, gSub, gI2, gLt, gLe, gGt, gGe, gCmp, gIx, gLen, gInt, seqOf, gNeg, q_max2, q_min2, gTuple, gVar, gTupM, gsCons, gsNil, frz1, ownOf, noX, wipeE, hT, q_eq_int, ht0]) ?_
            by_cases ht1 : turn = 1
            · refine sq_retT (S1 := S2) (by simp [bodyM, startE, q_eVar, q_eC, q_eBin, q_eChain, q_eUn, q_eNot, q_eAnd, q_eOr, q_eIf, q_aNil, q_aCons, q_eTup, q_eLst, q_aSmall, q_eCB, q_eIxOwn, q_eLenOwn, q_oNo, q_oOf, q_eSl, q_eCall, q_eCallK, q_iSeq, q_cYes, q_eLC, q_sExp, q_sNil, q_sSeq, q_sBad, q_sBrk, q_sCont, q_sRet, q_sRetN, q_sDrop, q_sIf, q_sSet, q_sSetOwn, q_sFz, q_sApp, q_sPut, q_sPutC, q_sSetCell, q_sAsg, q_sPar, q_sPar3, q_eCallL, q_eLC2, q_eNewC, q_iZip, q_sRaise, q_sTry, Rs.bind, op1, op2, opL, gAdd, gSub, gI2, gLt, gLe, gGt, gGe, gCmp, gIx, gLen, gInt, seqOf, gNeg, q_max2, q_min2, gTuple, gVar, gTupM, gsCons, gsNil, frz1, ownOf, noX, wipeE, hT, q_eq_int, ht1, hpos]) ?_
              have c2 : cut xs (some 1) none = xs.drop 1 := cut_from (xs := xs) (k := 1) (by omega)
              refine ws_ret (d := .tup (xs.drop 1)) (S1 := S2) (by simp [bodyM, startE, q_eVar, q_eC, q_eBin, q_eChain, q_eUn, q_eNot, q_eAnd, q_eOr, q_eIf, q_aNil, q_aCons, q_eTup, q_eLst, q_aSmall, q_eCB, q_eIxOwn, q_eLenOwn, q_oNo, q_oOf, q_eSl, q_eCall, q_eCallK, q_iSeq, q_cYes, q_eLC, q_sExp, q_sNil, q_sSeq, q_sBad, q_sBrk, q_sCont, q_sRet, q_sRetN, q_sDrop, q_sIf, q_sSet, q_sSetOwn, q_sFz, q_sApp, q_sPut, q_sPutC, q_sSetCell, q_sAsg, q_sPar, q_sPar3, q_eCallL, q_eLC2, q_eNewC, q_iZip, q_sRaise, q_sTry, Rs.bind, op1, op2, opL, gAdd, gSub, gI2, gLt, gLe, gGt, gGe, gCmp, gIx, gLen, gInt, seqOf, gNeg, q_max2, q_min2, gTuple, gVar, gTupM, gsCons, gsNil, frz1, ownOf, noX, wipeE, gSl, c2]) ⟨_, _, rfl, _, _, rfl, .inr ⟨_, rfl, by rw [List.length_drop]; omega, fun y hy => (hxd y (List.mem_of_mem_drop hy)).up (by omega)⟩, hs2⟩
            · refine sq_ifF (S1 := S2) (by simp [bodyM, startE, q_eVar, q_eC, q_eBin, q_eChain, q_eUn, q_eNot, q_eAnd, q_eOr, q_eIf, q_aNil, q_aCons, q_eTup, q_eLst, q_aSmall, q_eCB, q_eIxOwn, q_eLenOwn, q_oNo, q_oOf, q_eSl, q_eCall, q_eCallK, q_iSeq, q_cYes, q_eLC, q_sExp, q_sNil, q_sSeq, q_sBad, q_sBrk, q_sCont, q_sRet, q_sRetN, q_sDrop, q_sIf, q_sSet, q_sSetOwn, q_sFz, q_sApp, q_sPut, q_sPutC, q_sSetCell, q_sAsg, q_sPar, q_sPar3, q_eCallL, q_eLC2, q_eNewC, q_iZip, q_sRaise, q_sTry, Rs.bind, op1, op2, opL, gAdd, gSub, gI2, gLt, gLe, gGt, gGe, gCmp, gIx, gLen, gInt, seqOf, gNeg, q_max2, q_min2, gTuple, gVar, gTupM, gsCons, gsNil, frz1, ownOf, noX, wipeE, hT, q_eq_int, ht1]) ?_
              refine sq_ifF (S1 := S2) (by simp [bodyM, startE, q_eVar, q_eC, q_eBin, q_eChain, q_eUn, q_eNot, q_eAnd, q_eOr, q_eIf, q_aNil, q_aCons, q_eTup, q_eLst, q_aSmall, q_eCB, q_eIxOwn, q_eLenOwn, q_oNo, q_oOf, q_eSl, q_eCall, q_eCallK, q_iSeq, q_cYes, q_eLC, q_sExp, q_sNil, q_sSeq, q_sBad, q_sBrk, q_sCont, q_sRet, q_sRetN, q_sDrop, q_sIf, q_sSet, q_sSetOwn, q_sFz, q_sApp, q_sPut, q_sPutC, q_sSetCell, q_sAsg, q_sPar, q_sPar3, q_eCallL, q_eLC2, q_eNewC, q_iZip, q_sRaise, q_sTry, Rs.bind, op1, op2, opL, gAdd, gSub, gI2, gLt, gLe, gGt, gGe, gCmp, gIx, gLen, gInt, seqOf, gNeg, q_max2, q_min2, gTuple, gVar, gTupM, gsCons, gsNil, frz1, ownOf, noX, wipeE, gIsi, tyD, isi]) ?_
              refine sq_ifF (S1 := S2) (by simp [bodyM, startE, q_eVar, q_eC, q_eBin, q_eChain, q_eUn, q_eNot, q_eAnd, q_eOr, q_eIf, q_aNil, q_aCons, q_eTup, q_eLst, q_aSmall, q_eCB, q_eIxOwn, q_eLenOwn, q_oNo, q_oOf, q_eSl, q_eCall, q_eCallK, q_iSeq, q_cYes, q_eLC, q_sExp, q_sNil, q_sSeq, q_sBad, q_sBrk, q_sCont, q_sRet, q_sRetN, q_sDrop, q_sIf, q_sSet, q_sSetOwn, q_sFz, q_sApp, q_sPut, q_sPutC, q_sSetCell, q_sAsg, q_sPar, q_sPar3, q_eCallL, q_eLC2, q_eNewC, q_iZip, q_sRaise, q_sTry, Rs.bind, op1, op2, opL, gAdd, gSub, gI2, gLt, gLe, gGt, gGe, gCmp, gIx, gLen, gInt, seqOf, gNeg, q_max2, q_min2, gTuple, gVar, gTupM, gsCons, gsNil, frz1, ownOf, noX, wipeE, gIsi, tyD, isi]) ?_
              exact changed_last hr hw.1 hs2 rfl rfl
end KF
end

section
namespace KF
open PySem
noncomputable section
def tb_ArithmeticError : List (Str × Bool) := [("BadValue", false), ("BadText", false), ("BadLevels", false), ("NoMaster", false), ("TakenName", false), ("TooMany", false)]
def tb_BadLevels : List (Str × Bool) := [("BadValue", false), ("BadText", false), ("BadLevels", true), ("NoMaster", false), ("TakenName", false), ("TooMany", false)]
def tb_BadText : List (Str × Bool) := [("BadValue", false), ("BadText", true), ("BadLevels", false), ("NoMaster", false), ("TakenName", false), ("TooMany", false)]
def tb_BadValue : List (Str × Bool) := [("BadValue", true), ("BadText", false), ("BadLevels", false), ("NoMaster", false), ("TakenName", false), ("TooMany", false)]
def tb_Exception : List (Str × Bool) := [("BadValue", true), ("BadText", true), ("BadLevels", true), ("NoMaster", true), ("TakenName", true), ("TooMany", true)]
def tb_FormError : List (Str × Bool) := [("BadValue", true), ("BadText", true), ("BadLevels", true), ("NoMaster", true), ("TakenName", true), ("TooMany", true)]
def tb_LookupError : List (Str × Bool) := [("BadValue", false), ("BadText", false), ("BadLevels", false), ("NoMaster", false), ("TakenName", false), ("TooMany", false)]
def tb_NoMaster : List (Str × Bool) := [("BadValue", false), ("BadText", false), ("BadLevels", false), ("NoMaster", true), ("TakenName", false), ("TooMany", false)]
def tb_TakenName : List (Str × Bool) := [("BadValue", false), ("BadText", false), ("BadLevels", false), ("NoMaster", false), ("TakenName", true), ("TooMany", false)]
def tb_TooMany : List (Str × Bool) := [("BadValue", false), ("BadText", false), ("BadLevels", false), ("NoMaster", false), ("TakenName", false), ("TooMany", true)]
def tb_ValueError : List (Str × Bool) := [("BadValue", false), ("BadText", false), ("BadLevels", false), ("NoMaster", false), ("TakenName", false), ("TooMany", false)]
def b_f_law_of : MS := (sSeq (sSet 1 (eLst (aSmall (aCons (eUn (gIsV tb_BadValue) (eVar 0)) (aCons (eUn (gIsV tb_BadText) (eVar 0)) (aCons (eUn (gIsV tb_BadLevels) (eVar 0)) aNil))))))
    (sRet (eBin gAdd (eVar 1) (eLst (aSmall (aCons (eUn (gIsV tb_NoMaster) (eVar 0)) (aCons (eUn (gIsV tb_TakenName) (eVar 0)) (aCons (eUn (gIsV tb_TooMany) (eVar 0)) aNil))))))))
def m_f_law_of : MF := bodyM 2 b_f_law_of
def b_f_law_foreign : MS := (sSeq (sIf (eOr (eUn (gIsV tb_ValueError) (eVar 0)) (eUn (gIsV tb_LookupError) (eVar 0)))
      (sRet (eC (.bl true)))
      sNil)
    (sRet (eOr (eUn (gIsV tb_ArithmeticError) (eVar 0)) (eNot (eUn (gIsV tb_Exception) (eVar 0))))))
def m_f_law_foreign : MF := bodyM 1 b_f_law_foreign
def b_f_law_caught : MS := (sTryB 1 tb_NoMaster (sSeq (sIf (eBin gEq (eVar 0) (eC (.int 0)))
      (sRaise0 "TooMany")
      sNil)
    (sRaise "NoMaster" "name" (eVar 0))))
def m_f_law_caught : MF := bodyM 2 b_f_law_caught
def b_law00 : MS := (sSeq (sSet 1 (eCall 1 m_f_law_numbers (aCons (eVar 0) aNil)))
    (sSeq (sSetCell 2 (aSmall (aCons (eC (.int 0)) aNil)))
    (sSeq (sSet 3 (eBin gSub (eCall 3 m_f_law_take (aCons (eVar 1) (aCons (eVar 2) (aCons (eC (.int 997)) aNil)))) (eC (.int 9))))
    (sSeq (sSet 4 (eBin gIx (eLst (aSmall (aCons (eC .non) (aCons (eUn gNeg (eVar 3)) (aCons (eC (.str "x")) (aCons (eTup (aCons (eVar 3) (aCons (eC (.int 2)) aNil))) (aCons (eC (.bl true)) aNil))))))) (eCall 3 m_f_law_take (aCons (eVar 1) (aCons (eVar 2) (aCons (eC (.int 5)) aNil))))))
    (sSeq (sFor (iSeq (eLst (aSmall (aCons (eMkV "BadValue" "at" (eVar 3)) (aCons (eMkV "BadText" "at" (eVar 3)) (aCons (eMkV "BadLevels" "at" (eVar 3)) (aCons (eMkV "BadValue" "at" (eVar 3)) (aCons (eMkV "BadText" "at" (eVar 3)) (aCons (eMkV "BadLevels" "at" (eVar 3)) aNil))))))))) (gVar 5)
      (sIf (eNot (eCall 2 (m_f_law_so 12) (aCons (eUn (gFld "at" ["BadValue", "BadText", "BadLevels"]) (eVar 5)) (aCons (eVar 3) aNil))))
      (sRet (eC (.bl false)))
      sNil))
    (sSeq (sFor (iSeq (eLst (aSmall (aCons (eMkV "NoMaster" "name" (eVar 4)) (aCons (eMkV "NoMaster" "name" (eVar 4)) (aCons (eMkV "TakenName" "name" (eVar 4)) (aCons (eMkV "TakenName" "name" (eVar 4)) aNil))))))) (gVar 5)
      (sIf (eNot (eCall 2 (m_f_law_so 12) (aCons (eUn (gFld "name" ["NoMaster", "TakenName"]) (eVar 5)) (aCons (eVar 4) aNil))))
      (sRet (eC (.bl false)))
      sNil))
    (sSeq (sSet 6 (eLst (aSmall (aCons (eMkV "BadValue" "at" (eVar 3)) (aCons (eMkV "BadText" "at" (eVar 3)) (aCons (eMkV "BadLevels" "at" (eVar 3)) (aCons (eMkV "NoMaster" "name" (eVar 4)) (aCons (eMkV "TakenName" "name" (eVar 4)) (aCons (eMk0 "TooMany") aNil)))))))))
    (sSeq (sFor (iRange1 (aCons (eC (.int 6)) aNil)) (gVar 7)
      (sIf (eOr (eBin gNe (eCall 1 m_f_law_of (aCons (eBin gIx (eVar 6) (eVar 7)) aNil)) (eLst (eLC (List.map (fun x => x.2) ([("one", 8)] : List (Str × Nat))) (iRange1 (aCons (eC (.int 6)) aNil)) (gVar 8) cYes (eBin gEq (eVar 8) (eVar 7))))) (eOr (eCall 1 m_f_law_foreign (aCons (eBin gIx (eVar 6) (eVar 7)) aNil)) (eNot (eUn (gIsV tb_FormError) (eBin gIx (eVar 6) (eVar 7))))))
      (sRet (eC (.bl false)))
      sNil))
    (sRet (eAnd (eNot (eCall 1 m_f_law_caught (aCons (eC (.int 0)) aNil))) (eCall 1 m_f_law_caught (aCons (eBin gAdd (eC (.int 1)) (eCall 3 m_f_law_take (aCons (eVar 1) (aCons (eVar 2) (aCons (eC (.int 9)) aNil))))) aNil))))))))))))
def m_law00 : MF := bodyM 9 b_law00
end
end KF
end

section
namespace KF
open PySem
theorem l_BadValue_BadValue : List.lookup ("BadValue" : Str) tb_BadValue = some true := by decide +kernel
theorem l_BadValue_BadText : List.lookup ("BadText" : Str) tb_BadValue = some false := by decide +kernel
theorem l_BadValue_BadLevels : List.lookup ("BadLevels" : Str) tb_BadValue = some false := by decide +kernel
theorem l_BadValue_NoMaster : List.lookup ("NoMaster" : Str) tb_BadValue = some false := by decide +kernel
theorem l_BadValue_TakenName : List.lookup ("TakenName" : Str) tb_BadValue = some false := by decide +kernel
theorem l_BadValue_TooMany : List.lookup ("TooMany" : Str) tb_BadValue = some false := by decide +kernel
theorem l_BadText_BadValue : List.lookup ("BadValue" : Str) tb_BadText = some false := by decide +kernel
theorem l_BadText_BadText : List.lookup ("BadText" : Str) tb_BadText = some true := by decide +kernel
theorem l_BadText_BadLevels : List.lookup ("BadLevels" : Str) tb_BadText = some false := by decide +kernel
theorem l_BadText_NoMaster : List.lookup ("NoMaster" : Str) tb_BadText = some false := by decide +kernel
theorem l_BadText_TakenName : List.lookup ("TakenName" : Str) tb_BadText = some false := by decide +kernel
theorem l_BadText_TooMany : List.lookup ("TooMany" : Str) tb_BadText = some false := by decide +kernel
theorem l_BadLevels_BadValue : List.lookup ("BadValue" : Str) tb_BadLevels = some false := by decide +kernel
theorem l_BadLevels_BadText : List.lookup ("BadText" : Str) tb_BadLevels = some false := by decide +kernel
theorem l_BadLevels_BadLevels : List.lookup ("BadLevels" : Str) tb_BadLevels = some true := by decide +kernel
theorem l_BadLevels_NoMaster : List.lookup ("NoMaster" : Str) tb_BadLevels = some false := by decide +kernel
theorem l_BadLevels_TakenName : List.lookup ("TakenName" : Str) tb_BadLevels = some false := by decide +kernel
theorem l_BadLevels_TooMany : List.lookup ("TooMany" : Str) tb_BadLevels = some false := by decide +kernel
theorem l_NoMaster_BadValue : List.lookup ("BadValue" : Str) tb_NoMaster = some false := by decide +kernel
theorem l_NoMaster_BadText : List.lookup ("BadText" : Str) tb_NoMaster = some false := by decide +kernel
theorem l_NoMaster_BadLevels : List.lookup ("BadLevels" : Str) tb_NoMaster = some false := by decide +kernel
theorem l_NoMaster_NoMaster : List.lookup ("NoMaster" : Str) tb_NoMaster = some true := by decide +kernel
theorem l_NoMaster_TakenName : List.lookup ("TakenName" : Str) tb_NoMaster = some false := by decide +kernel
theorem l_NoMaster_TooMany : List.lookup ("TooMany" : Str) tb_NoMaster = some false := by decide +kernel
theorem l_TakenName_BadValue : List.lookup ("BadValue" : Str) tb_TakenName = some false := by decide +kernel
theorem l_TakenName_BadText : List.lookup ("BadText" : Str) tb_TakenName = some false := by decide +kernel
theorem l_TakenName_BadLevels : List.lookup ("BadLevels" : Str) tb_TakenName = some false := by decide +kernel
theorem l_TakenName_NoMaster : List.lookup ("NoMaster" : Str) tb_TakenName = some false := by decide +kernel
theorem l_TakenName_TakenName : List.lookup ("TakenName" : Str) tb_TakenName = some true := by decide +kernel
theorem l_TakenName_TooMany : List.lookup ("TooMany" : Str) tb_TakenName = some false := by decide +kernel
theorem l_TooMany_BadValue : List.lookup ("BadValue" : Str) tb_TooMany = some false := by decide +kernel
theorem l_TooMany_BadText : List.lookup ("BadText" : Str) tb_TooMany = some false := by decide +kernel
theorem l_TooMany_BadLevels : List.lookup ("BadLevels" : Str) tb_TooMany = some false := by decide +kernel
theorem l_TooMany_NoMaster : List.lookup ("NoMaster" : Str) tb_TooMany = some false := by decide +kernel
theorem l_TooMany_TakenName : List.lookup ("TakenName" : Str) tb_TooMany = some false := by decide +kernel
theorem l_TooMany_TooMany : List.lookup ("TooMany" : Str) tb_TooMany = some true := by decide +kernel
theorem l_FormError_BadValue : List.lookup ("BadValue" : Str) tb_FormError = some true := by decide +kernel
theorem l_FormError_BadText : List.lookup ("BadText" : Str) tb_FormError = some true := by decide +kernel
theorem l_FormError_BadLevels : List.lookup ("BadLevels" : Str) tb_FormError = some true := by decide +kernel
theorem l_FormError_NoMaster : List.lookup ("NoMaster" : Str) tb_FormError = some true := by decide +kernel
theorem l_FormError_TakenName : List.lookup ("TakenName" : Str) tb_FormError = some true := by decide +kernel
theorem l_FormError_TooMany : List.lookup ("TooMany" : Str) tb_FormError = some true := by decide +kernel
theorem l_Exception_BadValue : List.lookup ("BadValue" : Str) tb_Exception = some true := by decide +kernel
theorem l_Exception_BadText : List.lookup ("BadText" : Str) tb_Exception = some true := by decide +kernel
theorem l_Exception_BadLevels : List.lookup ("BadLevels" : Str) tb_Exception = some true := by decide +kernel
theorem l_Exception_NoMaster : List.lookup ("NoMaster" : Str) tb_Exception = some true := by decide +kernel
theorem l_Exception_TakenName : List.lookup ("TakenName" : Str) tb_Exception = some true := by decide +kernel
theorem l_Exception_TooMany : List.lookup ("TooMany" : Str) tb_Exception = some true := by decide +kernel
theorem l_ValueError_BadValue : List.lookup ("BadValue" : Str) tb_ValueError = some false := by decide +kernel
theorem l_ValueError_BadText : List.lookup ("BadText" : Str) tb_ValueError = some false := by decide +kernel
theorem l_ValueError_BadLevels : List.lookup ("BadLevels" : Str) tb_ValueError = some false := by decide +kernel
theorem l_ValueError_NoMaster : List.lookup ("NoMaster" : Str) tb_ValueError = some false := by decide +kernel
theorem l_ValueError_TakenName : List.lookup ("TakenName" : Str) tb_ValueError = some false := by decide +kernel
theorem l_ValueError_TooMany : List.lookup ("TooMany" : Str) tb_ValueError = some false := by decide +kernel
theorem l_LookupError_BadValue : List.lookup ("BadValue" : Str) tb_LookupError = some false := by decide +kernel
theorem l_LookupError_BadText : List.lookup ("BadText" : Str) tb_LookupError = some false := by decide +kernel
theorem l_LookupError_BadLevels : List.lookup ("BadLevels" : Str) tb_LookupError = some false := by decide +kernel
theorem l_LookupError_NoMaster : List.lookup ("NoMaster" : Str) tb_LookupError = some false := by decide +kernel
theorem l_LookupError_TakenName : List.lookup ("TakenName" : Str) tb_LookupError = some false := by decide +kernel
theorem l_LookupError_TooMany : List.lookup ("TooMany" : Str) tb_LookupError = some false := by decide +kernel
theorem l_ArithmeticError_BadValue : List.lookup ("BadValue" : Str) tb_ArithmeticError = some false := by decide +kernel
theorem l_ArithmeticError_BadText : List.lookup ("BadText" : Str) tb_ArithmeticError = some false := by decide +kernel
theorem l_ArithmeticError_BadLevels : List.lookup ("BadLevels" : Str) tb_ArithmeticError = some false := by decide +kernel
theorem l_ArithmeticError_NoMaster : List.lookup ("NoMaster" : Str) tb_ArithmeticError = some false := by decide +kernel
theorem l_ArithmeticError_TakenName : List.lookup ("TakenName" : Str) tb_ArithmeticError = some false := by decide +kernel
theorem l_ArithmeticError_TooMany : List.lookup ("TooMany" : Str) tb_ArithmeticError = some false := by decide +kernel
/-- the six errors -/
def everyE (a : Int) (o : D) : List D := [.exv "BadValue" "at" (.int a), .exv "BadText" "at" (.int a), .exv "BadLevels" "at" (.int a), .exv "NoMaster" "name" o, .exv "TakenName" "name" o, .ex0 "TooMany"]
def oneOf (i : Nat) : D := .lst ((List.range 6).map fun j => D.bl (decide (j = i)))
theorem of_ok (a : Int) (o : D) {i : Nat} {x : D} (h : (everyE a o)[i]? = some x) (S : Sto) : m_f_law_of [x] S = .ok (oneOf i) S ∧ m_f_law_foreign [x] S = .ok (.bl false) S ∧ gIsV tb_FormError x = some (.bl true) ∧ i < 6 := by
  have hi := (List.getElem?_eq_some_iff.mp h).1
  have hi : i < 6 := hi
  have hc : i = 0 ∨ i = 1 ∨ i = 2 ∨ i = 3 ∨ i = 4 ∨ i = 5 := by omega
  rcases hc with rfl | rfl | rfl | rfl | rfl | rfl <;> (simp only [everyE, List.getElem?_cons_zero, List.getElem?_cons_succ, Option.some.injEq] at h; subst h)
  · have e : oneOf 0 = .lst [.bl true, .bl false, .bl false, .bl false, .bl false, .bl false] := rfl
    rw [e]
    unfold m_f_law_of b_f_law_of m_f_law_foreign b_f_law_foreign
    refine ⟨by simp [bodyM, startE, q_eVar, q_eC, q_eBin, q_eChain, q_eUn, q_eNot, q_eAnd, q_eOr, q_eIf, q_aNil, q_aCons, q_eTup, q_eLst, q_aSmall, q_eCB, q_eIxOwn, q_eLenOwn, q_oNo, q_oOf, q_eSl, q_eCall, q_eCallK, q_iSeq, q_cYes, q_eLC, q_sExp, q_sNil, q_sSeq, q_sBad, q_sBrk, q_sCont, q_sRet, q_sRetN, q_sDrop, q_sIf, q_sSet, q_sSetOwn, q_sFz, q_sApp, q_sPut, q_sPutC, q_sSetCell, q_sAsg, q_sPar, q_sPar3, q_eCallL, q_eLC2, q_eNewC, q_iZip, q_sRaise, q_sTry, Rs.bind, op1, op2, opL, gAdd, gSub, gI2, gLt, gLe, gGt, gGe, gCmp, gIx, gLen, gInt, seqOf, gNeg, q_max2, q_min2, gTuple, gVar, gTupM, gsCons, gsNil, frz1, ownOf, noX, wipeE, gIsV, clsOf, ten_size (show 6 ≤ 10000 by decide), l_BadValue_BadValue, l_BadText_BadValue, l_BadLevels_BadValue, l_NoMaster_BadValue, l_TakenName_BadValue, l_TooMany_BadValue, l_FormError_BadValue, l_Exception_BadValue, l_ValueError_BadValue, l_LookupError_BadValue, l_ArithmeticError_BadValue], by simp [bodyM, startE, q_eVar, q_eC, q_eBin, q_eChain, q_eUn, q_eNot, q_eAnd, q_eOr, q_eIf, q_aNil, q_aCons, q_eTup, q_eLst, q_aSmall, q_eCB, q_eIxOwn, q_eLenOwn, q_oNo, q_oOf, q_eSl, q_eCall, q_eCallK, q_iSeq, q_cYes, q_eLC, q_sExp, q_sNil, q_sSeq, q_sBad, q_sBrk, q_sCont, q_sRet, q_sRetN, q_sDrop, q_sIf, q_sSet, q_sSetOwn, q_sFz, q_sApp, q_sPut, q_sPutC, q_sSetCell, q_sAsg, q_sPar, q_sPar3, q_eCallL, q_eLC2, q_eNewC, q_iZip, q_sRaise, q_sTry, Rs.bind, op1, op2, opL, gAdd, gSub, gI2, gLt, gLe, gGt, gGe, gCmp, gIx, gLen, gInt, seqOf, gNeg, q_max2, q_min2, gTuple, gVar, gTupM, gsCons, gsNil, frz1, ownOf, noX, wipeE, gIsV, clsOf, l_BadValue_BadValue, l_BadText_BadValue, l_BadLevels_BadValue, l_NoMaster_BadValue, l_TakenName_BadValue, l_TooMany_BadValue, l_FormError_BadValue, l_Exception_BadValue, l_ValueError_BadValue, l_LookupError_BadValue, l_ArithmeticError_BadValue], by simp [gIsV, clsOf, l_BadValue_BadValue, l_BadText_BadValue, l_BadLevels_BadValue, l_NoMaster_BadValue, l_TakenName_BadValue, l_TooMany_BadValue, l_FormError_BadValue, l_Exception_BadValue, l_ValueError_BadValue, l_LookupError_BadValue, l_ArithmeticError_BadValue], by decide⟩
  · have e : oneOf 1 = .lst [.bl false, .bl true, .bl false, .bl false, .bl false, .bl false] := rfl
    rw [e]
    unfold m_f_law_of b_f_law_of m_f_law_foreign b_f_law_foreign
    refine ⟨by simp [bodyM, startE, q_eVar, q_eC, q_eBin, q_eChain, q_eUn, q_eNot, q_eAnd, q_eOr, q_eIf, q_aNil, q_aCons, q_eTup, q_eLst, q_aSmall, q_eCB, q_eIxOwn, q_eLenOwn, q_oNo, q_oOf, q_eSl, q_eCall, q_eCallK, q_iSeq, q_cYes, q_eLC, q_sExp, q_sNil, q_sSeq, q_sBad, q_sBrk, q_sCont, q_sRet, q_sRetN, q_sDrop, q_sIf, q_sSet, q_sSetOwn, q_sFz, q_sApp, q_sPut, q_sPutC, q_sSetCell, q_sAsg, q_sPar, q_sPar3, q_eCallL, q_eLC2, q_eNewC, q_iZip, q_sRaise, q_sTry, Rs.bind, op1, op2, opL, gAdd, gSub, gI2, gLt, gLe, gGt, gGe, gCmp, gIx, gLen, gInt, seqOf, gNeg, q_max2, q_min2, gTuple, gVar, gTupM, gsCons, gsNil, frz1, ownOf, noX, wipeE, gIsV, clsOf, ten_size (show 6 ≤ 10000 by decide), l_BadValue_BadText, l_BadText_BadText, l_BadLevels_BadText, l_NoMaster_BadText, l_TakenName_BadText, l_TooMany_BadText, l_FormError_BadText, l_Exception_BadText, l_ValueError_BadText, l_LookupError_BadText, l_ArithmeticError_BadText], by simp [bodyM, startE, q_eVar, q_eC, q_eBin, q_eChain, q_eUn, q_eNot, q_eAnd, q_eOr, q_eIf, q_aNil, q_aCons, q_eTup, q_eLst, q_aSmall, q_eCB, q_eIxOwn, q_eLenOwn, q_oNo, q_oOf, q_eSl, q_eCall, q_eCallK, q_iSeq, q_cYes, q_eLC, q_sExp, q_sNil, q_sSeq, q_sBad, q_sBrk, q_sCont, q_sRet, q_sRetN, q_sDrop, q_sIf, q_sSet, q_sSetOwn, q_sFz, q_sApp, q_sPut, q_sPutC, q_sSetCell, q_sAsg, q_sPar, q_sPar3, q_eCallL, q_eLC2, q_eNewC, q_iZip, q_sRaise, q_sTry, Rs.bind, op1, op2, opL, gAdd, gSub, gI2, gLt, gLe, gGt, gGe, gCmp, gIx, gLen, gInt, seqOf, gNeg, q_max2, q_min2, gTuple, gVar, gTupM, gsCons, gsNil, frz1, ownOf, noX, wipeE, gIsV, clsOf, l_BadValue_BadText, l_BadText_BadText, l_BadLevels_BadText, l_NoMaster_BadText, l_TakenName_BadText, l_TooMany_BadText, l_FormError_BadText, l_Exception_BadText, l_ValueError_BadText, l_LookupError_BadText, l_ArithmeticError_BadText], by simp [gIsV, clsOf, l_BadValue_BadText, l_BadText_BadText, l_BadLevels_BadText, l_NoMaster_BadText, l_TakenName_BadText, l_TooMany_BadText, l_FormError_BadText, l_Exception_BadText, l_ValueError_BadText, l_LookupError_BadText, l_ArithmeticError_BadText], by decide⟩
  · have e : oneOf 2 = .lst [.bl false, .bl false, .bl true, .bl false, .bl false, .bl false] := rfl
    rw [e]
    unfold m_f_law_of b_f_law_of m_f_law_foreign b_f_law_foreign
    refine ⟨by simp [bodyM, startE, q_eVar, q_eC, q_eBin, q_eChain, q_eUn, q_eNot, q_eAnd, q_eOr, q_eIf, q_aNil, q_aCons, q_eTup, q_eLst, q_aSmall, q_eCB, q_eIxOwn, q_eLenOwn, q_oNo, q_oOf, q_eSl, q_eCall, q_eCallK, q_iSeq, q_cYes, q_eLC, q_sExp, q_sNil, q_sSeq, q_sBad, q_sBrk, q_sCont, q_sRet, q_sRetN, q_sDrop, q_sIf, q_sSet, q_sSetOwn, q_sFz, q_sApp, q_sPut, q_sPutC, q_sSetCell, q_sAsg, q_sPar, q_sPar3, q_eCallL, q_eLC2, q_eNewC, q_iZip, q_sRaise, q_sTry, Rs.bind, op1, op2, opL, gAdd, gSub, gI2, gLt, gLe, gGt, gGe, gCmp, gIx, gLen, gInt, seqOf, gNeg, q_max2, q_min2, gTuple, gVar, gTupM, gsCons, gsNil, frz1, ownOf, noX, wipeE, gIsV, clsOf, ten_size (show 6 ≤ 10000 by decide), l_BadValue_BadLevels, l_BadText_BadLevels, l_BadLevels_BadLevels, l_NoMaster_BadLevels, l_TakenName_BadLevels, l_TooMany_BadLevels, l_FormError_BadLevels, l_Exception_BadLevels, l_ValueError_BadLevels, l_LookupError_BadLevels, l_ArithmeticError_BadLevels], by simp [bodyM, startE, q_eVar, q_eC, q_eBin, q_eChain, q_eUn, q_eNot, q_eAnd, q_eOr, q_eIf, q_aNil, q_aCons, q_eTup, q_eLst, q_aSmall, q_eCB, q_eIxOwn, q_eLenOwn, q_oNo, q_oOf, q_eSl, q_eCall, q_eCallK, q_iSeq, q_cYes, q_eLC, q_sExp, q_sNil, q_sSeq, q_sBad, q_sBrk, q_sCont, q_sRet, q_sRetN, q_sDrop, q_sIf, q_sSet, q_sSetOwn, q_sFz, q_sApp, q_sPut, q_sPutC, q_sSetCell, q_sAsg, q_sPar, q_sPar3, q_eCallL, q_eLC2, q_eNewC, q_iZip, q_sRaise, q_sTry, Rs.bind, op1, op2, opL, gAdd, gSub, gI2, gLt, gLe, gGt, gGe, gCmp, gIx, gLen, gInt, seqOf, gNeg, q_max2, q_min2, gTuple, gVar, gTupM, gsCons, gsNil, frz1, ownOf, noX, wipeE, gIsV, clsOf, l_BadValue_BadLevels, l_BadText_BadLevels, l_BadLevels_BadLevels, l_NoMaster_BadLevels, l_TakenName_BadLevels, l_TooMany_BadLevels, l_FormError_BadLevels, l_Exception_BadLevels, l_ValueError_BadLevels, l_LookupError_BadLevels, l_ArithmeticError_BadLevels], by simp [gIsV, clsOf, l_BadValue_BadLevels, l_BadText_BadLevels, l_BadLevels_BadLevels, l_NoMaster_BadLevels, l_TakenName_BadLevels, l_TooMany_BadLevels, l_FormError_BadLevels, l_Exception_BadLevels, l_ValueError_BadLevels, l_LookupError_BadLevels, l_ArithmeticError_BadLevels], by decide⟩
  · have e : oneOf 3 = .lst [.bl false, .bl false, .bl false, .bl true, .bl false, .bl false] := rfl
    rw [e]
    unfold m_f_law_of b_f_law_of m_f_law_foreign b_f_law_foreign
    refine ⟨by simp [bodyM, startE, q_eVar, q_eC, q_eBin, q_eChain, q_eUn, q_eNot, q_eAnd, q_eOr, q_eIf, q_aNil, q_aCons, q_eTup, q_eLst, q_aSmall, q_eCB, q_eIxOwn, q_eLenOwn, q_oNo, q_oOf, q_eSl, q_eCall, q_eCallK, q_iSeq, q_cYes, q_eLC, q_sExp, q_sNil, q_sSeq, q_sBad, q_sBrk, q_sCont, q_sRet, q_sRetN, q_sDrop, q_sIf, q_sSet, q_sSetOwn, q_sFz, q_sApp, q_sPut, q_sPutC, q_sSetCell, q_sAsg, q_sPar, q_sPar3, q_eCallL, q_eLC2, q_eNewC, q_iZip, q_sRaise, q_sTry, Rs.bind, op1, op2, opL, gAdd, gSub, gI2, gLt, gLe, gGt, gGe, gCmp, gIx, gLen, gInt, seqOf, gNeg, q_max2, q_min2, gTuple, gVar, gTupM, gsCons, gsNil, frz1, ownOf, noX, wipeE, gIsV, clsOf, ten_size (show 6 ≤ 10000 by decide), l_BadValue_NoMaster, l_BadText_NoMaster, l_BadLevels_NoMaster, l_NoMaster_NoMaster, l_TakenName_NoMaster, l_TooMany_NoMaster, l_FormError_NoMaster, l_Exception_NoMaster, l_ValueError_NoMaster, l_LookupError_NoMaster, l_ArithmeticError_NoMaster], by simp [bodyM, startE, q_eVar, q_eC, q_eBin, q_eChain, q_eUn, q_eNot, q_eAnd, q_eOr, q_eIf, q_aNil, q_aCons, q_eTup, q_eLst, q_aSmall, q_eCB, q_eIxOwn, q_eLenOwn, q_oNo, q_oOf, q_eSl, q_eCall, q_eCallK, q_iSeq, q_cYes, q_eLC, q_sExp, q_sNil, q_sSeq, q_sBad, q_sBrk, q_sCont, q_sRet, q_sRetN, q_sDrop, q_sIf, q_sSet, q_sSetOwn, q_sFz, q_sApp, q_sPut, q_sPutC, q_sSetCell, q_sAsg, q_sPar, q_sPar3, q_eCallL, q_eLC2, q_eNewC, q_iZip, q_sRaise, q_sTry, Rs.bind, op1, op2, opL, gAdd, gSub, gI2, gLt, gLe, gGt, gGe, gCmp, gIx, gLen, gInt, seqOf, gNeg, q_max2, q_min2, gTuple, gVar, gTupM, gsCons, gsNil, frz1, ownOf, noX, wipeE, gIsV, clsOf, l_BadValue_NoMaster, l_BadText_NoMaster, l_BadLevels_NoMaster, l_NoMaster_NoMaster, l_TakenName_NoMaster, l_TooMany_NoMaster, l_FormError_NoMaster, l_Exception_NoMaster, l_ValueError_NoMaster, l_LookupError_NoMaster, l_ArithmeticError_NoMaster], by simp [gIsV, clsOf, l_BadValue_NoMaster, l_BadText_NoMaster, l_BadLevels_NoMaster, l_NoMaster_NoMaster, l_TakenName_NoMaster, l_TooMany_NoMaster, l_FormError_NoMaster, l_Exception_NoMaster, l_ValueError_NoMaster, l_LookupError_NoMaster, l_ArithmeticError_NoMaster], by decide⟩
  · have e : oneOf 4 = .lst [.bl false, .bl false, .bl false, .bl false, .bl true, .bl false] := rfl
    rw [e]
    unfold m_f_law_of b_f_law_of m_f_law_foreign b_f_law_foreign
    refine ⟨by simp [bodyM, startE, q_eVar, q_eC, q_eBin, q_eChain, q_eUn, q_eNot, q_eAnd, q_eOr, q_eIf, q_aNil, q_aCons, q_eTup, q_eLst, q_aSmall, q_eCB, q_eIxOwn, q_eLenOwn, q_oNo, q_oOf, q_eSl, q_eCall, q_eCallK, q_iSeq, q_cYes, q_eLC, q_sExp, q_sNil, q_sSeq, q_sBad, q_sBrk, q_sCont, q_sRet, q_sRetN, q_sDrop, q_sIf, q_sSet, q_sSetOwn, q_sFz, q_sApp, q_sPut, q_sPutC, q_sSetCell, q_sAsg, q_sPar, q_sPar3, q_eCallL, q_eLC2, q_eNewC, q_iZip, q_sRaise, q_sTry, Rs.bind, op1, op2, opL, gAdd, gSub, gI2, gLt, gLe, gGt, gGe, gCmp, gIx, gLen, gInt, seqOf, gNeg, q_max2, q_min2, gTuple, gVar, gTupM, gsCons, gsNil, frz1, ownOf, noX, wipeE, gIsV, clsOf, ten_size (show 6 ≤ 10000 by decide), l_BadValue_TakenName, l_BadText_TakenName, l_BadLevels_TakenName, l_NoMaster_TakenName, l_TakenName_TakenName, l_TooMany_TakenName, l_FormError_TakenName, l_Exception_TakenName, l_ValueError_TakenName, l_LookupError_TakenName, l_ArithmeticError_TakenName], by simp [bodyM, startE, q_eVar, q_eC, q_eBin, q_eChain, q_eUn, q_eNot, q_eAnd, q_eOr, q_eIf, q_aNil, q_aCons, q_eTup, q_eLst, q_aSmall, q_eCB, q_eIxOwn, q_eLenOwn, q_oNo, q_oOf, q_eSl, q_eCall, q_eCallK, q_iSeq, q_cYes, q_eLC, q_sExp, q_sNil, q_sSeq, q_sBad, q_sBrk, q_sCont, q_sRet, q_sRetN, q_sDrop, q_sIf, q_sSet, q_sSetOwn, q_sFz, q_sApp, q_sPut, q_sPutC, q_sSetCell, q_sAsg, q_sPar, q_sPar3, q_eCallL, q_eLC2, q_eNewC, q_iZip, q_sRaise, q_sTry, Rs.bind, op1, op2, opL, gAdd, gSub, gI2, gLt, gLe, gGt, gGe, gCmp, gIx, gLen, gInt, seqOf, gNeg, q_max2, q_min2, gTuple, gVar, gTupM, gsCons, gsNil, frz1, ownOf, noX, wipeE, gIsV, clsOf, l_BadValue_TakenName, l_BadText_TakenName, l_BadLevels_TakenName, l_NoMaster_TakenName, l_TakenName_TakenName, l_TooMany_TakenName, l_FormError_TakenName, l_Exception_TakenName, l_ValueError_TakenName, l_LookupError_TakenName, l_ArithmeticError_TakenName], by simp [gIsV, clsOf, l_BadValue_TakenName, l_BadText_TakenName, l_BadLevels_TakenName, l_NoMaster_TakenName, l_TakenName_TakenName, l_TooMany_TakenName, l_FormError_TakenName, l_Exception_TakenName, l_ValueError_TakenName, l_LookupError_TakenName, l_ArithmeticError_TakenName], by decide⟩
  · have e : oneOf 5 = .lst [.bl false, .bl false, .bl false, .bl false, .bl false, .bl true] := rfl
    rw [e]
    unfold m_f_law_of b_f_law_of m_f_law_foreign b_f_law_foreign
    refine ⟨by simp [bodyM, startE, q_eVar, q_eC, q_eBin, q_eChain, q_eUn, q_eNot, q_eAnd, q_eOr, q_eIf, q_aNil, q_aCons, q_eTup, q_eLst, q_aSmall, q_eCB, q_eIxOwn, q_eLenOwn, q_oNo, q_oOf, q_eSl, q_eCall, q_eCallK, q_iSeq, q_cYes, q_eLC, q_sExp, q_sNil, q_sSeq, q_sBad, q_sBrk, q_sCont, q_sRet, q_sRetN, q_sDrop, q_sIf, q_sSet, q_sSetOwn, q_sFz, q_sApp, q_sPut, q_sPutC, q_sSetCell, q_sAsg, q_sPar, q_sPar3, q_eCallL, q_eLC2, q_eNewC, q_iZip, q_sRaise, q_sTry, Rs.bind, op1, op2, opL, gAdd, gSub, gI2, gLt, gLe, gGt, gGe, gCmp, gIx, gLen, gInt, seqOf, gNeg, q_max2, q_min2, gTuple, gVar, gTupM, gsCons, gsNil, frz1, ownOf, noX, wipeE, gIsV, clsOf, ten_size (show 6 ≤ 10000 by decide), l_BadValue_TooMany, l_BadText_TooMany, l_BadLevels_TooMany, l_NoMaster_TooMany, l_TakenName_TooMany, l_TooMany_TooMany, l_FormError_TooMany, l_Exception_TooMany, l_ValueError_TooMany, l_LookupError_TooMany, l_ArithmeticError_TooMany], by simp [bodyM, startE, q_eVar, q_eC, q_eBin, q_eChain, q_eUn, q_eNot, q_eAnd, q_eOr, q_eIf, q_aNil, q_aCons, q_eTup, q_eLst, q_aSmall, q_eCB, q_eIxOwn, q_eLenOwn, q_oNo, q_oOf, q_eSl, q_eCall, q_eCallK, q_iSeq, q_cYes, q_eLC, q_sExp, q_sNil, q_sSeq, q_sBad, q_sBrk, q_sCont, q_sRet, q_sRetN, q_sDrop, q_sIf, q_sSet, q_sSetOwn, q_sFz, q_sApp, q_sPut, q_sPutC, q_sSetCell, q_sAsg, q_sPar, q_sPar3, q_eCallL, q_eLC2, q_eNewC, q_iZip, q_sRaise, q_sTry, Rs.bind, op1, op2, opL, gAdd, gSub, gI2, gLt, gLe, gGt, gGe, gCmp, gIx, gLen, gInt, seqOf, gNeg, q_max2, q_min2, gTuple, gVar, gTupM, gsCons, gsNil, frz1, ownOf, noX, wipeE, gIsV, clsOf, l_BadValue_TooMany, l_BadText_TooMany, l_BadLevels_TooMany, l_NoMaster_TooMany, l_TakenName_TooMany, l_TooMany_TooMany, l_FormError_TooMany, l_Exception_TooMany, l_ValueError_TooMany, l_LookupError_TooMany, l_ArithmeticError_TooMany], by simp [gIsV, clsOf, l_BadValue_TooMany, l_BadText_TooMany, l_BadLevels_TooMany, l_NoMaster_TooMany, l_TakenName_TooMany, l_TooMany_TooMany, l_FormError_TooMany, l_Exception_TooMany, l_ValueError_TooMany, l_LookupError_TooMany, l_ArithmeticError_TooMany], by decide⟩
theorem caught0 (S : Sto) : m_f_law_caught [.int 0] S = .ok (.bl false) S := by
  unfold m_f_law_caught b_f_law_caught
  simp [bodyM, startE, q_eVar, q_eC, q_eBin, q_eChain, q_eUn, q_eNot, q_eAnd, q_eOr, q_eIf, q_aNil, q_aCons, q_eTup, q_eLst, q_aSmall, q_eCB, q_eIxOwn, q_eLenOwn, q_oNo, q_oOf, q_eSl, q_eCall, q_eCallK, q_iSeq, q_cYes, q_eLC, q_sExp, q_sNil, q_sSeq, q_sBad, q_sBrk, q_sCont, q_sRet, q_sRetN, q_sDrop, q_sIf, q_sSet, q_sSetOwn, q_sFz, q_sApp, q_sPut, q_sPutC, q_sSetCell, q_sAsg, q_sPar, q_sPar3, q_eCallL, q_eLC2, q_eNewC, q_iZip, q_sRaise, q_sTry, Rs.bind, op1, op2, opL, gAdd, gSub, gI2, gLt, gLe, gGt, gGe, gCmp, gIx, gLen, gInt, seqOf, gNeg, q_max2, q_min2, gTuple, gVar, gTupM, gsCons, gsNil, frz1, ownOf, noX, wipeE, sTryB, sRaise0, q_eq_int, l_NoMaster_TooMany]
theorem caught1 {n : Int} (h : n ≠ 0) (S : Sto) : m_f_law_caught [.int n] S = .ok (.bl true) S := by
  unfold m_f_law_caught b_f_law_caught
  simp [bodyM, startE, q_eVar, q_eC, q_eBin, q_eChain, q_eUn, q_eNot, q_eAnd, q_eOr, q_eIf, q_aNil, q_aCons, q_eTup, q_eLst, q_aSmall, q_eCB, q_eIxOwn, q_eLenOwn, q_oNo, q_oOf, q_eSl, q_eCall, q_eCallK, q_iSeq, q_cYes, q_eLC, q_sExp, q_sNil, q_sSeq, q_sBad, q_sBrk, q_sCont, q_sRet, q_sRetN, q_sDrop, q_sIf, q_sSet, q_sSetOwn, q_sFz, q_sApp, q_sPut, q_sPutC, q_sSetCell, q_sAsg, q_sPar, q_sPar3, q_eCallL, q_eLC2, q_eNewC, q_iZip, q_sRaise, q_sTry, Rs.bind, op1, op2, opL, gAdd, gSub, gI2, gLt, gLe, gGt, gGe, gCmp, gIx, gLen, gInt, seqOf, gNeg, q_max2, q_min2, gTuple, gVar, gTupM, gsCons, gsNil, frz1, ownOf, noX, wipeE, sTryB, sRaise0, q_eq_int, h, l_NoMaster_NoMaster]
theorem ne_bls (bs : List Bool) (h : bs.length = 6) (S : Sto) : gNe (.lst (bs.map D.bl)) (.lst (bs.map D.bl)) S = some (.bl false) := by
  match bs, h with
  | [b0, b1, b2, b3, b4, b5], _ =>
    have e : toP (.lst ([b0, b1, b2, b3, b4, b5].map D.bl)) = some (.list [.bool b0, .bool b1, .bool b2, .bool b3, .bool b4, .bool b5]) := rfl
    have hs : SeqAt.shaped (.list [.bool b0, .bool b1, .bool b2, .bool b3, .bool b4, .bool b5]) = true := by
      unfold SeqAt.shaped
      simp [PyData.canLay0, PyData.depth, PyData.depthAll, PyData.canLayAll0]
    have hq : PyData.eqv (.list [.bool b0, .bool b1, .bool b2, .bool b3, .bool b4, .bool b5]) (.list [.bool b0, .bool b1, .bool b2, .bool b3, .bool b4, .bool b5]) = true := by
      simp [PyData.eqv, PyData.eqvAll]
    unfold gNe eqG
    simp only [e, hs, hq]
    rfl
theorem ne_one {i : Nat} (S : Sto) : gNe (oneOf i) (oneOf i) S = some (.bl false) := by
  have e : oneOf i = .lst (((List.range 6).map fun j => decide (j = i)).map D.bl) := by
    unfold oneOf
    rw [List.map_map]
    rfl
  rw [e]
  exact ne_bls _ (by simp) S
theorem comp_ok {ρ : Env} {S : Sto} {i : Nat} (h7 : ρ[7]? = some (.val (.int (i : Int)))) (hl : ρ.length = 9) : (eLst (eLC (List.map (fun x => x.2) ([("one", 8)] : List (Str × Nat))) (iRange1 (aCons (eC (.int 6)) aNil)) (gVar 8) cYes (eBin gEq (eVar 8) (eVar 7)))) ρ S = .ok (oneOf i) S := by
  have hw : WE (eLst (eLC (List.map (fun x => x.2) ([("one", 8)] : List (Str × Nat))) (iRange1 (aCons (eC (.int 6)) aNil)) (gVar 8) cYes (eBin gEq (eVar 8) (eVar 7)))) ρ S fun d S' => S' = S ∧ d = oneOf i := by
    refine we_lc (xs := rangeD 0 6) (S1 := S) (fun S' => S' = S) (fun j _ y => y = .bl (decide (j = i))) (rng1 (n := 6) (by simp [bodyM, startE, q_eVar, q_eC, q_eBin, q_eChain, q_eUn, q_eNot, q_eAnd, q_eOr, q_eIf, q_aNil, q_aCons, q_eTup, q_eLst, q_aSmall, q_eCB, q_eIxOwn, q_eLenOwn, q_oNo, q_oOf, q_eSl, q_eCall, q_eCallK, q_iSeq, q_cYes, q_eLC, q_sExp, q_sNil, q_sSeq, q_sBad, q_sBrk, q_sCont, q_sRet, q_sRetN, q_sDrop, q_sIf, q_sSet, q_sSetOwn, q_sFz, q_sApp, q_sPut, q_sPutC, q_sSetCell, q_sAsg, q_sPar, q_sPar3, q_eCallL, q_eLC2, q_eNewC, q_iZip, q_sRaise, q_sTry, Rs.bind, op1, op2, opL, gAdd, gSub, gI2, gLt, gLe, gGt, gGe, gCmp, gIx, gLen, gInt, seqOf, gNeg, q_max2, q_min2, gTuple, gVar, gTupM, gsCons, gsNil, frz1, ownOf, noX, wipeE]) (by decide)) rfl ?_ ?_
    · rintro j x S' hj rfl
      obtain ⟨hj, rfl⟩ := range_at hj
      match ρ, hl with
      | [a0, a1, a2, a3, a4, a5, a6, a7, a8], _ =>
        simp only [List.getElem?_cons_succ, List.getElem?_cons_zero, Option.some.injEq] at h7
        subst h7
        refine ⟨_, .bl (decide (j = i)), S', rfl, ?_, rfl, rfl⟩
        have e : decide ((j : Int) = (i : Int)) = decide (j = i) := by
          by_cases h : j = i
          · simp [h]
          · have : ¬ (j : Int) = (i : Int) := by omega
            simp [h, this]
        rw [← e]
        simp [bodyM, startE, q_eVar, q_eC, q_eBin, q_eChain, q_eUn, q_eNot, q_eAnd, q_eOr, q_eIf, q_aNil, q_aCons, q_eTup, q_eLst, q_aSmall, q_eCB, q_eIxOwn, q_eLenOwn, q_oNo, q_oOf, q_eSl, q_eCall, q_eCallK, q_iSeq, q_cYes, q_eLC, q_sExp, q_sNil, q_sSeq, q_sBad, q_sBrk, q_sCont, q_sRet, q_sRetN, q_sDrop, q_sIf, q_sSet, q_sSetOwn, q_sFz, q_sApp, q_sPut, q_sPutC, q_sSetCell, q_sAsg, q_sPar, q_sPar3, q_eCallL, q_eLC2, q_eNewC, q_iZip, q_sRaise, q_sTry, Rs.bind, op1, op2, opL, gAdd, gSub, gI2, gLt, gLe, gGt, gGe, gCmp, gIx, gLen, gInt, seqOf, gNeg, q_max2, q_min2, gTuple, gVar, gTupM, gsCons, gsNil, frz1, ownOf, noX, wipeE, q_eq_int]
    · rintro ys S' hyl hq rfl
      rw [rangeD_len] at hyl
      exact ⟨rfl, by rw [ext_of (f := fun j => D.bl (decide (j = i))) hyl (fun j y e => hq j _ y (at_some (by have := (List.getElem?_eq_some_iff.mp e).1; rw [rangeD_len]; omega)) e)]; rfl⟩
  obtain ⟨d, S', e, rfl, rfl⟩ := hw
  exact e
theorem others (a : Int) {k : Int} (h0 : 0 ≤ k) (h : k < 5) : ∃ o : D, L2.atI [D.non, .int (-a), .str "x", .tup [.int a, .int 2], .bl true] k = some o ∧ Vd 12 1 o := by
  obtain ⟨d, e, hm⟩ := atI_mem (xs := [D.non, .int (-a), .str "x", .tup [.int a, .int 2], .bl true]) h0 h
  refine ⟨d, e, ?_⟩
  simp only [List.mem_cons, List.not_mem_nil, or_false] at hm
  rcases hm with rfl | rfl | rfl | rfl | rfl
  · exact .inl rfl
  · exact .inl rfl
  · exact .inl (by decide +kernel)
  · refine .inr ⟨_, rfl, by simp, fun y hy => ?_⟩
    simp only [List.mem_cons, List.not_mem_nil, or_false] at hy
    rcases hy with rfl | rfl <;> rfl
  · exact .inl rfl
theorem fld_at {x : D} {a : Int} (h : x ∈ [D.exv "BadValue" "at" (.int a), .exv "BadText" "at" (.int a), .exv "BadLevels" "at" (.int a), .exv "BadValue" "at" (.int a), .exv "BadText" "at" (.int a), .exv "BadLevels" "at" (.int a)]) : gFld "at" ["BadValue", "BadText", "BadLevels"] x = some (.int a) := by
  simp only [List.mem_cons, List.not_mem_nil, or_false] at h
  rcases h with rfl | rfl | rfl | rfl | rfl | rfl <;> simp [gFld]
theorem fld_name {x o : D} (h : x ∈ [D.exv "NoMaster" "name" o, .exv "NoMaster" "name" o, .exv "TakenName" "name" o, .exv "TakenName" "name" o]) : gFld "name" ["NoMaster", "TakenName"] x = some o := by
  simp only [List.mem_cons, List.not_mem_nil, or_false] at h
  rcases h with rfl | rfl | rfl | rfl <;> simp [gFld]
theorem law_true00 (ns : List Int) (hn : ns.length ≤ 63) : ∃ S, m_law00 [.scr (ns.map D.int)] [] = .ok (.bl true) S := by
  suffices key : ∃ d S', m_law00 [.scr (ns.map D.int)] [] = .ok d S' ∧ d = .bl true by
    obtain ⟨d, S', e, rfl⟩ := key
    exact ⟨S', e⟩
  unfold m_law00
  apply body_ret
  unfold b_law00
  obtain ⟨row, S0, e0, rfl, hr⟩ := numbers_ok ns hn []
  refine sq_set (d := row) (S1 := []) (by simp [bodyM, startE, q_eVar, q_eC, q_eBin, q_eChain, q_eUn, q_eNot, q_eAnd, q_eOr, q_eIf, q_aNil, q_aCons, q_eTup, q_eLst, q_aSmall, q_eCB, q_eIxOwn, q_eLenOwn, q_oNo, q_oOf, q_eSl, q_eCall, q_eCallK, q_iSeq, q_cYes, q_eLC, q_sExp, q_sNil, q_sSeq, q_sBad, q_sBrk, q_sCont, q_sRet, q_sRetN, q_sDrop, q_sIf, q_sSet, q_sSetOwn, q_sFz, q_sApp, q_sPut, q_sPutC, q_sSetCell, q_sAsg, q_sPar, q_sPar3, q_eCallL, q_eLC2, q_eNewC, q_iZip, q_sRaise, q_sTry, Rs.bind, op1, op2, opL, gAdd, gSub, gI2, gLt, gLe, gGt, gGe, gCmp, gIx, gLen, gInt, seqOf, gNeg, q_max2, q_min2, gTuple, gVar, gTupM, gsCons, gsNil, frz1, ownOf, noX, wipeE, e0]) ?_
  refine sq_ ⟨[.val (.scr (ns.map D.int)), .val row, .val (.cell 0), .un, .un, .un, .un, .un, .un], [[.int 0]], by simp [bodyM, startE, q_eVar, q_eC, q_eBin, q_eChain, q_eUn, q_eNot, q_eAnd, q_eOr, q_eIf, q_aNil, q_aCons, q_eTup, q_eLst, q_aSmall, q_eCB, q_eIxOwn, q_eLenOwn, q_oNo, q_oOf, q_eSl, q_eCall, q_eCallK, q_iSeq, q_cYes, q_eLC, q_sExp, q_sNil, q_sSeq, q_sBad, q_sBrk, q_sCont, q_sRet, q_sRetN, q_sDrop, q_sIf, q_sSet, q_sSetOwn, q_sFz, q_sApp, q_sPut, q_sPutC, q_sSetCell, q_sAsg, q_sPar, q_sPar3, q_eCallL, q_eLC2, q_eNewC, q_iZip, q_sRaise, q_sTry, Rs.bind, op1, op2, opL, gAdd, gSub, gI2, gLt, gLe, gGt, gGe, gCmp, gIx, gLen, gInt, seqOf, gNeg, q_max2, q_min2, gTuple, gVar, gTupM, gsCons, gsNil, frz1, ownOf, noX, wipeE], ?_⟩
  have hs0 : Sp [[D.int 0]] := ⟨0, [], rfl, by decide⟩
  obtain ⟨k1, S1, e1, hk1, hs1⟩ := take_ok hr (lim := 997) (by decide) hs0
  refine sq_set (d := .int (k1 - 9)) (S1 := S1) (by simp [bodyM, startE, q_eVar, q_eC, q_eBin, q_eChain, q_eUn, q_eNot, q_eAnd, q_eOr, q_eIf, q_aNil, q_aCons, q_eTup, q_eLst, q_aSmall, q_eCB, q_eIxOwn, q_eLenOwn, q_oNo, q_oOf, q_eSl, q_eCall, q_eCallK, q_iSeq, q_cYes, q_eLC, q_sExp, q_sNil, q_sSeq, q_sBad, q_sBrk, q_sCont, q_sRet, q_sRetN, q_sDrop, q_sIf, q_sSet, q_sSetOwn, q_sFz, q_sApp, q_sPut, q_sPutC, q_sSetCell, q_sAsg, q_sPar, q_sPar3, q_eCallL, q_eLC2, q_eNewC, q_iZip, q_sRaise, q_sTry, Rs.bind, op1, op2, opL, gAdd, gSub, gI2, gLt, gLe, gGt, gGe, gCmp, gIx, gLen, gInt, seqOf, gNeg, q_max2, q_min2, gTuple, gVar, gTupM, gsCons, gsNil, frz1, ownOf, noX, wipeE, e1]) ?_
  generalize k1 - 9 = a
  obtain ⟨k2, S2, e2, hk2, hs2⟩ := take_ok hr (lim := 5) (by decide) hs1
  obtain ⟨o, eo, ho⟩ := others a hk2.1 hk2.2
  refine sq_set (d := o) (S1 := S2) (by simp [bodyM, startE, q_eVar, q_eC, q_eBin, q_eChain, q_eUn, q_eNot, q_eAnd, q_eOr, q_eIf, q_aNil, q_aCons, q_eTup, q_eLst, q_aSmall, q_eCB, q_eIxOwn, q_eLenOwn, q_oNo, q_oOf, q_eSl, q_eCall, q_eCallK, q_iSeq, q_cYes, q_eLC, q_sExp, q_sNil, q_sSeq, q_sBad, q_sBrk, q_sCont, q_sRet, q_sRetN, q_sDrop, q_sIf, q_sSet, q_sSetOwn, q_sFz, q_sApp, q_sPut, q_sPutC, q_sSetCell, q_sAsg, q_sPar, q_sPar3, q_eCallL, q_eLC2, q_eNewC, q_iZip, q_sRaise, q_sTry, Rs.bind, op1, op2, opL, gAdd, gSub, gI2, gLt, gLe, gGt, gGe, gCmp, gIx, gLen, gInt, seqOf, gNeg, q_max2, q_min2, gTuple, gVar, gTupM, gsCons, gsNil, frz1, ownOf, noX, wipeE, e2, eo]) ?_
  have t1 := so_refl (w := 12) (by decide) 0 12 (.int a) S2 (by rfl) (by decide)
  have t2 := so_refl (w := 12) (by decide) 1 12 o S2 ho (by decide)
  refine sq_for (items := [D.exv "BadValue" "at" (.int a), .exv "BadText" "at" (.int a), .exv "BadLevels" "at" (.int a), .exv "BadValue" "at" (.int a), .exv "BadText" "at" (.int a), .exv "BadLevels" "at" (.int a)]) (S1 := S2) (fun i ρ S => ∃ a5 : Sl, ρ = [.val (.scr (ns.map D.int)), .val row, .val (.cell 0), .val (.int a), .val o, a5, .un, .un, .un] ∧ S = S2) (by simp [bodyM, startE, q_eVar, q_eC, q_eBin, q_eChain, q_eUn, q_eNot, q_eAnd, q_eOr, q_eIf, q_aNil, q_aCons, q_eTup, q_eLst, q_aSmall, q_eCB, q_eIxOwn, q_eLenOwn, q_oNo, q_oOf, q_eSl, q_eCall, q_eCallK, q_iSeq, q_cYes, q_eLC, q_sExp, q_sNil, q_sSeq, q_sBad, q_sBrk, q_sCont, q_sRet, q_sRetN, q_sDrop, q_sIf, q_sSet, q_sSetOwn, q_sFz, q_sApp, q_sPut, q_sPutC, q_sSetCell, q_sAsg, q_sPar, q_sPar3, q_eCallL, q_eLC2, q_eNewC, q_iZip, q_sRaise, q_sTry, Rs.bind, op1, op2, opL, gAdd, gSub, gI2, gLt, gLe, gGt, gGe, gCmp, gIx, gLen, gInt, seqOf, gNeg, q_max2, q_min2, gTuple, gVar, gTupM, gsCons, gsNil, frz1, ownOf, noX, wipeE, eMkV]) ⟨_, rfl, rfl⟩ ?_ ?_
  · rintro i x ρ S hx ⟨a5, rfl, rfl⟩
    have e3 := fld_at (List.mem_of_getElem? hx)
    exact ⟨_, rfl, ws_ifF (S1 := S) (by simp [bodyM, startE, q_eVar, q_eC, q_eBin, q_eChain, q_eUn, q_eNot, q_eAnd, q_eOr, q_eIf, q_aNil, q_aCons, q_eTup, q_eLst, q_aSmall, q_eCB, q_eIxOwn, q_eLenOwn, q_oNo, q_oOf, q_eSl, q_eCall, q_eCallK, q_iSeq, q_cYes, q_eLC, q_sExp, q_sNil, q_sSeq, q_sBad, q_sBrk, q_sCont, q_sRet, q_sRetN, q_sDrop, q_sIf, q_sSet, q_sSetOwn, q_sFz, q_sApp, q_sPut, q_sPutC, q_sSetCell, q_sAsg, q_sPar, q_sPar3, q_eCallL, q_eLC2, q_eNewC, q_iZip, q_sRaise, q_sTry, Rs.bind, op1, op2, opL, gAdd, gSub, gI2, gLt, gLe, gGt, gGe, gCmp, gIx, gLen, gInt, seqOf, gNeg, q_max2, q_min2, gTuple, gVar, gTupM, gsCons, gsNil, frz1, ownOf, noX, wipeE, e3, t1]) (ws_nil ⟨_, _, rfl, _, rfl, rfl⟩)⟩
  rintro ρ S ⟨a5, rfl, rfl⟩
  refine sq_for (items := [D.exv "NoMaster" "name" o, .exv "NoMaster" "name" o, .exv "TakenName" "name" o, .exv "TakenName" "name" o]) (S1 := S) (fun i ρ S' => ∃ a5 : Sl, ρ = [.val (.scr (ns.map D.int)), .val row, .val (.cell 0), .val (.int a), .val o, a5, .un, .un, .un] ∧ S' = S) (by simp [bodyM, startE, q_eVar, q_eC, q_eBin, q_eChain, q_eUn, q_eNot, q_eAnd, q_eOr, q_eIf, q_aNil, q_aCons, q_eTup, q_eLst, q_aSmall, q_eCB, q_eIxOwn, q_eLenOwn, q_oNo, q_oOf, q_eSl, q_eCall, q_eCallK, q_iSeq, q_cYes, q_eLC, q_sExp, q_sNil, q_sSeq, q_sBad, q_sBrk, q_sCont, q_sRet, q_sRetN, q_sDrop, q_sIf, q_sSet, q_sSetOwn, q_sFz, q_sApp, q_sPut, q_sPutC, q_sSetCell, q_sAsg, q_sPar, q_sPar3, q_eCallL, q_eLC2, q_eNewC, q_iZip, q_sRaise, q_sTry, Rs.bind, op1, op2, opL, gAdd, gSub, gI2, gLt, gLe, gGt, gGe, gCmp, gIx, gLen, gInt, seqOf, gNeg, q_max2, q_min2, gTuple, gVar, gTupM, gsCons, gsNil, frz1, ownOf, noX, wipeE, eMkV]) ⟨_, rfl, rfl⟩ ?_ ?_
  · rintro i x ρ S' hx ⟨a5, rfl, rfl⟩
    have e3 := fld_name (List.mem_of_getElem? hx)
    exact ⟨_, rfl, ws_ifF (S1 := S') (by simp [bodyM, startE, q_eVar, q_eC, q_eBin, q_eChain, q_eUn, q_eNot, q_eAnd, q_eOr, q_eIf, q_aNil, q_aCons, q_eTup, q_eLst, q_aSmall, q_eCB, q_eIxOwn, q_eLenOwn, q_oNo, q_oOf, q_eSl, q_eCall, q_eCallK, q_iSeq, q_cYes, q_eLC, q_sExp, q_sNil, q_sSeq, q_sBad, q_sBrk, q_sCont, q_sRet, q_sRetN, q_sDrop, q_sIf, q_sSet, q_sSetOwn, q_sFz, q_sApp, q_sPut, q_sPutC, q_sSetCell, q_sAsg, q_sPar, q_sPar3, q_eCallL, q_eLC2, q_eNewC, q_iZip, q_sRaise, q_sTry, Rs.bind, op1, op2, opL, gAdd, gSub, gI2, gLt, gLe, gGt, gGe, gCmp, gIx, gLen, gInt, seqOf, gNeg, q_max2, q_min2, gTuple, gVar, gTupM, gsCons, gsNil, frz1, ownOf, noX, wipeE, e3, t2]) (ws_nil ⟨_, _, rfl, _, rfl, rfl⟩)⟩
  rintro ρ S' ⟨a5, rfl, rfl⟩
  refine sq_set (d := .lst (everyE a o)) (S1 := S') (by simp [bodyM, startE, q_eVar, q_eC, q_eBin, q_eChain, q_eUn, q_eNot, q_eAnd, q_eOr, q_eIf, q_aNil, q_aCons, q_eTup, q_eLst, q_aSmall, q_eCB, q_eIxOwn, q_eLenOwn, q_oNo, q_oOf, q_eSl, q_eCall, q_eCallK, q_iSeq, q_cYes, q_eLC, q_sExp, q_sNil, q_sSeq, q_sBad, q_sBrk, q_sCont, q_sRet, q_sRetN, q_sDrop, q_sIf, q_sSet, q_sSetOwn, q_sFz, q_sApp, q_sPut, q_sPutC, q_sSetCell, q_sAsg, q_sPar, q_sPar3, q_eCallL, q_eLC2, q_eNewC, q_iZip, q_sRaise, q_sTry, Rs.bind, op1, op2, opL, gAdd, gSub, gI2, gLt, gLe, gGt, gGe, gCmp, gIx, gLen, gInt, seqOf, gNeg, q_max2, q_min2, gTuple, gVar, gTupM, gsCons, gsNil, frz1, ownOf, noX, wipeE, eMkV, eMk0, everyE]) ?_
  refine sq_for (items := rangeD 0 6) (S1 := S') (fun i ρ S => ∃ a7 : Sl, ρ = [.val (.scr (ns.map D.int)), .val row, .val (.cell 0), .val (.int a), .val o, a5, .val (.lst (everyE a o)), a7, .un] ∧ S = S') (rng1 (n := 6) (by simp [bodyM, startE, q_eVar, q_eC, q_eBin, q_eChain, q_eUn, q_eNot, q_eAnd, q_eOr, q_eIf, q_aNil, q_aCons, q_eTup, q_eLst, q_aSmall, q_eCB, q_eIxOwn, q_eLenOwn, q_oNo, q_oOf, q_eSl, q_eCall, q_eCallK, q_iSeq, q_cYes, q_eLC, q_sExp, q_sNil, q_sSeq, q_sBad, q_sBrk, q_sCont, q_sRet, q_sRetN, q_sDrop, q_sIf, q_sSet, q_sSetOwn, q_sFz, q_sApp, q_sPut, q_sPutC, q_sSetCell, q_sAsg, q_sPar, q_sPar3, q_eCallL, q_eLC2, q_eNewC, q_iZip, q_sRaise, q_sTry, Rs.bind, op1, op2, opL, gAdd, gSub, gI2, gLt, gLe, gGt, gGe, gCmp, gIx, gLen, gInt, seqOf, gNeg, q_max2, q_min2, gTuple, gVar, gTupM, gsCons, gsNil, frz1, ownOf, noX, wipeE]) (by decide)) ⟨_, rfl, rfl⟩ ?_ ?_
  · rintro i x ρ S hx ⟨a7, rfl, rfl⟩
    obtain ⟨hi, rfl⟩ := range_at hx
    refine ⟨_, rfl, ?_⟩
    have hi6 : i < (everyE a o).length := hi
    have ex := at_some hi6
    generalize (everyE a o)[i] = x at ex
    obtain ⟨f1, f2, f3, _⟩ := of_ok a o ex S
    have f4 := comp_ok (ρ := [.val (.scr (ns.map D.int)), .val row, .val (.cell 0), .val (.int a), .val o, a5, .val (.lst (everyE a o)), .val (.int (i : Int)), .un]) (S := S) (i := i) rfl rfl
    have f5 := ne_one (i := i) S
    have f6 : L2.atI (everyE a o) (i : Int) = some x := by rw [atI_nat hi6]; rw [at_some hi6] at ex; exact ex
    have g1 : (eBin gNe (eCall 1 m_f_law_of (aCons (eBin gIx (eVar 6) (eVar 7)) aNil)) (eLst (eLC (List.map (fun x => x.2) ([("one", 8)] : List (Str × Nat))) (iRange1 (aCons (eC (.int 6)) aNil)) (gVar 8) cYes (eBin gEq (eVar 8) (eVar 7))))) [.val (.scr (ns.map D.int)), .val row, .val (.cell 0), .val (.int a), .val o, a5, .val (.lst (everyE a o)), .val (.int (i : Int)), .un] S = .ok (.bl false) S :=
      bin_ok (d1 := oneOf i) (S1 := S) (by simp [bodyM, startE, q_eVar, q_eC, q_eBin, q_eChain, q_eUn, q_eNot, q_eAnd, q_eOr, q_eIf, q_aNil, q_aCons, q_eTup, q_eLst, q_aSmall, q_eCB, q_eIxOwn, q_eLenOwn, q_oNo, q_oOf, q_eSl, q_eCall, q_eCallK, q_iSeq, q_cYes, q_eLC, q_sExp, q_sNil, q_sSeq, q_sBad, q_sBrk, q_sCont, q_sRet, q_sRetN, q_sDrop, q_sIf, q_sSet, q_sSetOwn, q_sFz, q_sApp, q_sPut, q_sPutC, q_sSetCell, q_sAsg, q_sPar, q_sPar3, q_eCallL, q_eLC2, q_eNewC, q_iZip, q_sRaise, q_sTry, Rs.bind, op1, op2, opL, gAdd, gSub, gI2, gLt, gLe, gGt, gGe, gCmp, gIx, gLen, gInt, seqOf, gNeg, q_max2, q_min2, gTuple, gVar, gTupM, gsCons, gsNil, frz1, ownOf, noX, wipeE, f6, f1]) f4 f5
    refine ws_ifF (S1 := S) ?_ (ws_nil ⟨_, _, rfl, _, rfl, rfl⟩)
    show (eOr _ _) [.val (.scr (ns.map D.int)), .val row, .val (.cell 0), .val (.int a), .val o, a5, .val (.lst (everyE a o)), .val (.int (i : Int)), .un] S = _
    unfold eOr
    rw [g1]
    simp [bodyM, startE, q_eVar, q_eC, q_eBin, q_eChain, q_eUn, q_eNot, q_eAnd, q_eOr, q_eIf, q_aNil, q_aCons, q_eTup, q_eLst, q_aSmall, q_eCB, q_eIxOwn, q_eLenOwn, q_oNo, q_oOf, q_eSl, q_eCall, q_eCallK, q_iSeq, q_cYes, q_eLC, q_sExp, q_sNil, q_sSeq, q_sBad, q_sBrk, q_sCont, q_sRet, q_sRetN, q_sDrop, q_sIf, q_sSet, q_sSetOwn, q_sFz, q_sApp, q_sPut, q_sPutC, q_sSetCell, q_sAsg, q_sPar, q_sPar3, q_eCallL, q_eLC2, q_eNewC, q_iZip, q_sRaise, q_sTry, Rs.bind, op1, op2, opL, gAdd, gSub, gI2, gLt, gLe, gGt, gGe, gCmp, gIx, gLen, gInt, seqOf, gNeg, q_max2, q_min2, gTuple, gVar, gTupM, gsCons, gsNil, frz1, ownOf, noX, wipeE, f6, f2, f3]
  rintro ρ S ⟨a7, rfl, rfl⟩
  obtain ⟨k3, S3, e3, hk3, hs3⟩ := take_ok hr (lim := 9) (by decide) hs2
  have c0 := caught0 S
  have c1 := caught1 (n := 1 + k3) (by omega) S3
  exact ws_ret (d := .bl true) (S1 := S3) (by simp [bodyM, startE, q_eVar, q_eC, q_eBin, q_eChain, q_eUn, q_eNot, q_eAnd, q_eOr, q_eIf, q_aNil, q_aCons, q_eTup, q_eLst, q_aSmall, q_eCB, q_eIxOwn, q_eLenOwn, q_oNo, q_oOf, q_eSl, q_eCall, q_eCallK, q_iSeq, q_cYes, q_eLC, q_sExp, q_sNil, q_sSeq, q_sBad, q_sBrk, q_sCont, q_sRet, q_sRetN, q_sDrop, q_sIf, q_sSet, q_sSetOwn, q_sFz, q_sApp, q_sPut, q_sPutC, q_sSetCell, q_sAsg, q_sPar, q_sPar3, q_eCallL, q_eLC2, q_eNewC, q_iZip, q_sRaise, q_sTry, Rs.bind, op1, op2, opL, gAdd, gSub, gI2, gLt, gLe, gGt, gGe, gCmp, gIx, gLen, gInt, seqOf, gNeg, q_max2, q_min2, gTuple, gVar, gTupM, gsCons, gsNil, frz1, ownOf, noX, wipeE, c0, e3, c1]) ⟨_, _, rfl, rfl⟩
end KF
end

section
namespace KF
open PySem PySem.Spec PyProof.Rows L2
def top (i : Nat) : Stmt := PySem.Challenge.pw_keptform_k00_errors.main.body.getD i (.Pass ⟨0, 0, 0, 0⟩)
structure Txt (K : PySem.W.Frag) (mg : Str → Option Value) (T : Ct) : Prop where
  k : K = T.K
  n_ArithmeticError : mg "ArithmeticError" = none
  n_Exception : mg "Exception" = none
  n_LookupError : mg "LookupError" = none
  n_ValueError : mg "ValueError" = none
  n_bool : mg "bool" = none
  n_int : mg "int" = none
  n_isinstance : mg "isinstance" = none
  n_len : mg "len" = none
  n_range : mg "range" = none
  n_str : mg "str" = none
  n_tuple : mg "tuple" = none
  c_BadLevels : mg "BadLevels" = some (.ref (T.fa "BadLevels"))
  c_BadText : mg "BadText" = some (.ref (T.fa "BadText"))
  c_BadValue : mg "BadValue" = some (.ref (T.fa "BadValue"))
  c_FormError : mg "FormError" = some (.ref (T.fa "FormError"))
  c_NoMaster : mg "NoMaster" = some (.ref (T.fa "NoMaster"))
  c_TakenName : mg "TakenName" = some (.ref (T.fa "TakenName"))
  c_TooMany : mg "TooMany" = some (.ref (T.fa "TooMany"))
  e_FormError_NoMaster : ∀ q ∈ tb_NoMaster, PySem.W.exmOne K (.ref (T.fa q.1)) (.ref (T.fa "FormError")) = some true
  i_ArithmeticError : IsT K T (.type "ArithmeticError") tb_ArithmeticError
  i_BadLevels : IsT K T (.ref (T.fa "BadLevels")) tb_BadLevels
  i_BadText : IsT K T (.ref (T.fa "BadText")) tb_BadText
  i_BadValue : IsT K T (.ref (T.fa "BadValue")) tb_BadValue
  i_Exception : IsT K T (.type "Exception") tb_Exception
  i_FormError : IsT K T (.ref (T.fa "FormError")) tb_FormError
  i_LookupError : IsT K T (.type "LookupError") tb_LookupError
  i_NoMaster : IsT K T (.ref (T.fa "NoMaster")) tb_NoMaster
  i_TakenName : IsT K T (.ref (T.fa "TakenName")) tb_TakenName
  i_TooMany : IsT K T (.ref (T.fa "TooMany")) tb_TooMany
  i_ValueError : IsT K T (.type "ValueError") tb_ValueError
  z_TooMany : ExZ K mg T "TooMany"
section
variable {P : Program} {w : World} {K : PySem.W.Frag} {mg : Str → Option Value} {base : Heap} {T : Ct}
abbrev s_f_law_so : Stmt := top 9
theorem sc_f_law_so : FnScope ["found", "meant", "k"] ["found", "meant"] (defScope s_f_law_so) := ⟨rfl, rfl, rfl, by decide +kernel, rfl, by decide +kernel, by decide +kernel⟩
theorem w_f_law_so (Tx : Txt K mg T) {fd : FuncData} (F : FunD K "_law_so" "_law_so" (defArgs s_f_law_so) (defBody s_f_law_so) (defScope s_f_law_so) [] [] (T.fa "_law_so") fd) (hm : mg "_law_so" = some (.ref (T.fa "_law_so")))    : ∀ n, FnM P w K mg base T (0 + 1 + n) "_law_so" ["found", "meant"] [] (m_f_law_so n) := by
  intro n
  induction n with
  | zero => exact fn_never (N := ["found", "meant", "k"]) F Tx.k hm sc_f_law_so (fun _ _ _ _ _ _ us hl => match us, hl with | [_, _], _ => rfl) (fun n hn => absurd hn (by simp))
  | succ n ih => exact fn_mk (N := ["found", "meant", "k"]) F Tx.k hm sc_f_law_so (fun _ _ _ _ _ _ us hl => match us, hl with | [_, _], _ => rfl) (fun n hn => absurd hn (by simp)) fun cdv A outer s H E hr tk hp =>
    (sb_cons (ss_if (sc_cmp os_is (se_var 1) se_non)
      (sb_one (ss_ret (se_cmp os_is (se_var 0) se_non)))
      sb_nil)
    (sb_cons (ss_if (sc_val (se_isi1 .tup (se_var 1) Tx.n_isinstance Tx.n_tuple PyProof.Rows.boot_tuple))
      (sb_cons (ss_if (sc_bool (sw_or (sc_not (sc_val (se_isi1 .tup (se_var 0) Tx.n_isinstance Tx.n_tuple PyProof.Rows.boot_tuple))) (sw_or1 (sc_cmp (os_ne hr.units) (se_callB cs_len Tx.n_len PySem.boot_len (sa_cons (se_var 0) sa_nil)) (se_callB cs_len Tx.n_len PySem.boot_len (sa_cons (se_var 1) sa_nil))))))
      (sb_one (ss_ret se_bl))
      sb_nil)
    (sb_cons (ss_for hp rfl (si_range1 (sa_cons (se_callB cs_len Tx.n_len PySem.boot_len (sa_cons (se_var 1) sa_nil)) sa_nil) Tx.n_range) (sg_var 2 sc_f_law_so.nd) (good_var 2)
      (sb_one (ss_if (sc_not (sc_val (se_call ih hr (Nat.le_refl _) tk (sa_cons (se_ix (se_var 0) (se_var 2)) (sa_cons (se_ix (se_var 1) (se_var 2)) sa_nil)))))
      (sb_one (ss_ret se_bl))
      sb_nil)))
    (sb_one (ss_ret se_bl))))
      sb_nil)
    (sb_cons (ss_if (sc_bool (sw_or (sc_val (se_isi1 .bl (se_var 1) Tx.n_isinstance Tx.n_bool PyProof.Rows.boot_bool)) (sw_or1 (sc_val (se_isi1 .bl (se_var 0) Tx.n_isinstance Tx.n_bool PyProof.Rows.boot_bool)))))
      (sb_one (ss_ret (se_and (se_isi1 .bl (se_var 1) Tx.n_isinstance Tx.n_bool PyProof.Rows.boot_bool) (se_and (se_isi1 .bl (se_var 0) Tx.n_isinstance Tx.n_bool PyProof.Rows.boot_bool) (se_one (se_cmp (os_eq hr.units) (se_var 0) (se_var 1)))))))
      sb_nil)
    (sb_cons (ss_if (sc_val (se_isi1 .int (se_var 1) Tx.n_isinstance Tx.n_int PyProof.Rows.boot_int))
      (sb_one (ss_ret (se_and (se_isi1 .int (se_var 0) Tx.n_isinstance Tx.n_int PyProof.Rows.boot_int) (se_one (se_cmp (os_eq hr.units) (se_var 0) (se_var 1))))))
      sb_nil)
    (sb_one (ss_ret (se_and (se_isi1 .str (se_var 1) Tx.n_isinstance Tx.n_str PyProof.Rows.boot_str) (se_and (se_isi1 .str (se_var 0) Tx.n_isinstance Tx.n_str PyProof.Rows.boot_str) (se_one (se_cmp (os_eq hr.units) (se_var 0) (se_var 1)))))))))))
abbrev s_f_law_numbers : Stmt := top 10
theorem sc_f_law_numbers : FnScope ["script", "row", "cell", "left", "k", "mixed"] ["script"] (defScope s_f_law_numbers) := ⟨rfl, rfl, rfl, by decide +kernel, rfl, by decide +kernel, by decide +kernel⟩
theorem w_f_law_numbers (Tx : Txt K mg T) {fd : FuncData} (F : FunD K "_law_numbers" "_law_numbers" (defArgs s_f_law_numbers) (defBody s_f_law_numbers) (defScope s_f_law_numbers) [] [] (T.fa "_law_numbers") fd) (hm : mg "_law_numbers" = some (.ref (T.fa "_law_numbers")))    : FnM P w K mg base T 1 "_law_numbers" ["script"] [] m_f_law_numbers :=
  fn_mk (N := ["script", "row", "cell", "left", "k", "mixed"]) F Tx.k hm sc_f_law_numbers (fun _ _ _ _ _ _ us hl => match us, hl with | [_], _ => rfl) (fun n hn => absurd hn (by simp)) fun cdv A outer s H E hr tk hp =>
    (sb_cons (ss_setOwn 1 (sn_lst sa_nil) sc_f_law_numbers.nd)
    (sb_cons (ss_for hp rfl (si_seq (se_sl (se_var 0) so_no (so_of se_int))) (sg_var 2 sc_f_law_numbers.nd) (good_var 2)
      (sb_one (ss_if (sc_cmp os_ge (se_var 2) (se_bin os_pow se_int se_int))
      (sb_cons (ss_set 3 (se_var 2) sc_f_law_numbers.nd)
    (sb_one (ss_for hp rfl (si_range1 (sa_cons se_int sa_nil) Tx.n_range) (sg_var 4 sc_f_law_numbers.nd) (good_var 4)
      (sb_cons (ss_if (sc_cmp (os_eq hr.units) (se_var 3) se_int)
      (sb_one ss_break)
      sb_nil)
    (sb_cons (ss_app 1 (se_bin os_mod (se_callTy cs_int Tx.n_int PyProof.Rows.boot_int (sa_cons (se_var 3) sa_nil)) se_int))
    (sb_one (ss_set 3 (se_bin os_div (se_var 3) se_int) sc_f_law_numbers.nd)))))))
      (sb_one (ss_for hp rfl (si_range1 (sa_cons se_int sa_nil) Tx.n_range) (sg_var 4 sc_f_law_numbers.nd) (good_var 4)
      (sb_cons (ss_set 5 (se_bin os_mod (se_callTy cs_int Tx.n_int PyProof.Rows.boot_int (sa_cons (se_bin os_add (se_bin os_add (se_bin os_mul (se_var 2) se_int) (se_bin os_mul (se_var 4) se_int)) se_int) sa_nil)) se_int) sc_f_law_numbers.nd)
    (sb_one (ss_app 1 (se_bin os_mod (se_callTy cs_int Tx.n_int PyProof.Rows.boot_int (sa_cons (se_bin os_add (se_bin os_mul (se_var 5) se_int) (se_var 4)) sa_nil)) se_int)))))))))
    (sb_cons (ss_if (sc_cmp (os_eq hr.units) (se_lenOwn 1 Tx.n_len) se_int)
      (sb_one (ss_app 1 se_int))
      sb_nil)
    (sb_one (ss_fz 1 (ss_ret (se_var 1)))))))
abbrev s_f_law_draw : Stmt := top 11
theorem sc_f_law_draw : FnScope ["row", "at", "limit", "mixed"] ["row", "at", "limit"] (defScope s_f_law_draw) := ⟨rfl, rfl, rfl, by decide +kernel, rfl, by decide +kernel, by decide +kernel⟩
theorem w_f_law_draw (Tx : Txt K mg T) {fd : FuncData} (F : FunD K "_law_draw" "_law_draw" (defArgs s_f_law_draw) (defBody s_f_law_draw) (defScope s_f_law_draw) [] [] (T.fa "_law_draw") fd) (hm : mg "_law_draw" = some (.ref (T.fa "_law_draw")))    : FnM P w K mg base T 1 "_law_draw" ["row", "at", "limit"] [] m_f_law_draw :=
  fn_mk (N := ["row", "at", "limit", "mixed"]) F Tx.k hm sc_f_law_draw (fun _ _ _ _ _ _ us hl => match us, hl with | [_, _, _], _ => rfl) (fun n hn => absurd hn (by simp)) fun cdv A outer s H E hr tk hp =>
    (sb_cons (ss_if (sc_cmp os_lt (se_var 1) (se_callB cs_len Tx.n_len PySem.boot_len (sa_cons (se_var 0) sa_nil)))
      (sb_one (ss_ret (se_bin os_mod (se_callTy cs_int Tx.n_int PyProof.Rows.boot_int (sa_cons (se_ix (se_var 0) (se_var 1)) sa_nil)) (se_var 2))))
      sb_nil)
    (sb_cons (ss_set 3 (se_bin os_mod (se_callTy cs_int Tx.n_int PyProof.Rows.boot_int (sa_cons (se_bin os_add (se_bin os_add (se_bin os_mul (se_ix (se_var 0) (se_bin os_mod (se_callTy cs_int Tx.n_int PyProof.Rows.boot_int (sa_cons (se_var 1) sa_nil)) (se_callB cs_len Tx.n_len PySem.boot_len (sa_cons (se_var 0) sa_nil)))) se_int) (se_bin os_mul (se_var 1) se_int)) se_int) sa_nil)) se_int) sc_f_law_draw.nd)
    (sb_one (ss_ret (se_bin os_mod (se_callTy cs_int Tx.n_int PyProof.Rows.boot_int (sa_cons (se_bin os_mod (se_callTy cs_int Tx.n_int PyProof.Rows.boot_int (sa_cons (se_bin os_add (se_bin os_mul (se_var 3) se_int) (se_var 1)) sa_nil)) se_int) sa_nil)) (se_var 2))))))
abbrev s_f_law_take : Stmt := top 12
theorem sc_f_law_take : FnScope ["row", "spot", "limit"] ["row", "spot", "limit"] (defScope s_f_law_take) := ⟨rfl, rfl, rfl, by decide +kernel, rfl, by decide +kernel, by decide +kernel⟩
theorem w_f_law_take (Tx : Txt K mg T) {fd : FuncData} (F : FunD K "_law_take" "_law_take" (defArgs s_f_law_take) (defBody s_f_law_take) (defScope s_f_law_take) [] [] (T.fa "_law_take") fd) (hm : mg "_law_take" = some (.ref (T.fa "_law_take")))   (F_f_law_draw : FnM P w K mg base T 1 "_law_draw" ["row", "at", "limit"] [] m_f_law_draw) : FnM P w K mg base T 2 "_law_take" ["row", "spot", "limit"] [] m_f_law_take :=
  fn_mk (N := ["row", "spot", "limit"]) F Tx.k hm sc_f_law_take (fun _ _ _ _ _ _ us hl => match us, hl with | [_, _, _], _ => rfl) (fun n hn => absurd hn (by simp)) fun cdv A outer s H E hr tk hp =>
    (sb_cons (ss_putC (se_bin os_add (se_ix (se_var 1) se_int) se_int) (se_var 1) se_int)
    (sb_one (ss_ret (se_call F_f_law_draw hr (by decide) tk (sa_cons (se_var 0) (sa_cons (se_bin os_sub (se_ix (se_var 1) se_int) se_int) (sa_cons (se_var 2) sa_nil)))))))
abbrev s_f_law_of : Stmt := top 13
theorem sc_f_law_of : FnScope ["value", "made"] ["value"] (defScope s_f_law_of) := ⟨rfl, rfl, rfl, by decide +kernel, rfl, by decide +kernel, by decide +kernel⟩
theorem w_f_law_of (Tx : Txt K mg T) {fd : FuncData} (F : FunD K "_law_of" "_law_of" (defArgs s_f_law_of) (defBody s_f_law_of) (defScope s_f_law_of) [] [] (T.fa "_law_of") fd) (hm : mg "_law_of" = some (.ref (T.fa "_law_of")))    : FnM P w K mg base T 1 "_law_of" ["value"] [] m_f_law_of :=
  fn_mk (N := ["value", "made"]) F Tx.k hm sc_f_law_of (fun _ _ _ _ _ _ us hl => match us, hl with | [_], _ => rfl) (fun n hn => absurd hn (by simp)) fun cdv A outer s H E hr tk hp =>
    (sb_cons (ss_set 1 (se_new (sn_lst (sa_cons (se_isO tb_BadValue Tx.i_BadValue Tx.c_BadValue (se_var 0) Tx.n_isinstance) (sa_cons (se_isO tb_BadText Tx.i_BadText Tx.c_BadText (se_var 0) Tx.n_isinstance) (sa_cons (se_isO tb_BadLevels Tx.i_BadLevels Tx.c_BadLevels (se_var 0) Tx.n_isinstance) sa_nil))))) sc_f_law_of.nd)
    (sb_one (ss_ret (se_bin os_add (se_var 1) (se_new (sn_lst (sa_cons (se_isO tb_NoMaster Tx.i_NoMaster Tx.c_NoMaster (se_var 0) Tx.n_isinstance) (sa_cons (se_isO tb_TakenName Tx.i_TakenName Tx.c_TakenName (se_var 0) Tx.n_isinstance) (sa_cons (se_isO tb_TooMany Tx.i_TooMany Tx.c_TooMany (se_var 0) Tx.n_isinstance) sa_nil)))))))))
abbrev s_f_law_foreign : Stmt := top 14
theorem sc_f_law_foreign : FnScope ["value"] ["value"] (defScope s_f_law_foreign) := ⟨rfl, rfl, rfl, by decide +kernel, rfl, by decide +kernel, by decide +kernel⟩
theorem w_f_law_foreign (Tx : Txt K mg T) {fd : FuncData} (F : FunD K "_law_foreign" "_law_foreign" (defArgs s_f_law_foreign) (defBody s_f_law_foreign) (defScope s_f_law_foreign) [] [] (T.fa "_law_foreign") fd) (hm : mg "_law_foreign" = some (.ref (T.fa "_law_foreign")))    : FnM P w K mg base T 1 "_law_foreign" ["value"] [] m_f_law_foreign :=
  fn_mk (N := ["value"]) F Tx.k hm sc_f_law_foreign (fun _ _ _ _ _ _ us hl => match us, hl with | [_], _ => rfl) (fun n hn => absurd hn (by simp)) fun cdv A outer s H E hr tk hp =>
    (sb_cons (ss_if (sc_bool (sw_or (sc_val (se_isB (n := "ValueError") tb_ValueError Tx.i_ValueError (se_var 0) Tx.n_isinstance Tx.n_ValueError rfl)) (sw_or1 (sc_val (se_isB (n := "LookupError") tb_LookupError Tx.i_LookupError (se_var 0) Tx.n_isinstance Tx.n_LookupError rfl)))))
      (sb_one (ss_ret se_bl))
      sb_nil)
    (sb_one (ss_ret (se_or (se_isB (n := "ArithmeticError") tb_ArithmeticError Tx.i_ArithmeticError (se_var 0) Tx.n_isinstance Tx.n_ArithmeticError rfl) (se_one (se_not (se_isB (n := "Exception") tb_Exception Tx.i_Exception (se_var 0) Tx.n_isinstance Tx.n_Exception rfl)))))))
abbrev s_f_law_caught : Stmt := top 15
theorem sc_f_law_caught : FnScope ["at", "wrong"] ["at"] (defScope s_f_law_caught) := ⟨rfl, rfl, rfl, by decide +kernel, rfl, by decide +kernel, by decide +kernel⟩
theorem w_f_law_caught (Tx : Txt K mg T) {fd : FuncData} (F : FunD K "_law_caught" "_law_caught" (defArgs s_f_law_caught) (defBody s_f_law_caught) (defScope s_f_law_caught) [] [] (T.fa "_law_caught") fd) (hm : mg "_law_caught" = some (.ref (T.fa "_law_caught"))) (X_NoMaster : ExM P w K mg base T "NoMaster" "name")   : FnM P w K mg base T 3 "_law_caught" ["at"] [] m_f_law_caught :=
  fn_mk (N := ["at", "wrong"]) F Tx.k hm sc_f_law_caught (fun _ _ _ _ _ _ us hl => match us, hl with | [_], _ => rfl) (fun n hn => absurd hn (by simp)) fun cdv A outer s H E hr tk hp =>
    (sb_one (ss_tryB 1 tb_NoMaster Tx.c_FormError Tx.c_NoMaster Tx.e_FormError_NoMaster Tx.i_NoMaster sc_f_law_caught.nd rfl rfl Tx.n_isinstance (fun W pn xe tk hp => (sb_cons (ss_if (sc_cmp (os_eq hr.units) (se_var 0) se_int)
      (sb_one (ss_raise0 Tx.z_TooMany rfl tk))
      sb_nil)
    (sb_one (ss_raise X_NoMaster hr (by decide) rfl tk (se_var 0)))))))
abbrev s_law00 : Stmt := top 16
theorem sc_law00 : FnScope ["script", "row", "spot", "at", "other", "made", "every", "k", "one"] ["script"] (defScope s_law00) := ⟨rfl, rfl, rfl, by decide +kernel, rfl, by decide +kernel, by decide +kernel⟩
theorem w_law00 (Tx : Txt K mg T) {fd : FuncData} (F : FunD K "law" "law" (defArgs s_law00) (defBody s_law00) (defScope s_law00) [] [] (T.fa "law") fd) (hm : mg "law" = some (.ref (T.fa "law"))) (X_BadLevels : ExM P w K mg base T "BadLevels" "at") (X_BadText : ExM P w K mg base T "BadText" "at") (X_BadValue : ExM P w K mg base T "BadValue" "at") (X_NoMaster : ExM P w K mg base T "NoMaster" "name") (X_TakenName : ExM P w K mg base T "TakenName" "name") (N_BadLevels : ExN P w K mg base T "BadLevels" "at") (N_BadText : ExN P w K mg base T "BadText" "at") (N_BadValue : ExN P w K mg base T "BadValue" "at") (N_NoMaster : ExN P w K mg base T "NoMaster" "name") (N_TakenName : ExN P w K mg base T "TakenName" "name") (F_f_law_so : FnM P w K mg base T 13 "_law_so" ["found", "meant"] [] (m_f_law_so 12)) (F_f_law_numbers : FnM P w K mg base T 1 "_law_numbers" ["script"] [] m_f_law_numbers) (F_f_law_take : FnM P w K mg base T 2 "_law_take" ["row", "spot", "limit"] [] m_f_law_take) (F_f_law_of : FnM P w K mg base T 1 "_law_of" ["value"] [] m_f_law_of) (F_f_law_foreign : FnM P w K mg base T 1 "_law_foreign" ["value"] [] m_f_law_foreign) (F_f_law_caught : FnM P w K mg base T 3 "_law_caught" ["at"] [] m_f_law_caught) : FnOk P w K mg base (L2.CX P w) 14 (T.fa "law") fd ["script"] (spM T 1 m_law00) :=
  fn_ok (N := ["script", "row", "spot", "at", "other", "made", "every", "k", "one"]) F Tx.k sc_law00 fun cdv A outer s H E hr tk hp =>
    (sb_cons (ss_set 1 (se_call F_f_law_numbers hr (by decide) tk (sa_cons (se_var 0) sa_nil)) sc_law00.nd)
    (sb_cons (ss_setCell 2 (sn_lst (sa_cons se_int sa_nil)) sc_law00.nd)
    (sb_cons (ss_set 3 (se_bin os_sub (se_call F_f_law_take hr (by decide) tk (sa_cons (se_var 1) (sa_cons (se_var 2) (sa_cons se_int sa_nil)))) se_int) sc_law00.nd)
    (sb_cons (ss_set 4 (se_ix (se_new (sn_lst (sa_cons se_non (sa_cons (se_neg (se_var 3)) (sa_cons se_str (sa_cons (se_tup (sa_cons (se_var 3) (sa_cons se_int sa_nil))) (sa_cons se_bl sa_nil))))))) (se_call F_f_law_take hr (by decide) tk (sa_cons (se_var 1) (sa_cons (se_var 2) (sa_cons se_int sa_nil))))) sc_law00.nd)
    (sb_cons (ss_for hp rfl (si_seq (se_new (sn_lst (sa_cons (se_mkV X_BadValue hr (by decide) (se_var 3)) (sa_cons (se_mkV X_BadText hr (by decide) (se_var 3)) (sa_cons (se_mkV X_BadLevels hr (by decide) (se_var 3)) (sa_cons (se_mkVK N_BadValue hr (by decide) (se_var 3)) (sa_cons (se_mkVK N_BadText hr (by decide) (se_var 3)) (sa_cons (se_mkVK N_BadLevels hr (by decide) (se_var 3)) sa_nil))))))))) (sg_var 5 sc_law00.nd) (good_var 5)
      (sb_one (ss_if (sc_not (sc_val (se_call F_f_law_so hr (by decide) tk (sa_cons (se_fld ["BadValue", "BadText", "BadLevels"] (all_cons X_BadValue (all_cons X_BadText (all_cons X_BadLevels all_nil))) (se_var 5)) (sa_cons (se_var 3) sa_nil)))))
      (sb_one (ss_ret se_bl))
      sb_nil)))
    (sb_cons (ss_for hp rfl (si_seq (se_new (sn_lst (sa_cons (se_mkV X_NoMaster hr (by decide) (se_var 4)) (sa_cons (se_mkVK N_NoMaster hr (by decide) (se_var 4)) (sa_cons (se_mkV X_TakenName hr (by decide) (se_var 4)) (sa_cons (se_mkVK N_TakenName hr (by decide) (se_var 4)) sa_nil))))))) (sg_var 5 sc_law00.nd) (good_var 5)
      (sb_one (ss_if (sc_not (sc_val (se_call F_f_law_so hr (by decide) tk (sa_cons (se_fld ["NoMaster", "TakenName"] (all_cons X_NoMaster (all_cons X_TakenName all_nil)) (se_var 5)) (sa_cons (se_var 4) sa_nil)))))
      (sb_one (ss_ret se_bl))
      sb_nil)))
    (sb_cons (ss_set 6 (se_new (sn_lst (sa_cons (se_mkV X_BadValue hr (by decide) (se_var 3)) (sa_cons (se_mkV X_BadText hr (by decide) (se_var 3)) (sa_cons (se_mkV X_BadLevels hr (by decide) (se_var 3)) (sa_cons (se_mkV X_NoMaster hr (by decide) (se_var 4)) (sa_cons (se_mkV X_TakenName hr (by decide) (se_var 4)) (sa_cons (se_mk0 Tx.z_TooMany) sa_nil)))))))) sc_law00.nd)
    (sb_cons (ss_for hp rfl (si_range1 (sa_cons se_int sa_nil) Tx.n_range) (sg_var 7 sc_law00.nd) (good_var 7)
      (sb_one (ss_if (sc_bool (sw_or (sc_cmp (os_ne hr.units) (se_call F_f_law_of hr (by decide) tk (sa_cons (se_ix (se_var 6) (se_var 7)) sa_nil)) (se_new (sn_lc [("one", 8)] rfl sc_law00.nd (blkOk_by (by first | decide +kernel | rfl)) (si_range1 (sa_cons se_int sa_nil) Tx.n_range) (fun _ _ _ _ _ => (sg_var 8 sc_law00.nd)) (fun _ _ _ _ _ => (se_cmp (os_eq hr.units) (se_var 8) (se_var 7)))))) (sw_or (sc_val (se_call F_f_law_foreign hr (by decide) tk (sa_cons (se_ix (se_var 6) (se_var 7)) sa_nil))) (sw_or1 (sc_not (sc_val (se_isO tb_FormError Tx.i_FormError Tx.c_FormError (se_ix (se_var 6) (se_var 7)) Tx.n_isinstance)))))))
      (sb_one (ss_ret se_bl))
      sb_nil)))
    (sb_one (ss_ret (se_and (se_not (se_call F_f_law_caught hr (by decide) tk (sa_cons se_int sa_nil))) (se_one (se_call F_f_law_caught hr (by decide) tk (sa_cons (se_bin os_add se_int (se_call F_f_law_take hr (by decide) tk (sa_cons (se_var 1) (sa_cons (se_var 2) (sa_cons se_int sa_nil))))) sa_nil))))))))))))))
end
end KF
end

section
namespace KF
open PySem PySem.Spec PyProof.Rows L2
def dn_f_law_so : He.DefD := ⟨("_law_so", none), "_law_so", "_law_so", defArgs s_f_law_so, defBody s_f_law_so, defScope s_f_law_so, [], []⟩
def dn_f_law_numbers : He.DefD := ⟨("_law_numbers", none), "_law_numbers", "_law_numbers", defArgs s_f_law_numbers, defBody s_f_law_numbers, defScope s_f_law_numbers, [], []⟩
def dn_f_law_draw : He.DefD := ⟨("_law_draw", none), "_law_draw", "_law_draw", defArgs s_f_law_draw, defBody s_f_law_draw, defScope s_f_law_draw, [], []⟩
def dn_f_law_take : He.DefD := ⟨("_law_take", none), "_law_take", "_law_take", defArgs s_f_law_take, defBody s_f_law_take, defScope s_f_law_take, [], []⟩
def dn_f_law_of : He.DefD := ⟨("_law_of", none), "_law_of", "_law_of", defArgs s_f_law_of, defBody s_f_law_of, defScope s_f_law_of, [], []⟩
def dn_f_law_foreign : He.DefD := ⟨("_law_foreign", none), "_law_foreign", "_law_foreign", defArgs s_f_law_foreign, defBody s_f_law_foreign, defScope s_f_law_foreign, [], []⟩
def dn_f_law_caught : He.DefD := ⟨("_law_caught", none), "_law_caught", "_law_caught", defArgs s_f_law_caught, defBody s_f_law_caught, defScope s_f_law_caught, [], []⟩
def dn_law00 : He.DefD := ⟨("law", none), "law", "law", defArgs s_law00, defBody s_law00, defScope s_law00, [], []⟩
abbrev s_BadLevels : Stmt := top 4
def dn_BadLevels : He.DefD := ⟨("BadLevels", some "__init__"), "__init__", "BadLevels.__init__", defArgs (initS s_BadLevels), defBody (initS s_BadLevels), defScope (initS s_BadLevels), [], []⟩
abbrev s_BadText : Stmt := top 3
def dn_BadText : He.DefD := ⟨("BadText", some "__init__"), "__init__", "BadText.__init__", defArgs (initS s_BadText), defBody (initS s_BadText), defScope (initS s_BadText), [], []⟩
abbrev s_BadValue : Stmt := top 2
def dn_BadValue : He.DefD := ⟨("BadValue", some "__init__"), "__init__", "BadValue.__init__", defArgs (initS s_BadValue), defBody (initS s_BadValue), defScope (initS s_BadValue), [], []⟩
abbrev s_NoMaster : Stmt := top 5
def dn_NoMaster : He.DefD := ⟨("NoMaster", some "__init__"), "__init__", "NoMaster.__init__", defArgs (initS s_NoMaster), defBody (initS s_NoMaster), defScope (initS s_NoMaster), [], []⟩
abbrev s_TakenName : Stmt := top 6
def dn_TakenName : He.DefD := ⟨("TakenName", some "__init__"), "__init__", "TakenName.__init__", defArgs (initS s_TakenName), defBody (initS s_TakenName), defScope (initS s_TakenName), [], []⟩
def hfn0 : List He.DefD := [dn_f_law_so, dn_f_law_numbers, dn_f_law_draw, dn_f_law_take, dn_f_law_of, dn_f_law_foreign, dn_f_law_caught, dn_law00, dn_BadLevels, dn_BadText, dn_BadValue, dn_NoMaster, dn_TakenName]
def hfn : List He.DefD := [hfn0].flatten
def hfx0 : List Fx := [.free "ArithmeticError", .free "Exception", .free "LookupError", .free "ValueError", .free "bool", .free "int", .free "isinstance", .free "len", .free "range", .free "str", .free "tuple", .glo "_law_so", .glo "_law_numbers", .glo "_law_draw", .glo "_law_take", .glo "_law_of", .glo "_law_foreign", .glo "_law_caught", .glo "law", .glo "BadLevels", .glo "BadText", .glo "BadValue", .glo "NoMaster", .glo "TakenName", .glo "FormError"]
def hfx1 : List Fx := [.glo "TooMany"]
def hfx : List Fx := [hfx0, hfx1].flatten
def hok (K : PySem.W.Frag) : Bool := hfx.all (fun f => f.ok K) && exB "BadLevels" "at" K && exB "BadText" "at" K && exB "BadValue" "at" K && exB "NoMaster" "name" K && exB "TakenName" "name" K && exmB "FormError" tb_NoMaster K && isTB (fun K => .type "ArithmeticError") tb_ArithmeticError K && isTB (fun K => .ref (He.ga K "BadLevels")) tb_BadLevels K && isTB (fun K => .ref (He.ga K "BadText")) tb_BadText K && isTB (fun K => .ref (He.ga K "BadValue")) tb_BadValue K && isTB (fun K => .type "Exception") tb_Exception K && isTB (fun K => .ref (He.ga K "FormError")) tb_FormError K && isTB (fun K => .type "LookupError") tb_LookupError K && isTB (fun K => .ref (He.ga K "NoMaster")) tb_NoMaster K && isTB (fun K => .ref (He.ga K "TakenName")) tb_TakenName K && isTB (fun K => .ref (He.ga K "TooMany")) tb_TooMany K && isTB (fun K => .type "ValueError") tb_ValueError K && exzB "TooMany" K
abbrev R : PySem.W.OpenRow := PySem.W.OpenLaw.row PySem.Challenge.rw_keptform_k00_errors
abbrev hk : PySem.W.Hook := hookX 4 hok hfn
def hob (s : PySem.W.SharedT) : He.AlD := obsXG 4 hok hfn (HandSHeadRun.getT s)
theorem hob_eq (s : PySem.W.SharedT) : hob s = hk.obs s.abs := obsXG_eq (HandSHeadRun.getT_eq s)
def hnm0 : List Str := ["FormError", "BadValue", "BadText", "BadLevels", "NoMaster", "TakenName", "TooMany", "_law_so", "_law_numbers", "_law_draw", "_law_take", "_law_of", "_law_foreign", "_law_caught"]
def hnm : List Str := [hnm0].flatten
theorem hrun (w : World) : HandSHeadRun.RunEq R (PySem.W.view R.prog [16]) hk hob 3000 hnm w := by
  intro os
  kernel_rfl
theorem hfa {K : PySem.W.Frag} (c : SaysX hok hfn K) : (hfx.all fun f => f.ok K) = true := (Bool.and_eq_true_iff.mp (Bool.and_eq_true_iff.mp (Bool.and_eq_true_iff.mp (Bool.and_eq_true_iff.mp (Bool.and_eq_true_iff.mp (Bool.and_eq_true_iff.mp (Bool.and_eq_true_iff.mp (Bool.and_eq_true_iff.mp (Bool.and_eq_true_iff.mp (Bool.and_eq_true_iff.mp (Bool.and_eq_true_iff.mp (Bool.and_eq_true_iff.mp (Bool.and_eq_true_iff.mp (Bool.and_eq_true_iff.mp (Bool.and_eq_true_iff.mp (Bool.and_eq_true_iff.mp (Bool.and_eq_true_iff.mp (Bool.and_eq_true_iff.mp c.ok_).1).1).1).1).1).1).1).1).1).1).1).1).1).1).1).1).1).1
theorem hex_BadLevels {K : PySem.W.Frag} (c : SaysX hok hfn K) : exB "BadLevels" "at" K = true := (Bool.and_eq_true_iff.mp (Bool.and_eq_true_iff.mp (Bool.and_eq_true_iff.mp (Bool.and_eq_true_iff.mp (Bool.and_eq_true_iff.mp (Bool.and_eq_true_iff.mp (Bool.and_eq_true_iff.mp (Bool.and_eq_true_iff.mp (Bool.and_eq_true_iff.mp (Bool.and_eq_true_iff.mp (Bool.and_eq_true_iff.mp (Bool.and_eq_true_iff.mp (Bool.and_eq_true_iff.mp (Bool.and_eq_true_iff.mp (Bool.and_eq_true_iff.mp (Bool.and_eq_true_iff.mp (Bool.and_eq_true_iff.mp (Bool.and_eq_true_iff.mp c.ok_).1).1).1).1).1).1).1).1).1).1).1).1).1).1).1).1).1).2
theorem hex_BadText {K : PySem.W.Frag} (c : SaysX hok hfn K) : exB "BadText" "at" K = true := (Bool.and_eq_true_iff.mp (Bool.and_eq_true_iff.mp (Bool.and_eq_true_iff.mp (Bool.and_eq_true_iff.mp (Bool.and_eq_true_iff.mp (Bool.and_eq_true_iff.mp (Bool.and_eq_true_iff.mp (Bool.and_eq_true_iff.mp (Bool.and_eq_true_iff.mp (Bool.and_eq_true_iff.mp (Bool.and_eq_true_iff.mp (Bool.and_eq_true_iff.mp (Bool.and_eq_true_iff.mp (Bool.and_eq_true_iff.mp (Bool.and_eq_true_iff.mp (Bool.and_eq_true_iff.mp (Bool.and_eq_true_iff.mp c.ok_).1).1).1).1).1).1).1).1).1).1).1).1).1).1).1).1).2
theorem hex_BadValue {K : PySem.W.Frag} (c : SaysX hok hfn K) : exB "BadValue" "at" K = true := (Bool.and_eq_true_iff.mp (Bool.and_eq_true_iff.mp (Bool.and_eq_true_iff.mp (Bool.and_eq_true_iff.mp (Bool.and_eq_true_iff.mp (Bool.and_eq_true_iff.mp (Bool.and_eq_true_iff.mp (Bool.and_eq_true_iff.mp (Bool.and_eq_true_iff.mp (Bool.and_eq_true_iff.mp (Bool.and_eq_true_iff.mp (Bool.and_eq_true_iff.mp (Bool.and_eq_true_iff.mp (Bool.and_eq_true_iff.mp (Bool.and_eq_true_iff.mp (Bool.and_eq_true_iff.mp c.ok_).1).1).1).1).1).1).1).1).1).1).1).1).1).1).1).2
theorem hex_NoMaster {K : PySem.W.Frag} (c : SaysX hok hfn K) : exB "NoMaster" "name" K = true := (Bool.and_eq_true_iff.mp (Bool.and_eq_true_iff.mp (Bool.and_eq_true_iff.mp (Bool.and_eq_true_iff.mp (Bool.and_eq_true_iff.mp (Bool.and_eq_true_iff.mp (Bool.and_eq_true_iff.mp (Bool.and_eq_true_iff.mp (Bool.and_eq_true_iff.mp (Bool.and_eq_true_iff.mp (Bool.and_eq_true_iff.mp (Bool.and_eq_true_iff.mp (Bool.and_eq_true_iff.mp (Bool.and_eq_true_iff.mp (Bool.and_eq_true_iff.mp c.ok_).1).1).1).1).1).1).1).1).1).1).1).1).1).1).2
theorem hex_TakenName {K : PySem.W.Frag} (c : SaysX hok hfn K) : exB "TakenName" "name" K = true := (Bool.and_eq_true_iff.mp (Bool.and_eq_true_iff.mp (Bool.and_eq_true_iff.mp (Bool.and_eq_true_iff.mp (Bool.and_eq_true_iff.mp (Bool.and_eq_true_iff.mp (Bool.and_eq_true_iff.mp (Bool.and_eq_true_iff.mp (Bool.and_eq_true_iff.mp (Bool.and_eq_true_iff.mp (Bool.and_eq_true_iff.mp (Bool.and_eq_true_iff.mp (Bool.and_eq_true_iff.mp (Bool.and_eq_true_iff.mp c.ok_).1).1).1).1).1).1).1).1).1).1).1).1).1).2
theorem hcj_e_FormError_NoMaster {K : PySem.W.Frag} (c : SaysX hok hfn K) : exmB "FormError" tb_NoMaster K = true := (Bool.and_eq_true_iff.mp (Bool.and_eq_true_iff.mp (Bool.and_eq_true_iff.mp (Bool.and_eq_true_iff.mp (Bool.and_eq_true_iff.mp (Bool.and_eq_true_iff.mp (Bool.and_eq_true_iff.mp (Bool.and_eq_true_iff.mp (Bool.and_eq_true_iff.mp (Bool.and_eq_true_iff.mp (Bool.and_eq_true_iff.mp (Bool.and_eq_true_iff.mp (Bool.and_eq_true_iff.mp c.ok_).1).1).1).1).1).1).1).1).1).1).1).1).2
theorem hcj_i_ArithmeticError {K : PySem.W.Frag} (c : SaysX hok hfn K) : isTB (fun K => .type "ArithmeticError") tb_ArithmeticError K = true := (Bool.and_eq_true_iff.mp (Bool.and_eq_true_iff.mp (Bool.and_eq_true_iff.mp (Bool.and_eq_true_iff.mp (Bool.and_eq_true_iff.mp (Bool.and_eq_true_iff.mp (Bool.and_eq_true_iff.mp (Bool.and_eq_true_iff.mp (Bool.and_eq_true_iff.mp (Bool.and_eq_true_iff.mp (Bool.and_eq_true_iff.mp (Bool.and_eq_true_iff.mp c.ok_).1).1).1).1).1).1).1).1).1).1).1).2
theorem hcj_i_BadLevels {K : PySem.W.Frag} (c : SaysX hok hfn K) : isTB (fun K => .ref (He.ga K "BadLevels")) tb_BadLevels K = true := (Bool.and_eq_true_iff.mp (Bool.and_eq_true_iff.mp (Bool.and_eq_true_iff.mp (Bool.and_eq_true_iff.mp (Bool.and_eq_true_iff.mp (Bool.and_eq_true_iff.mp (Bool.and_eq_true_iff.mp (Bool.and_eq_true_iff.mp (Bool.and_eq_true_iff.mp (Bool.and_eq_true_iff.mp (Bool.and_eq_true_iff.mp c.ok_).1).1).1).1).1).1).1).1).1).1).2
theorem hcj_i_BadText {K : PySem.W.Frag} (c : SaysX hok hfn K) : isTB (fun K => .ref (He.ga K "BadText")) tb_BadText K = true := (Bool.and_eq_true_iff.mp (Bool.and_eq_true_iff.mp (Bool.and_eq_true_iff.mp (Bool.and_eq_true_iff.mp (Bool.and_eq_true_iff.mp (Bool.and_eq_true_iff.mp (Bool.and_eq_true_iff.mp (Bool.and_eq_true_iff.mp (Bool.and_eq_true_iff.mp (Bool.and_eq_true_iff.mp c.ok_).1).1).1).1).1).1).1).1).1).2
theorem hcj_i_BadValue {K : PySem.W.Frag} (c : SaysX hok hfn K) : isTB (fun K => .ref (He.ga K "BadValue")) tb_BadValue K = true := (Bool.and_eq_true_iff.mp (Bool.and_eq_true_iff.mp (Bool.and_eq_true_iff.mp (Bool.and_eq_true_iff.mp (Bool.and_eq_true_iff.mp (Bool.and_eq_true_iff.mp (Bool.and_eq_true_iff.mp (Bool.and_eq_true_iff.mp (Bool.and_eq_true_iff.mp c.ok_).1).1).1).1).1).1).1).1).2
theorem hcj_i_Exception {K : PySem.W.Frag} (c : SaysX hok hfn K) : isTB (fun K => .type "Exception") tb_Exception K = true := (Bool.and_eq_true_iff.mp (Bool.and_eq_true_iff.mp (Bool.and_eq_true_iff.mp (Bool.and_eq_true_iff.mp (Bool.and_eq_true_iff.mp (Bool.and_eq_true_iff.mp (Bool.and_eq_true_iff.mp (Bool.and_eq_true_iff.mp c.ok_).1).1).1).1).1).1).1).2
theorem hcj_i_FormError {K : PySem.W.Frag} (c : SaysX hok hfn K) : isTB (fun K => .ref (He.ga K "FormError")) tb_FormError K = true := (Bool.and_eq_true_iff.mp (Bool.and_eq_true_iff.mp (Bool.and_eq_true_iff.mp (Bool.and_eq_true_iff.mp (Bool.and_eq_true_iff.mp (Bool.and_eq_true_iff.mp (Bool.and_eq_true_iff.mp c.ok_).1).1).1).1).1).1).2
theorem hcj_i_LookupError {K : PySem.W.Frag} (c : SaysX hok hfn K) : isTB (fun K => .type "LookupError") tb_LookupError K = true := (Bool.and_eq_true_iff.mp (Bool.and_eq_true_iff.mp (Bool.and_eq_true_iff.mp (Bool.and_eq_true_iff.mp (Bool.and_eq_true_iff.mp (Bool.and_eq_true_iff.mp c.ok_).1).1).1).1).1).2
theorem hcj_i_NoMaster {K : PySem.W.Frag} (c : SaysX hok hfn K) : isTB (fun K => .ref (He.ga K "NoMaster")) tb_NoMaster K = true := (Bool.and_eq_true_iff.mp (Bool.and_eq_true_iff.mp (Bool.and_eq_true_iff.mp (Bool.and_eq_true_iff.mp (Bool.and_eq_true_iff.mp c.ok_).1).1).1).1).2
theorem hcj_i_TakenName {K : PySem.W.Frag} (c : SaysX hok hfn K) : isTB (fun K => .ref (He.ga K "TakenName")) tb_TakenName K = true := (Bool.and_eq_true_iff.mp (Bool.and_eq_true_iff.mp (Bool.and_eq_true_iff.mp (Bool.and_eq_true_iff.mp c.ok_).1).1).1).2
theorem hcj_i_TooMany {K : PySem.W.Frag} (c : SaysX hok hfn K) : isTB (fun K => .ref (He.ga K "TooMany")) tb_TooMany K = true := (Bool.and_eq_true_iff.mp (Bool.and_eq_true_iff.mp (Bool.and_eq_true_iff.mp c.ok_).1).1).2
theorem hcj_i_ValueError {K : PySem.W.Frag} (c : SaysX hok hfn K) : isTB (fun K => .type "ValueError") tb_ValueError K = true := (Bool.and_eq_true_iff.mp (Bool.and_eq_true_iff.mp c.ok_).1).2
theorem hcj_z_TooMany {K : PySem.W.Frag} (c : SaysX hok hfn K) : exzB "TooMany" K = true := (Bool.and_eq_true_iff.mp c.ok_).2
section
variable {P : Program} {w : World} {K : PySem.W.Frag} {h : Heap} {mg : Str → Option Value} {base : Heap}
theorem htx (X : K.In h) (G : h.Ns mainGlobals mg) (c : SaysX hok hfn K) : Txt K mg (tyOf K) where
  k := rfl
  n_ArithmeticError := fx_free X G (all_fact (hfa c) 0)
  n_Exception := fx_free X G (all_fact (hfa c) 1)
  n_LookupError := fx_free X G (all_fact (hfa c) 2)
  n_ValueError := fx_free X G (all_fact (hfa c) 3)
  n_bool := fx_free X G (all_fact (hfa c) 4)
  n_int := fx_free X G (all_fact (hfa c) 5)
  n_isinstance := fx_free X G (all_fact (hfa c) 6)
  n_len := fx_free X G (all_fact (hfa c) 7)
  n_range := fx_free X G (all_fact (hfa c) 8)
  n_str := fx_free X G (all_fact (hfa c) 9)
  n_tuple := fx_free X G (all_fact (hfa c) 10)
  c_BadLevels := (fx_glo X G (all_fact (hfa c) 19))
  c_BadText := (fx_glo X G (all_fact (hfa c) 20))
  c_BadValue := (fx_glo X G (all_fact (hfa c) 21))
  c_FormError := (fx_glo X G (all_fact (hfa c) 24))
  c_NoMaster := (fx_glo X G (all_fact (hfa c) 22))
  c_TakenName := (fx_glo X G (all_fact (hfa c) 23))
  c_TooMany := (fx_glo X G (all_fact (hfa c) 25))
  e_FormError_NoMaster := exmB_ok (hcj_e_FormError_NoMaster c)
  i_ArithmeticError := isTB_ok (cv := fun K => .type "ArithmeticError") (hcj_i_ArithmeticError c)
  i_BadLevels := isTB_ok (cv := fun K => .ref (He.ga K "BadLevels")) (hcj_i_BadLevels c)
  i_BadText := isTB_ok (cv := fun K => .ref (He.ga K "BadText")) (hcj_i_BadText c)
  i_BadValue := isTB_ok (cv := fun K => .ref (He.ga K "BadValue")) (hcj_i_BadValue c)
  i_Exception := isTB_ok (cv := fun K => .type "Exception") (hcj_i_Exception c)
  i_FormError := isTB_ok (cv := fun K => .ref (He.ga K "FormError")) (hcj_i_FormError c)
  i_LookupError := isTB_ok (cv := fun K => .type "LookupError") (hcj_i_LookupError c)
  i_NoMaster := isTB_ok (cv := fun K => .ref (He.ga K "NoMaster")) (hcj_i_NoMaster c)
  i_TakenName := isTB_ok (cv := fun K => .ref (He.ga K "TakenName")) (hcj_i_TakenName c)
  i_TooMany := isTB_ok (cv := fun K => .ref (He.ga K "TooMany")) (hcj_i_TooMany c)
  i_ValueError := isTB_ok (cv := fun K => .type "ValueError") (hcj_i_ValueError c)
  z_TooMany := exzB_ok (hcj_z_TooMany c) (fx_glo X G (all_fact (hfa c) 25))
theorem hlaw (X : K.In h) (G : h.Ns mainGlobals mg) (c : SaysX hok hfn K) : ∃ fd : FuncData, (∀ (s : Shared) (v : Value), BindsTo s fd ⟨[v], []⟩ [("script", v)]) ∧ ∀ base : Heap, FnOk P w K mg base KF.CXq 14 (He.ga K "law") fd ["script"] (fun vs H Q _ => spM (tyOf K) 1 m_law00 vs H Q fun _ _ _ => False) := by
  have tx := htx X G c
  obtain ⟨fd_f_law_so, D_f_law_so⟩ := c.def_ 0 (d := dn_f_law_so) rfl
  obtain ⟨fd_f_law_numbers, D_f_law_numbers⟩ := c.def_ 1 (d := dn_f_law_numbers) rfl
  obtain ⟨fd_f_law_draw, D_f_law_draw⟩ := c.def_ 2 (d := dn_f_law_draw) rfl
  obtain ⟨fd_f_law_take, D_f_law_take⟩ := c.def_ 3 (d := dn_f_law_take) rfl
  obtain ⟨fd_f_law_of, D_f_law_of⟩ := c.def_ 4 (d := dn_f_law_of) rfl
  obtain ⟨fd_f_law_foreign, D_f_law_foreign⟩ := c.def_ 5 (d := dn_f_law_foreign) rfl
  obtain ⟨fd_f_law_caught, D_f_law_caught⟩ := c.def_ 6 (d := dn_f_law_caught) rfl
  obtain ⟨fd_law00, D_law00⟩ := c.def_ 7 (d := dn_law00) rfl
  obtain ⟨fd_BadLevels, D_BadLevels⟩ := c.def_ 8 (d := dn_BadLevels) rfl
  obtain ⟨fd_BadText, D_BadText⟩ := c.def_ 9 (d := dn_BadText) rfl
  obtain ⟨fd_BadValue, D_BadValue⟩ := c.def_ 10 (d := dn_BadValue) rfl
  obtain ⟨fd_NoMaster, D_NoMaster⟩ := c.def_ 11 (d := dn_NoMaster) rfl
  obtain ⟨fd_TakenName, D_TakenName⟩ := c.def_ 12 (d := dn_TakenName) rfl
  refine ⟨fd_law00, fun s v => FunD.bindsA (ps := ["script"]) D_law00 (fun _ _ _ _ _ _ us hl => match us, hl with | [_], _ => rfl) s [v] rfl, fun base => ?_⟩
  have X_BadLevels : ExM P w K mg base (tyOf K) "BadLevels" "at" := exM_of (s0 := "self") (y0 := "at") (hex_BadLevels c) (fx_glo X G (all_fact (hfa c) 19)) (init_ok D_BadLevels ⟨rfl, rfl, rfl, by decide +kernel, rfl, by decide +kernel, by decide +kernel⟩ (Or.inl rfl) (Or.inl rfl) (by decide) (by decide) (by decide) (by decide) (fun _ => rfl)) (D_BadLevels.bindsN fun _ _ _ _ _ _ us hl => match us, hl with | [_, _], _ => rfl)
  have X_BadText : ExM P w K mg base (tyOf K) "BadText" "at" := exM_of (s0 := "self") (y0 := "at") (hex_BadText c) (fx_glo X G (all_fact (hfa c) 20)) (init_ok D_BadText ⟨rfl, rfl, rfl, by decide +kernel, rfl, by decide +kernel, by decide +kernel⟩ (Or.inl rfl) (Or.inl rfl) (by decide) (by decide) (by decide) (by decide) (fun _ => rfl)) (D_BadText.bindsN fun _ _ _ _ _ _ us hl => match us, hl with | [_, _], _ => rfl)
  have X_BadValue : ExM P w K mg base (tyOf K) "BadValue" "at" := exM_of (s0 := "self") (y0 := "at") (hex_BadValue c) (fx_glo X G (all_fact (hfa c) 21)) (init_ok D_BadValue ⟨rfl, rfl, rfl, by decide +kernel, rfl, by decide +kernel, by decide +kernel⟩ (Or.inl rfl) (Or.inl rfl) (by decide) (by decide) (by decide) (by decide) (fun _ => rfl)) (D_BadValue.bindsN fun _ _ _ _ _ _ us hl => match us, hl with | [_, _], _ => rfl)
  have X_NoMaster : ExM P w K mg base (tyOf K) "NoMaster" "name" := exM_of (s0 := "self") (y0 := "name") (hex_NoMaster c) (fx_glo X G (all_fact (hfa c) 22)) (init_ok D_NoMaster ⟨rfl, rfl, rfl, by decide +kernel, rfl, by decide +kernel, by decide +kernel⟩ (Or.inl rfl) (Or.inl rfl) (by decide) (by decide) (by decide) (by decide) (fun _ => rfl)) (D_NoMaster.bindsN fun _ _ _ _ _ _ us hl => match us, hl with | [_, _], _ => rfl)
  have X_TakenName : ExM P w K mg base (tyOf K) "TakenName" "name" := exM_of (s0 := "self") (y0 := "name") (hex_TakenName c) (fx_glo X G (all_fact (hfa c) 23)) (init_ok D_TakenName ⟨rfl, rfl, rfl, by decide +kernel, rfl, by decide +kernel, by decide +kernel⟩ (Or.inl rfl) (Or.inl rfl) (by decide) (by decide) (by decide) (by decide) (fun _ => rfl)) (D_TakenName.bindsN fun _ _ _ _ _ _ us hl => match us, hl with | [_, _], _ => rfl)
  have N_BadLevels : ExN P w K mg base (tyOf K) "BadLevels" "at" := exN_of (s0 := "self") (hex_BadLevels c) X_BadLevels (init_ok D_BadLevels ⟨rfl, rfl, rfl, by decide +kernel, rfl, by decide +kernel, by decide +kernel⟩ (Or.inl rfl) (Or.inl rfl) (by decide) (by decide) (by decide) (by decide) (fun _ => rfl)) (kwBinds D_BadLevels fun _ _ _ _ _ _ _ _ => rfl)
  have N_BadText : ExN P w K mg base (tyOf K) "BadText" "at" := exN_of (s0 := "self") (hex_BadText c) X_BadText (init_ok D_BadText ⟨rfl, rfl, rfl, by decide +kernel, rfl, by decide +kernel, by decide +kernel⟩ (Or.inl rfl) (Or.inl rfl) (by decide) (by decide) (by decide) (by decide) (fun _ => rfl)) (kwBinds D_BadText fun _ _ _ _ _ _ _ _ => rfl)
  have N_BadValue : ExN P w K mg base (tyOf K) "BadValue" "at" := exN_of (s0 := "self") (hex_BadValue c) X_BadValue (init_ok D_BadValue ⟨rfl, rfl, rfl, by decide +kernel, rfl, by decide +kernel, by decide +kernel⟩ (Or.inl rfl) (Or.inl rfl) (by decide) (by decide) (by decide) (by decide) (fun _ => rfl)) (kwBinds D_BadValue fun _ _ _ _ _ _ _ _ => rfl)
  have N_NoMaster : ExN P w K mg base (tyOf K) "NoMaster" "name" := exN_of (s0 := "self") (hex_NoMaster c) X_NoMaster (init_ok D_NoMaster ⟨rfl, rfl, rfl, by decide +kernel, rfl, by decide +kernel, by decide +kernel⟩ (Or.inl rfl) (Or.inl rfl) (by decide) (by decide) (by decide) (by decide) (fun _ => rfl)) (kwBinds D_NoMaster fun _ _ _ _ _ _ _ _ => rfl)
  have N_TakenName : ExN P w K mg base (tyOf K) "TakenName" "name" := exN_of (s0 := "self") (hex_TakenName c) X_TakenName (init_ok D_TakenName ⟨rfl, rfl, rfl, by decide +kernel, rfl, by decide +kernel, by decide +kernel⟩ (Or.inl rfl) (Or.inl rfl) (by decide) (by decide) (by decide) (by decide) (fun _ => rfl)) (kwBinds D_TakenName fun _ _ _ _ _ _ _ _ => rfl)
  have F_f_law_so := w_f_law_so (P := P) (w := w) (base := base) tx D_f_law_so (fx_glo X G (all_fact (hfa c) 11)) 12
  have F_f_law_numbers := w_f_law_numbers (P := P) (w := w) (base := base) tx D_f_law_numbers (fx_glo X G (all_fact (hfa c) 12))
  have F_f_law_draw := w_f_law_draw (P := P) (w := w) (base := base) tx D_f_law_draw (fx_glo X G (all_fact (hfa c) 13))
  have F_f_law_take := w_f_law_take (P := P) (w := w) (base := base) tx D_f_law_take (fx_glo X G (all_fact (hfa c) 14)) F_f_law_draw
  have F_f_law_of := w_f_law_of (P := P) (w := w) (base := base) tx D_f_law_of (fx_glo X G (all_fact (hfa c) 15))
  have F_f_law_foreign := w_f_law_foreign (P := P) (w := w) (base := base) tx D_f_law_foreign (fx_glo X G (all_fact (hfa c) 16))
  have F_f_law_caught := w_f_law_caught (P := P) (w := w) (base := base) tx D_f_law_caught (fx_glo X G (all_fact (hfa c) 17)) X_NoMaster
  have F_law00 := w_law00 (P := P) (w := w) (base := base) tx D_law00 (fx_glo X G (all_fact (hfa c) 18)) X_BadLevels X_BadText X_BadValue X_NoMaster X_TakenName N_BadLevels N_BadText N_BadValue N_NoMaster N_TakenName F_f_law_so F_f_law_numbers F_f_law_take F_f_law_of F_f_law_foreign F_f_law_caught
  exact fn_quiet F_law00
end
end KF
open PySem PySem.W PySem.Calls PyProof.Rows
theorem KF.holds (law_true : ∀ ns : List Int, ns.length ≤ 63 → ∃ S, KF.m_law00 [.scr (ns.map KF.D.int)] [] = .ok (.bl true) S) : PySem.Challenge.rw_keptform_k00_errors.Holds := by
  w_on; o_law
  refine HandSHeadRun.head_any (r := OpenLaw.row PySem.Challenge.rw_keptform_k00_errors) (q := view (OpenLaw.row PySem.Challenge.rw_keptform_k00_errors).prog [16]) (H := KF.hk) (ob := KF.hob) (M := 3000) (loose := KF.hnm) (d := HandSHeadRun.topDef (OpenLaw.row PySem.Challenge.rw_keptform_k00_errors).prog 16) (kwd := []) KF.hob_eq
    (by kernel_rfl) (fun s => by kernel_rfl) KF.hrun (by kernel_rfl) (by kernel_rfl) (by kernel_rfl) (by rfl) (by first | assumption | decide +kernel) (by decide +kernel) ⟨rfl, rfl, rfl, rfl, rfl, by decide +kernel⟩ ?hw ?hc
  case hw => w_witness2
  case hc =>
    refine L2.walk_ofE (l := PySem.Challenge.rw_keptform_k00_errors) (n := 63) (k := 14) (x := "script") (CX := KF.CXq) rfl (by decide) (by kernel_rfl) ⟨rfl, by decide, by decide⟩ ?F (fun _ _ _ _ z => z)
    intro w mg fa h Y G hmg0
    obtain ⟨K, KX, c⟩ := Y
    have hmg : mg ("law" : PySem.Str) = some (.ref fa) := by
      have e : (HandSHeadRun.topDef (OpenLaw.row PySem.Challenge.rw_keptform_k00_errors).prog 16).name = ("law" : PySem.Str) := by kernel_rfl
      rw [← e]
      exact hmg0
    have e2 := hmg.symm.trans (KF.fx_glo KX G (KF.all_fact (KF.hfa c) 18 (f := .glo "law")))
    cases e2
    obtain ⟨fd, hb, hF⟩ := KF.hlaw (P := (PySem.Challenge.rw_keptform_k00_errors).prog) (w := w) KX G c
    exact ⟨K, fd, (fun vs H Q _ => KF.spM (KF.tyOf K) 1 KF.m_law00 vs H Q fun _ _ _ => False), KX, hb, fun H a ns hl _ hS => KF.sp_law (Nat.le_trans hl (by decide)) hS (law_true ns hl), fun base _ _ => hF base⟩
end

theorem PySem.Challenge.cw_keptform_k00_errors_holds : PySem.Challenge.rw_keptform_k00_errors.Holds :=
  KF.holds KF.law_true00
