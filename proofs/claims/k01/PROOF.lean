import PyProof.Rows.All
import Wide.All
import OpenK.AllK
import Wide.FinOn
import KE.KStateDown
import Lean
import HandS.ForMost
import HandS.Exc
import HandS.WordsExc
import HandS.Defaults
import HandS.IsInst
import HandS.Wide
import HandS.Flow
import HandS.Zip
import HandS.Walk
import HandS.TupAny
import HandS.Deep
import HandS.More
import KE.LtData
import KE.DataCmp
import HandS.Head0
import HandS.Head1
import HandS.Head2
import HandS.HeadEnd
import HandS.HeadHook1
import HandS.HeadHook2
import HandS.MakeKw
import HandS.MakeKwOnly
import PySem.Challenge.RW_feeblind_k01_names_and_numbers_judged
set_option Elab.async false
set_option linter.all false
set_option maxRecDepth 100000
set_option maxHeartbeats 4000000
/-! DL: a logic over data, above the hand layer. -/
namespace DL
open PySem PySem.Spec PyProof.Rows L2
/-! ### data -/
inductive D where
  | non | bl (b : Bool) | int (i : Int) | str (s : Str)
  | lst (xs : List D) | tup (xs : List D) | klst (xs : List D)
  | dic (ks : List Key) (vs : List D)
  | ins (C : Str) (ns : List Str) (vs : List D)
  | ty (n : String) | gl (a : Addr)
/-! ### what a value stands for -/
mutual
def Rep (K : PySem.W.Frag) (G : Hp) : D → V → Prop
  | .non, v => v = .non
  | .bl b, v => v = .bl b
  | .int i, v => v = .int i
  | .str s, v => v = .str s
  | .lst xs, v => ∃ a vs, v = .ref a ∧ G a = some (.lst vs) ∧ Reps K G xs vs
  | .tup xs, v => ∃ a vs, v = .ref a ∧ SqT K G a vs ∧ Reps K G xs vs
  | .klst xs, v => ∃ a vs, v = .ref a ∧ SqL K G a vs ∧ Reps K G xs vs
  | .dic ks xs, v => ∃ a kvs, v = .ref a ∧ G a = some (.dK kvs) ∧ kvs.map (·.1) = ks ∧ Reps K G xs (kvs.map (·.2))
  | .ins C ns xs, v => ∃ a dx fs, v = .ref a ∧ G a = some (.ins (He.ga K C) dx fs) ∧ fs.map (·.1) = ns ∧ Reps K G xs (fs.map (·.2))
  | .ty n, v => v = .ty n
  | .gl a, v => v = .ref a
def Reps (K : PySem.W.Frag) (G : Hp) : List D → List V → Prop
  | [], vs => vs = []
  | d :: ds, vs => ∃ v r, vs = v :: r ∧ Rep K G d v ∧ Reps K G ds r
end
/-- the object itself in H, its parts in G -/
def Top (K : PySem.W.Frag) (G H : Hp) : D → V → Prop
  | .non, v => v = .non
  | .bl b, v => v = .bl b
  | .int i, v => v = .int i
  | .str s, v => v = .str s
  | .lst xs, v => ∃ a vs, v = .ref a ∧ H a = some (.lst vs) ∧ Reps K G xs vs
  | .tup xs, v => ∃ a vs, v = .ref a ∧ SqT K G a vs ∧ Reps K G xs vs
  | .klst xs, v => ∃ a vs, v = .ref a ∧ SqL K G a vs ∧ Reps K G xs vs
  | .dic ks xs, v => ∃ a kvs, v = .ref a ∧ H a = some (.dK kvs) ∧ kvs.map (·.1) = ks ∧ Reps K G xs (kvs.map (·.2))
  | .ins C ns xs, v => ∃ a dx fs, v = .ref a ∧ H a = some (.ins (He.ga K C) dx fs) ∧ fs.map (·.1) = ns ∧ Reps K G xs (fs.map (·.2))
  | .ty n, v => v = .ty n
  | .gl a, v => v = .ref a
section
variable {K : PySem.W.Frag} {G G' H H' : Hp}
theorem Same.tup (e : Same H H') {a : Addr} {xs : List V} (h : SqT K H a xs) : SqT K H' a xs := by
  rcases h with (h | ⟨o, h⟩) | h
  · exact .inl (.inl (e _ _ h))
  · exact .inl (.inr ⟨o, e _ _ h⟩)
  · exact .inr h
mutual
theorem Rep.mono (e : Same G G') : ∀ (d : D) (v : V), Rep K G d v → Rep K G' d v
  | .non, v, h => h
  | .bl b, v, h => h
  | .int i, v, h => h
  | .str s, v, h => h
  | .lst xs, v, h => by obtain ⟨a, vs, h1, h2, h3⟩ := h; exact ⟨a, vs, h1, e _ _ h2, Reps.mono e xs vs h3⟩
  | .tup xs, v, h => by obtain ⟨a, vs, h1, h2, h3⟩ := h; exact ⟨a, vs, h1, Same.tup e h2, Reps.mono e xs vs h3⟩
  | .klst xs, v, h => by obtain ⟨a, vs, h1, h2, h3⟩ := h; exact ⟨a, vs, h1, Same.seq e h2, Reps.mono e xs vs h3⟩
  | .dic ks xs, v, h => by obtain ⟨a, vs, h1, h2, h4, h3⟩ := h; exact ⟨a, vs, h1, e _ _ h2, h4, Reps.mono e xs _ h3⟩
  | .ins C ns xs, v, h => by obtain ⟨a, dx, vs, h1, h2, h4, h3⟩ := h; exact ⟨a, dx, vs, h1, e _ _ h2, h4, Reps.mono e xs _ h3⟩
  | .ty n, v, h => h
  | .gl a, v, h => h
theorem Reps.mono (e : Same G G') : ∀ (ds : List D) (vs : List V), Reps K G ds vs → Reps K G' ds vs
  | [], vs, h => h
  | d :: ds, vs, h => by obtain ⟨v, r, h1, h2, h3⟩ := h; exact ⟨v, r, h1, Rep.mono e d v h2, Reps.mono e ds r h3⟩
end
theorem Rep.top (e : Same G H) : ∀ {d : D} {v : V}, Rep K G d v → Top K G H d v
  | .non, v, h => h
  | .bl b, v, h => h
  | .int i, v, h => h
  | .str s, v, h => h
  | .lst xs, v, h => by obtain ⟨a, vs, h1, h2, h3⟩ := h; exact ⟨a, vs, h1, e _ _ h2, h3⟩
  | .tup xs, v, h => h
  | .klst xs, v, h => h
  | .dic ks xs, v, h => by obtain ⟨a, vs, h1, h2, h4, h3⟩ := h; exact ⟨a, vs, h1, e _ _ h2, h4, h3⟩
  | .ins C ns xs, v, h => by obtain ⟨a, dx, vs, h1, h2, h4, h3⟩ := h; exact ⟨a, dx, vs, h1, e _ _ h2, h4, h3⟩
  | .ty n, v, h => h
  | .gl a, v, h => h
theorem Top.mono (e : Same G G') (e2 : Same H H') : ∀ {d : D} {v : V}, Top K G H d v → Top K G' H' d v
  | .non, v, h => h
  | .bl b, v, h => h
  | .int i, v, h => h
  | .str s, v, h => h
  | .lst xs, v, h => by obtain ⟨a, vs, h1, h2, h3⟩ := h; exact ⟨a, vs, h1, e2 _ _ h2, Reps.mono e _ _ h3⟩
  | .tup xs, v, h => by obtain ⟨a, vs, h1, h2, h3⟩ := h; exact ⟨a, vs, h1, Same.tup e h2, Reps.mono e _ _ h3⟩
  | .klst xs, v, h => by obtain ⟨a, vs, h1, h2, h3⟩ := h; exact ⟨a, vs, h1, Same.seq e h2, Reps.mono e _ _ h3⟩
  | .dic ks xs, v, h => by obtain ⟨a, vs, h1, h2, h4, h3⟩ := h; exact ⟨a, vs, h1, e2 _ _ h2, h4, Reps.mono e _ _ h3⟩
  | .ins C ns xs, v, h => by obtain ⟨a, dx, vs, h1, h2, h4, h3⟩ := h; exact ⟨a, dx, vs, h1, e2 _ _ h2, h4, Reps.mono e _ _ h3⟩
  | .ty n, v, h => h
  | .gl a, v, h => h
/-- a list, a dict, an instance: what may be changed -/
def ownable : D → Bool
  | .lst _ | .dic _ _ | .ins _ _ _ => true
  | _ => false
/-- the object that stands in H alone is taken into the frozen part -/
theorem Top.frz {d : D} {a : Addr} {o : HO} (n : G a = none) (e : H a = some o) (w : ownable d = true) (h : Top K G H d (.ref a)) : Rep K (upd G a o) d (.ref a) := by
  have sm : Same G (upd G a o) := fun b u q => by rw [upd_ne (ne_of_none q n)]; exact q
  cases d with
  | lst xs =>
    obtain ⟨b, vs, h1, h2, h3⟩ := h
    cases h1
    rw [e] at h2
    cases h2
    exact ⟨a, vs, rfl, upd_same, Reps.mono sm _ _ h3⟩
  | dic ks xs =>
    obtain ⟨b, vs, h1, h2, h4, h3⟩ := h
    cases h1
    rw [e] at h2
    cases h2
    exact ⟨a, vs, rfl, upd_same, h4, Reps.mono sm _ _ h3⟩
  | ins C ns xs =>
    obtain ⟨b, dx, vs, h1, h2, h4, h3⟩ := h
    cases h1
    rw [e] at h2
    cases h2
    exact ⟨a, dx, vs, rfl, upd_same, h4, Reps.mono sm _ _ h3⟩
  | _ => cases w
theorem Reps.length : ∀ {ds : List D} {vs : List V}, Reps K G ds vs → vs.length = ds.length
  | [], vs, h => by cases (show vs = [] from h); rfl
  | d :: ds, vs, h => by obtain ⟨v, r, h1, h2, h3⟩ := h; subst h1; exact congrArg Nat.succ (Reps.length h3)
theorem Reps.get : ∀ {ds : List D} {vs : List V} {i : Nat} {d : D}, Reps K G ds vs → ds[i]? = some d → ∃ v, vs[i]? = some v ∧ Rep K G d v
  | [], vs, i, d, h, e => by simp at e
  | d :: ds, vs, 0, x, h, e => by
    obtain ⟨v, r, h1, h2, h3⟩ := h
    subst h1
    simp at e
    subst e
    exact ⟨v, rfl, h2⟩
  | d :: ds, vs, i + 1, x, h, e => by
    obtain ⟨v, r, h1, h2, h3⟩ := h
    subst h1
    obtain ⟨u, e1, e2⟩ := Reps.get (i := i) (d := x) h3 (by simpa using e)
    exact ⟨u, by simpa using e1, e2⟩
theorem Reps.nil : Reps K G [] [] := rfl
theorem Reps.cons {d : D} {v : V} {ds : List D} {vs : List V} (h : Rep K G d v) (t : Reps K G ds vs) : Reps K G (d :: ds) (v :: vs) := ⟨v, vs, rfl, h, t⟩
theorem Reps.append : ∀ {ds es : List D} {vs us : List V}, Reps K G ds vs → Reps K G es us → Reps K G (ds ++ es) (vs ++ us)
  | [], es, vs, us, h, t => by cases (show vs = [] from h); exact t
  | d :: ds, es, vs, us, h, t => by obtain ⟨v, r, h1, h2, h3⟩ := h; subst h1; exact .cons h2 (Reps.append h3 t)
theorem Reps.set {x : D} {u : V} (hx : Rep K G x u) : ∀ {ds : List D} {vs : List V} (i : Nat), Reps K G ds vs → Reps K G (ds.set i x) (vs.set i u)
  | [], vs, i, h => by cases (show vs = [] from h); exact rfl
  | d :: ds, vs, 0, h => by obtain ⟨v, r, h1, h2, h3⟩ := h; subst h1; exact .cons hx h3
  | d :: ds, vs, i + 1, h => by obtain ⟨v, r, h1, h2, h3⟩ := h; subst h1; exact .cons h2 (Reps.set hx i h3)
theorem Reps.take : ∀ {ds : List D} {vs : List V} (i : Nat), Reps K G ds vs → Reps K G (ds.take i) (vs.take i)
  | ds, vs, 0, h => by simp; exact rfl
  | [], vs, i + 1, h => by cases (show vs = [] from h); exact rfl
  | d :: ds, vs, i + 1, h => by obtain ⟨v, r, h1, h2, h3⟩ := h; subst h1; exact .cons h2 (Reps.take i h3)
theorem Reps.drop : ∀ {ds : List D} {vs : List V} (i : Nat), Reps K G ds vs → Reps K G (ds.drop i) (vs.drop i)
  | ds, vs, 0, h => h
  | [], vs, i + 1, h => by cases (show vs = [] from h); exact rfl
  | d :: ds, vs, i + 1, h => by obtain ⟨v, r, h1, h2, h3⟩ := h; subst h1; exact Reps.drop i h3
theorem Reps.eraseIdx : ∀ {ds : List D} {vs : List V} (i : Nat), Reps K G ds vs → Reps K G (ds.eraseIdx i) (vs.eraseIdx i)
  | [], vs, i, h => by cases (show vs = [] from h); exact rfl
  | d :: ds, vs, 0, h => by obtain ⟨v, r, h1, h2, h3⟩ := h; subst h1; exact h3
  | d :: ds, vs, i + 1, h => by obtain ⟨v, r, h1, h2, h3⟩ := h; subst h1; exact .cons h2 (Reps.eraseIdx i h3)
theorem Reps.reverse {ds : List D} {vs : List V} (h : Reps K G ds vs) : Reps K G ds.reverse vs.reverse := by
  induction ds generalizing vs with
  | nil => cases (show vs = [] from h); exact rfl
  | cons d ds ih =>
    obtain ⟨v, r, h1, h2, h3⟩ := h
    subst h1
    rw [List.reverse_cons, List.reverse_cons]
    exact Reps.append (ih h3) (.cons h2 rfl)
theorem Reps.dropLast {ds : List D} {vs : List V} (h : Reps K G ds vs) : Reps K G ds.dropLast vs.dropLast := by
  rw [List.dropLast_eq_take, List.dropLast_eq_take, h.length]
  exact h.take _
theorem Reps.isEmpty {ds : List D} {vs : List V} (h : Reps K G ds vs) : vs.isEmpty = ds.isEmpty := by
  have e := h.length
  cases ds <;> cases vs <;> first | rfl | (exfalso; simp at e)
theorem Reps.ints : ∀ {ns : List Int} {vs : List V}, Reps K G (ns.map .int) vs ↔ vs = ns.map .int
  | [], vs => by exact Iff.rfl
  | n :: ns, vs => by
    constructor
    · rintro ⟨v, r, h1, h2, h3⟩
      subst h1
      rw [Reps.ints.mp h3]
      cases (show v = .int n from h2)
      rfl
    · rintro rfl
      exact ⟨_, _, rfl, rfl, Reps.ints.mpr rfl⟩
theorem Reps.bls : ∀ {ns : List Bool} {vs : List V}, Reps K G (ns.map .bl) vs ↔ vs = ns.map .bl
  | [], vs => by exact Iff.rfl
  | n :: ns, vs => by
    constructor
    · rintro ⟨v, r, h1, h2, h3⟩
      subst h1
      rw [Reps.bls.mp h3]
      cases (show v = .bl n from h2)
      rfl
    · rintro rfl
      exact ⟨_, _, rfl, rfl, Reps.bls.mpr rfl⟩
theorem Reps.strs : ∀ {ns : List Str} {vs : List V}, Reps K G (ns.map .str) vs ↔ vs = ns.map .str
  | [], vs => by exact Iff.rfl
  | n :: ns, vs => by
    constructor
    · rintro ⟨v, r, h1, h2, h3⟩
      subst h1
      rw [Reps.strs.mp h3]
      cases (show v = .str n from h2)
      rfl
    · rintro rfl
      exact ⟨_, _, rfl, rfl, Reps.strs.mpr rfl⟩
end
/-! ### the store over data -/
/-- a slot: nothing, a shared datum, an owned object (the only thing that may be changed) -/
inductive Sl where
  | no | sh (d : D) | ow (d : D)
abbrev DSt := List Sl
structure StRep (K : PySem.W.Frag) (B G : Hp) (s : DSt) (σ : L2.St) (H : Hp) : Prop where
  bH : Same B H
  gH : Same G H
  dj : ∀ a o, B a = some o → G a = none
  len : s.length = σ.length
  sh : ∀ (i : Nat) d, s[i]? = some (.sh d) → ∃ v, σ[i]? = some (some v) ∧ Rep K G d v
  ow : ∀ (i : Nat) d, s[i]? = some (.ow d) → ∃ a o, σ[i]? = some (some (.ref a)) ∧ G a = none ∧ B a = none ∧ H a = some o ∧ Top K G H d (.ref a) ∧ ownable d = true
  ap : ∀ (i j : Nat) d e a, s[i]? = some (.ow d) → s[j]? = some (.ow e) → σ[i]? = some (some (.ref a)) → σ[j]? = some (some (.ref a)) → i = j
/-- the result of an expression -/
def RRep (K : PySem.W.Frag) (B G H : Hp) (s : DSt) (σ : L2.St) : Sl → V → Prop
  | .no, _ => False
  | .sh d, v => Rep K G d v
  | .ow d, v => ∃ p o, v = .ref p ∧ G p = none ∧ B p = none ∧ H p = some o ∧ Top K G H d (.ref p) ∧ ownable d = true ∧ ∀ (i : Nat) e, s[i]? = some (.ow e) → σ[i]? ≠ some (some (.ref p))
def frz : Sl → D
  | .no => .non
  | .sh d => d
  | .ow d => d
/-- from (G, H) to (G', H'): both grow, what is new in G' was free in H -/
structure Gr (G H G' H' : Hp) : Prop where
  g : Same G G'
  h : Same H H'
  gh : Same G' H'
  fr : ∀ a o, G' a = some o → (∃ o', G a = some o') ∨ H a = none
theorem Gr.refl {G H : Hp} (e : Same G H) : Gr G H G H := ⟨.refl _, .refl _, e, fun a o q => .inl ⟨o, q⟩⟩
/-- the result of an operation that changes nothing -/
def NRep (K : PySem.W.Frag) (G' H' H : Hp) : Sl → V → Prop
  | .no, _ => False
  | .sh d, v => Rep K G' d v
  | .ow d, v => ∃ p o, v = .ref p ∧ H p = none ∧ G' p = none ∧ H' p = some o ∧ Top K G' H' d (.ref p) ∧ ownable d = true
section
variable {K : PySem.W.Frag} {B G H G' H' : Hp} {s : DSt} {σ : L2.St}
theorem StRep.grow (S : StRep K B G s σ H) (g : Gr G H G' H') : StRep K B G' s σ H' := by
  have nw : ∀ a o, H a = some o → G a = none → G' a = none := fun a o e n => by
    cases q : G' a with
    | none => rfl
    | some u =>
      rcases g.fr a u q with ⟨o', z⟩ | z
      · rw [n] at z; cases z
      · rw [e] at z; cases z
  refine ⟨S.bH.trans g.h, g.gh, fun a o e => nw a o (S.bH a o e) (S.dj a o e), S.len, fun i d e => ?_, fun i d e => ?_, S.ap⟩
  · obtain ⟨v, h1, h2⟩ := S.sh i d e
    exact ⟨v, h1, Rep.mono g.g _ _ h2⟩
  · obtain ⟨a, o, h1, h2, h3, h4, h5, h6⟩ := S.ow i d e
    exact ⟨a, o, h1, nw a o h4 h2, h3, g.h _ _ h4, Top.mono g.g g.h h5, h6⟩
theorem StRep.res (S : StRep K B G s σ H) (g : Gr G H G' H') {r : Sl} {v : V} (n : NRep K G' H' H r v) : RRep K B G' H' s σ r v := by
  cases r with
  | no => exact n
  | sh d => exact n
  | ow d =>
    obtain ⟨p, o, h1, h2, h3, h4, h5, h6⟩ := n
    refine ⟨p, o, h1, h3, ?_, h4, h5, h6, fun i e q z => ?_⟩
    · cases q : B p with
      | none => rfl
      | some u => have := S.bH p u q; rw [h2] at this; cases this
    · obtain ⟨a, o, y1, y2, y3, y4, y5, y6⟩ := S.ow i e q
      rw [z] at y1
      cases y1
      rw [h2] at y4
      cases y4
/-- an owned result is frozen -/
theorem RRep.freeze (S : StRep K B G s σ H) {r : Sl} {v : V} (h : RRep K B G H s σ r v) : ∃ G', StRep K B G' s σ H ∧ Same G G' ∧ Rep K G' (frz r) v := by
  cases r with
  | no => exact h.elim
  | sh d => exact ⟨G, S, .refl _, h⟩
  | ow d =>
    obtain ⟨p, o, rfl, h2, h3, h4, h5, h6, h7⟩ := h
    have sm : Same G (upd G p o) := fun b u q => by rw [upd_ne (ne_of_none q h2)]; exact q
    refine ⟨upd G p o, ⟨S.bH, fun b u q => ?_, fun a u e => ?_, S.len, fun i d e => ?_, fun i d e => ?_, S.ap⟩, sm, Top.frz h2 h4 h6 h5⟩
    · by_cases hb : b = p
      · subst hb; rw [upd_same] at q; cases q; exact h4
      · rw [upd_ne hb] at q; exact S.gH b u q
    · rw [upd_ne (ne_of_none e h3)]; exact S.dj a u e
    · obtain ⟨v, y1, y2⟩ := S.sh i d e
      exact ⟨v, y1, Rep.mono sm _ _ y2⟩
    · obtain ⟨a, o', y1, y2, y3, y4, y5, y6⟩ := S.ow i d e
      have ne : a ≠ p := fun z => by subst z; exact h7 i d e y1
      exact ⟨a, o', y1, by rw [upd_ne ne]; exact y2, y3, y4, Top.mono sm (.refl _) y5, y6⟩
theorem getElem?_lt {α : Type} {l : List α} {i : Nat} {x : α} (h : l[i]? = some x) : i < l.length := (List.getElem?_eq_some_iff.mp h).1
/-- a slot is set to a value -/
theorem StRep.set (S : StRep K B G s σ H) {r : Sl} {v : V} (h : RRep K B G H s σ r v) (i : Nat) : StRep K B G (s.set i r) (σ.set i (some v)) H := by
  refine ⟨S.bH, S.gH, S.dj, by rw [List.length_set, List.length_set]; exact S.len, fun j d e => ?_, fun j d e => ?_, fun j k d e a h1 h2 h3 h4 => ?_⟩
  · by_cases hj : i = j
    · subst hj
      have hi := getElem?_lt e
      rw [List.length_set] at hi
      rw [List.getElem?_set_self hi] at e
      cases e
      exact ⟨v, by rw [List.getElem?_set_self (by rw [← S.len]; exact hi)], h⟩
    · rw [List.getElem?_set_ne hj] at e
      rw [List.getElem?_set_ne hj]
      exact S.sh j d e
  · by_cases hj : i = j
    · subst hj
      have hi := getElem?_lt e
      rw [List.length_set] at hi
      rw [List.getElem?_set_self hi] at e
      cases e
      obtain ⟨p, o, rfl, h2, h3, h4, h5, h6, h7⟩ := h
      exact ⟨p, o, by rw [List.getElem?_set_self (by rw [← S.len]; exact hi)], h2, h3, h4, h5, h6⟩
    · rw [List.getElem?_set_ne hj] at e
      rw [List.getElem?_set_ne hj]
      exact S.ow j d e
  · by_cases hj : i = j
    · by_cases hk : i = k
      · exact hj.symm.trans hk
      · subst hj
        have hi := getElem?_lt h1
        rw [List.length_set] at hi
        rw [List.getElem?_set_self hi] at h1
        cases h1
        rw [List.getElem?_set_self (by rw [← S.len]; exact hi)] at h3
        rw [List.getElem?_set_ne hk] at h2 h4
        obtain ⟨p, o, e1, _, _, _, _, _, h7⟩ := h
        cases e1
        cases h3
        exact absurd h4 (h7 k e h2)
    · by_cases hk : i = k
      · subst hk
        have hi := getElem?_lt h2
        rw [List.length_set] at hi
        rw [List.getElem?_set_self hi] at h2
        cases h2
        rw [List.getElem?_set_self (by rw [← S.len]; exact hi)] at h4
        rw [List.getElem?_set_ne hj] at h1 h3
        obtain ⟨p, o, e1, _, _, _, _, _, h7⟩ := h
        cases e1
        cases h4
        exact absurd h3 (h7 j d h1)
      · rw [List.getElem?_set_ne hj] at h1 h3
        rw [List.getElem?_set_ne hk] at h2 h4
        exact S.ap j k d e a h1 h2 h3 h4
/-- the content of a slot -/
def content (s : DSt) (i : Nat) : Option D := match s[i]? with
  | some (.sh d) => some d
  | some (.ow d) => some d
  | _ => none
theorem content_some {i : Nat} {d : D} (h : content s i = some d) : s[i]? = some (.sh d) ∨ s[i]? = some (.ow d) := by
  unfold content at h
  split at h
  · rename_i e; cases h; exact .inl e
  · rename_i e; cases h; exact .inr e
  · cases h
theorem StRep.look (S : StRep K B G s σ H) {i : Nat} {d : D} (h : content s i = some d) : ∃ v, σ[i]? = some (some v) ∧ Top K G H d v := by
  rcases content_some h with e | e
  · obtain ⟨v, h1, h2⟩ := S.sh i d e
    exact ⟨v, h1, Rep.top S.gH h2⟩
  · obtain ⟨a, o, h1, h2, h3, h4, h5, h6⟩ := S.ow i d e
    exact ⟨_, h1, h5⟩
/-- an owned slot is frozen in its place -/
theorem StRep.frzSlot (S : StRep K B G s σ H) {i : Nat} {d : D} (h : s[i]? = some (.ow d)) : ∃ G' v, StRep K B G' (s.set i (.sh d)) σ H ∧ Same G G' ∧ σ[i]? = some (some v) ∧ Rep K G' d v := by
  obtain ⟨p, o, h1, h2, h3, h4, h5, h6⟩ := S.ow i d h
  have sm : Same G (upd G p o) := fun b u q => by rw [upd_ne (ne_of_none q h2)]; exact q
  have rp := Top.frz h2 h4 h6 h5
  have hi := getElem?_lt h
  refine ⟨upd G p o, .ref p, ⟨S.bH, fun b u q => ?_, fun a u e => ?_, by rw [List.length_set]; exact S.len, fun j e q => ?_, fun j e q => ?_, fun j k e f a q1 q2 q3 q4 => ?_⟩, sm, h1, rp⟩
  · by_cases hb : b = p
    · subst hb; rw [upd_same] at q; cases q; exact h4
    · rw [upd_ne hb] at q; exact S.gH b u q
  · rw [upd_ne (ne_of_none e h3)]; exact S.dj a u e
  · by_cases hj : i = j
    · subst hj
      rw [List.getElem?_set_self hi] at q
      cases q
      exact ⟨_, h1, rp⟩
    · rw [List.getElem?_set_ne hj] at q
      obtain ⟨v, y1, y2⟩ := S.sh j e q
      exact ⟨v, y1, Rep.mono sm _ _ y2⟩
  · by_cases hj : i = j
    · subst hj
      rw [List.getElem?_set_self hi] at q
      cases q
    · rw [List.getElem?_set_ne hj] at q
      obtain ⟨a, o', y1, y2, y3, y4, y5, y6⟩ := S.ow j e q
      have ne : a ≠ p := fun z => by subst z; exact hj (S.ap i j d e _ h q h1 y1)
      exact ⟨a, o', y1, by rw [upd_ne ne]; exact y2, y3, y4, Top.mono sm (.refl _) y5, y6⟩
  · have fw : ∀ {l : Nat} {x : D}, (s.set i (.sh d))[l]? = some (.ow x) → s[l]? = some (.ow x) := fun {l x} z => by
      by_cases hl : i = l
      · subst hl; rw [List.getElem?_set_self hi] at z; cases z
      · rw [List.getElem?_set_ne hl] at z; exact z
    exact S.ap j k e f a (fw q1) (fw q2) q3 q4
/-- a slot is emptied -/
theorem StRep.clear (S : StRep K B G s σ H) (i : Nat) : StRep K B G (s.set i .no) σ H := by
  have f : ∀ {l : Nat} {x : Sl}, (s.set i .no)[l]? = some x → x ≠ .no → s[l]? = some x := fun {l x} z n => by
    by_cases hl : i = l
    · subst hl
      have hi := getElem?_lt z
      rw [List.length_set] at hi
      rw [List.getElem?_set_self hi] at z
      cases z
      exact absurd rfl n
    · rw [List.getElem?_set_ne hl] at z; exact z
  exact ⟨S.bH, S.gH, S.dj, by rw [List.length_set]; exact S.len, fun j d e => S.sh j d (f e (by intro q; cases q)), fun j d e => S.ow j d (f e (by intro q; cases q)), fun j k d e a h1 h2 => S.ap j k d e a (f h1 (by intro q; cases q)) (f h2 (by intro q; cases q))⟩
end
end DL

namespace DL
open PySem PySem.Spec PyProof.Rows L2
/-! ### transformers over data -/
abbrev DE := DSt → (Sl → DSt → Prop) → Prop
abbrev DT := DSt → (Bool → DSt → Prop) → Prop
/-- an operand: a datum, or a slot that is read when the operation comes -/
inductive Op where
  | val (d : D) | var (i : Nat)
abbrev DO := DSt → (Op → DSt → Prop) → Prop
abbrev DA := DSt → (List Op → DSt → Prop) → Prop
def ORep (K : PySem.W.Frag) (G : Hp) (σ : L2.St) : Op → V → Prop
  | .val d, v => Rep K G d v
  | .var i, v => σ[i]? = some (some v)
def OReps (K : PySem.W.Frag) (G : Hp) (σ : L2.St) : List Op → List V → Prop
  | [], vs => vs = []
  | o :: os, vs => ∃ v r, vs = v :: r ∧ ORep K G σ o v ∧ OReps K G σ os r
def resO (s : DSt) : Op → Option D
  | .val d => some d
  | .var i => content s i
def resOs (s : DSt) : List Op → Option (List D)
  | [] => some []
  | o :: os => match resO s o, resOs s os with
    | some d, some ds => some (d :: ds)
    | _, _ => none
def Tops (K : PySem.W.Frag) (G H : Hp) : List D → List V → Prop
  | [], vs => vs = []
  | d :: ds, vs => ∃ v r, vs = v :: r ∧ Top K G H d v ∧ Tops K G H ds r
section
variable {K : PySem.W.Frag} {B G G' H H' : Hp} {s : DSt} {σ : L2.St}
theorem ORep.mono (e : Same G G') {o : Op} {v : V} (h : ORep K G σ o v) : ORep K G' σ o v := by
  cases o with
  | val d => exact Rep.mono e _ _ h
  | var i => exact h
theorem OReps.mono (e : Same G G') : ∀ {os : List Op} {vs : List V}, OReps K G σ os vs → OReps K G' σ os vs
  | [], vs, h => h
  | o :: os, vs, h => by obtain ⟨v, r, h1, h2, h3⟩ := h; exact ⟨v, r, h1, h2.mono e, OReps.mono e h3⟩
theorem ORep.top (S : StRep K B G s σ H) {o : Op} {v : V} {d : D} (h : ORep K G σ o v) (e : resO s o = some d) : Top K G H d v := by
  cases o with
  | val d' => cases e; exact Rep.top S.gH h
  | var i =>
    obtain ⟨u, h1, h2⟩ := S.look e
    rw [show σ[i]? = some (some v) from h] at h1
    cases h1
    exact h2
theorem OReps.tops (S : StRep K B G s σ H) : ∀ {os : List Op} {vs : List V} {ds : List D}, OReps K G σ os vs → resOs s os = some ds → Tops K G H ds vs
  | [], vs, ds, h, e => by cases e; exact h
  | o :: os, vs, ds, h, e => by
    obtain ⟨v, r, h1, h2, h3⟩ := h
    unfold resOs at e
    cases e1 : resO s o with
    | none => rw [e1] at e; cases e
    | some d =>
      cases e2 : resOs s os with
      | none => rw [e1, e2] at e; cases e
      | some ds' =>
        rw [e1, e2] at e
        cases e
        exact ⟨v, r, h1, h2.top S e1, OReps.tops S h3 e2⟩
end
/-! ### lifts -/
def lift (K : PySem.W.Frag) (w : DE) : TE := fun σ H Q => ∃ B G s R, StRep K B G s σ H ∧ w s R ∧ ∀ r s' G' H' v, StRep K B G' s' σ H' → Same G G' → RRep K B G' H' s' σ r v → R r s' → Q v H'
def liftT (K : PySem.W.Frag) (w : DT) : TT := fun σ H Q => ∃ B G s R, StRep K B G s σ H ∧ w s R ∧ ∀ b s' G' H', StRep K B G' s' σ H' → Same G G' → R b s' → Q b H'
def liftO (K : PySem.W.Frag) (w : DO) : TE := fun σ H Q => ∃ B G s R, StRep K B G s σ H ∧ w s R ∧ ∀ o s' G' H' v, StRep K B G' s' σ H' → Same G G' → ORep K G' σ o v → R o s' → Q v H'
def liftA (K : PySem.W.Frag) (w : DA) : TA := fun σ H Q => ∃ B G s R, StRep K B G s σ H ∧ w s R ∧ ∀ os s' G' H' vs, StRep K B G' s' σ H' → Same G G' → OReps K G' σ os vs → R os s' → Q vs H'
theorem pe_mono {X : Cx} {e : Expr} {t t' : TE} (h : PE X e t) (m : ∀ σ H Q, t' σ H Q → t σ H Q) : PE X e t' := ⟨fun pins s σ H Q I q => h.run pins s σ H Q I (m σ H Q q)⟩
theorem pt_mono {X : Cx} {e : Expr} {t t' : TT} (h : PT X e t) (m : ∀ σ H Q, t' σ H Q → t σ H Q) : PT X e t' := ⟨fun pins s σ H Q I q => h.run pins s σ H Q I (m σ H Q q)⟩
theorem pw_mono {X : Cx} {e : Expr} {t t' : TT} (h : PW X e t) (m : ∀ σ H Q, t' σ H Q → t σ H Q) : PW X e t' := ⟨fun wh pins s σ H Q I q => h.run wh pins s σ H Q I (m σ H Q q)⟩
theorem pa_mono {X : Cx} {es : List Expr} {t t' : TA} (h : PA X es t) (m : ∀ σ H Q, t' σ H Q → t σ H Q) : PA X es t' := ⟨fun p pins s σ H Q I q => h.run p pins s σ H Q I (m σ H Q q)⟩
theorem pk_mono {X : Cx} {es : List Keyword} {t t' : TA} (h : PK X es t) (m : ∀ σ H Q, t' σ H Q → t σ H Q) : PK X es t' := ⟨fun p pins s σ H Q I q => h.run p pins s σ H Q I (m σ H Q q)⟩
theorem ps_mono {X : Cx} {e : Stmt} {t t' : TS} (h : PS X e t) (m : ∀ D σ H, t' D σ H → t D σ H) : PS X e t' := ⟨fun pins s σ H D I q => h.run pins s σ H D I (m D σ H q)⟩
theorem pss_mono {X : Cx} {e : List Stmt} {t t' : TS} (h : PSs X e t) (m : ∀ D σ H, t' D σ H → t D σ H) : PSs X e t' := ⟨fun pins s σ H D I q => h.run pins s σ H D I (m D σ H q)⟩
theorem pi_mono {X : Cx} {tg e : Expr} {t t' : TI} (h : PI X tg e t) (m : ∀ σ H Q, t' σ H Q → t σ H Q) : PI X tg e t' := ⟨fun pins s σ H Q I q => h.run pins s σ H Q I (m σ H Q q)⟩
theorem po_mono {X : Cx} {e : Option Expr} {t t' : TO} (h : PO X e t) (m : ∀ σ H Q, t' σ H Q → t σ H Q) : PO X e t' := ⟨fun pins s σ H Q I q => h.run pins s σ H Q I (m σ H Q q)⟩
/-! ### operands -/
/-- what a result is as an operand -/
def asOp (w : DE) : DO := fun s R => w s fun r s' => R (.val (frz r)) s'
def varOp (i : Nat) : DO := fun s R => (content s i).isSome = true ∧ R (.var i) s
def wNil : DA := fun s R => R [] s
def wCons (a : DO) (b : DA) : DA := fun s R => a s fun o s1 => b s1 fun os s2 => R (o :: os) s2
section
variable {K : PySem.W.Frag} {σ : L2.St} {H : Hp}
theorem lift_asOp {w : DE} {Q : VK} (h : liftO K (asOp w) σ H Q) : lift K w σ H Q := by
  obtain ⟨B, G, s, R, S, hw, k⟩ := h
  refine ⟨B, G, s, _, S, hw, fun r s' G' H' v S' sm rr q => ?_⟩
  obtain ⟨G2, S2, sm2, rep⟩ := rr.freeze S'
  exact k (.val (frz r)) s' G2 H' v S2 (sm.trans sm2) rep q
theorem lift_varOp {i : Nat} {Q : VK} (h : liftO K (varOp i) σ H Q) : tVar i σ H Q := by
  obtain ⟨B, G, s, R, S, ⟨hc, hw⟩, k⟩ := h
  cases e : content s i with
  | none => rw [e] at hc; cases hc
  | some d =>
    obtain ⟨v, h1, h2⟩ := S.look e
    exact ⟨v, h1, k (.var i) s G H v S (.refl _) h1 hw⟩
theorem lift_nil {Q : List V → Hp → Prop} (h : liftA K wNil σ H Q) : tNil σ H Q := by
  obtain ⟨B, G, s, R, S, hw, k⟩ := h
  exact k [] s G H [] S (.refl _) rfl hw
theorem lift_cons {a : DO} {b : DA} {Q : List V → Hp → Prop} (h : liftA K (wCons a b) σ H Q) : tCons (liftO K a) (liftA K b) σ H Q := by
  obtain ⟨B, G, s, R, S, hw, k⟩ := h
  refine ⟨B, G, s, _, S, hw, fun o s1 G1 H1 v S1 sm1 o1 q1 => ?_⟩
  refine ⟨B, G1, s1, _, S1, q1, fun os s2 G2 H2 vs S2 sm2 o2 q2 => ?_⟩
  exact k (o :: os) s2 G2 H2 _ S2 (sm1.trans sm2) ⟨v, vs, rfl, o1.mono sm2, o2⟩ q2
/-! ### operations that change nothing -/
abbrev BS := List D → (Sl → Prop) → Prop
def BOk (K : PySem.W.Frag) (r : List V → Hp → VK → Prop) (f : BS) : Prop := ∀ (G H : Hp) (ds : List D) (vs : List V) (R : Sl → Prop) (Q : VK), Same G H → Tops K G H ds vs → f ds R →
  (∀ res v G' H', Gr G H G' H' → NRep K G' H' H res v → R res → Q v H') → r vs H Q
abbrev B2 := D → D → (Sl → Prop) → Prop
def OpOk (K : PySem.W.Frag) (r : R2) (f : B2) : Prop := ∀ (G H : Hp) (d e : D) (x y : V) (R : Sl → Prop) (Q : VK), Same G H → Top K G H d x → Top K G H e y → f d e R →
  (∀ res v G' H', Gr G H G' H' → NRep K G' H' H res v → R res → Q v H') → r x y H Q
abbrev B1 := D → (Sl → Prop) → Prop
def UnOk (K : PySem.W.Frag) (r : V → Hp → VK → Prop) (f : B1) : Prop := ∀ (G H : Hp) (d : D) (x : V) (R : Sl → Prop) (Q : VK), Same G H → Top K G H d x → f d R →
  (∀ res v G' H', Gr G H G' H' → NRep K G' H' H res v → R res → Q v H') → r x H Q
def wFn (f : BS) (wos : DA) : DE := fun s R => wos s fun os s' => match resOs s' os with
  | some ds => f ds fun r => R r s'
  | none => False
def wOp (f : B2) (a b : DO) : DE := fun s R => a s fun o1 s1 => b s1 fun o2 s2 => match resO s2 o1, resO s2 o2 with
  | some d1, some d2 => f d1 d2 fun r => R r s2
  | _, _ => False
def wUn (f : B1) (a : DO) : DE := fun s R => a s fun o1 s1 => match resO s1 o1 with
  | some d1 => f d1 fun r => R r s1
  | _ => False
theorem lift_fn {r : List V → Hp → VK → Prop} {f : BS} (ok : BOk K r f) {wos : DA} {Q : VK} (h : lift K (wFn f wos) σ H Q) : tCB r (liftA K wos) σ H Q := by
  obtain ⟨B, G, s, R, S, hw, k⟩ := h
  refine ⟨B, G, s, _, S, hw, fun os s1 G1 H1 vs S1 sm1 o1 q1 => ?_⟩
  cases e : resOs s1 os with
  | none => rw [e] at q1; exact q1.elim
  | some ds =>
    rw [e] at q1
    exact ok G1 H1 ds vs _ _ S1.gH (o1.tops S1 e) q1 fun res v G' H' g n q => k res s1 G' H' v (S1.grow g) (sm1.trans g.g) (S1.res g n) q
theorem lift_op {r : R2} {f : B2} (ok : OpOk K r f) {a b : DO} {Q : VK} (h : lift K (wOp f a b) σ H Q) : tOp r (liftO K a) (liftO K b) σ H Q := by
  obtain ⟨B, G, s, R, S, hw, k⟩ := h
  refine ⟨B, G, s, _, S, hw, fun o s1 G1 H1 v S1 sm1 o1 q1 => ?_⟩
  refine ⟨B, G1, s1, _, S1, q1, fun p s2 G2 H2 u S2 sm2 o2 q2 => ?_⟩
  cases e : resO s2 o with
  | none => rw [e] at q2; exact q2.elim
  | some d =>
    cases e2 : resO s2 p with
    | none => rw [e, e2] at q2; exact q2.elim
    | some d2 =>
      rw [e, e2] at q2
      exact ok G2 H2 d d2 v u _ _ S2.gH ((o1.mono sm2).top S2 e) (o2.top S2 e2) q2 fun res v G' H' g n q => k res s2 G' H' v (S2.grow g) ((sm1.trans sm2).trans g.g) (S2.res g n) q
theorem lift_un {r : V → Hp → VK → Prop} {f : B1} (ok : UnOk K r f) {a : DO} {Q : VK} (h : lift K (wUn f a) σ H Q) : tUn r (liftO K a) σ H Q := by
  obtain ⟨B, G, s, R, S, hw, k⟩ := h
  refine ⟨B, G, s, _, S, hw, fun o s1 G1 H1 v S1 sm1 o1 q1 => ?_⟩
  cases e : resO s1 o with
  | none => rw [e] at q1; exact q1.elim
  | some d =>
    rw [e] at q1
    exact ok G1 H1 d v _ _ S1.gH (o1.top S1 e) q1 fun res v G' H' g n q => k res s1 G' H' v (S1.grow g) (sm1.trans g.g) (S1.res g n) q
/-! ### constants, names -/
def wC (d : D) : DE := fun s R => R (.sh d) s
theorem lift_c {d : D} {v : V} (h : ∀ G, Rep K G d v) {Q : VK} (hw : lift K (wC d) σ H Q) : tC v σ H Q := by
  obtain ⟨B, G, s, R, S, hw, k⟩ := hw
  exact k (.sh d) s G H v S (.refl _) (h G) hw
/-- a name's value: an owned object is frozen by it -/
def wVar (i : Nat) : DE := fun s R => match s[i]? with
  | some (.sh d) => R (.sh d) s
  | some (.ow d) => R (.sh d) (s.set i (.sh d))
  | _ => False
theorem lift_var {i : Nat} {Q : VK} (hw : lift K (wVar i) σ H Q) : tVar i σ H Q := by
  obtain ⟨B, G, s, R, S, hw, k⟩ := hw
  unfold wVar at hw
  split at hw
  · rename_i d e
    obtain ⟨v, h1, h2⟩ := S.sh i d e
    exact ⟨v, h1, k (.sh d) s G H v S (.refl _) h2 hw⟩
  · rename_i d e
    obtain ⟨G', v, S', sm, h1, h2⟩ := S.frzSlot e
    exact ⟨v, h1, k (.sh d) _ G' H v S' sm h2 hw⟩
  · exact hw.elim
/-! ### tests -/
def wNot (w : DT) : DT := fun s R => w s fun b s' => R (!b) s'
def wAnd (w u : DT) : DT := fun s R => w s fun b s' => if b = true then u s' R else R false s'
def wOr (w u : DT) : DT := fun s R => w s fun b s' => if b = true then R true s' else u s' R
theorem lift_not {w : DT} {Q : Bool → Hp → Prop} (h : liftT K (wNot w) σ H Q) : tNot (liftT K w) σ H Q := by
  obtain ⟨B, G, s, R, S, hw, k⟩ := h
  exact ⟨B, G, s, _, S, hw, fun b s1 G1 H1 S1 sm1 q1 => k (!b) s1 G1 H1 S1 sm1 q1⟩
theorem lift_and {w u : DT} {Q : Bool → Hp → Prop} (h : liftT K (wAnd w u) σ H Q) : tAnd (liftT K w) (liftT K u) σ H Q := by
  obtain ⟨B, G, s, R, S, hw, k⟩ := h
  refine ⟨B, G, s, _, S, hw, fun b s1 G1 H1 S1 sm1 q1 => ?_⟩
  cases b with
  | true => exact iteT ⟨B, G1, s1, _, S1, q1, fun b s2 G2 H2 S2 sm2 q2 => k b s2 G2 H2 S2 (sm1.trans sm2) q2⟩
  | false => exact iteF (k false s1 G1 H1 S1 sm1 q1)
theorem lift_or {w u : DT} {Q : Bool → Hp → Prop} (h : liftT K (wOr w u) σ H Q) : tOr (liftT K w) (liftT K u) σ H Q := by
  obtain ⟨B, G, s, R, S, hw, k⟩ := h
  refine ⟨B, G, s, _, S, hw, fun b s1 G1 H1 S1 sm1 q1 => ?_⟩
  cases b with
  | true => exact iteT (k true s1 G1 H1 S1 sm1 q1)
  | false => exact iteF ⟨B, G1, s1, _, S1, q1, fun b s2 G2 H2 S2 sm2 q2 => k b s2 G2 H2 S2 (sm1.trans sm2) q2⟩
/-- truth -/
def truD : D → (Bool → Prop) → Prop
  | .non, Q => Q false
  | .bl b, Q => Q b
  | .int i, Q => Q (i != 0)
  | .str y, Q => y.length ≤ sizeLine ∧ Q ((y.length : Int) != 0)
  | .lst xs, Q => Q (!xs.isEmpty)
  | .klst xs, Q => Q (!xs.isEmpty)
  | .tup xs, Q => Q (!xs.isEmpty)
  | .dic ks _, Q => Q (!ks.isEmpty)
  | _, _ => False
theorem truD_ok {G H : Hp} {d : D} {v : V} {R : Bool → Prop} (sm : Same G H) (t : Top K G H d v) (h : truD d R) : ∃ k, TruV K v H k ∧ R k := by
  cases d with
  | non => cases (show v = .non from t); exact ⟨false, rfl, h⟩
  | bl b => cases (show v = .bl b from t); exact ⟨b, rfl, h⟩
  | int i => cases (show v = .int i from t); exact ⟨_, rfl, h⟩
  | str y => cases (show v = .str y from t); exact ⟨_, ⟨h.1, rfl⟩, h.2⟩
  | lst xs =>
    obtain ⟨a, vs, rfl, h2, h3⟩ := t
    exact ⟨_, .inl ⟨vs, .of h2, rfl⟩, by rw [h3.isEmpty]; exact h⟩
  | klst xs =>
    obtain ⟨a, vs, rfl, h2, h3⟩ := t
    exact ⟨_, .inl ⟨vs, Same.seq sm h2, rfl⟩, by rw [h3.isEmpty]; exact h⟩
  | tup xs =>
    obtain ⟨a, vs, rfl, h2, h3⟩ := t
    exact ⟨_, .inr (.inl ⟨vs, Same.tup sm h2, rfl⟩), by rw [h3.isEmpty]; exact h⟩
  | dic ks xs =>
    obtain ⟨a, kvs, rfl, h2, h4, h3⟩ := t
    refine ⟨_, .inr (.inr ⟨kvs, h2, rfl⟩), ?_⟩
    have e : kvs.isEmpty = ks.isEmpty := by rw [← h4]; cases kvs <;> rfl
    rw [e]
    exact h
  | _ => exact h.elim
def wTru (a : DO) : DT := fun s R => a s fun o s1 => match resO s1 o with
  | some d => truD d fun b => R b s1
  | none => False
theorem lift_tru {a : DO} {Q : Bool → Hp → Prop} (h : liftT K (wTru a) σ H Q) : (fun (σ : L2.St) (H : Hp) (Q : Bool → Hp → Prop) => liftO K a σ H fun x H' => ∃ k, TruV K x H' k ∧ Q k H') σ H Q := by
  obtain ⟨B, G, s, R, S, hw, k⟩ := h
  refine ⟨B, G, s, _, S, hw, fun o s1 G1 H1 v S1 sm1 o1 q1 => ?_⟩
  cases e : resO s1 o with
  | none => rw [e] at q1; exact q1.elim
  | some d =>
    rw [e] at q1
    obtain ⟨b, t, q⟩ := truD_ok S1.gH (o1.top S1 e) q1
    exact ⟨b, t, k b s1 G1 H1 S1 sm1 q⟩
/-- a test that is a value True or False -/
def wBool (w : DE) : DT := fun s R => w s fun r s' => match r with
  | .sh (.bl b) => R b s'
  | _ => False
theorem lift_bool {w : DE} {Q : Bool → Hp → Prop} (h : liftT K (wBool w) σ H Q) : tB (lift K w) σ H Q := by
  obtain ⟨B, G, s, R, S, hw, k⟩ := h
  refine ⟨B, G, s, _, S, hw, fun r s1 G1 H1 v S1 sm1 r1 q1 => ?_⟩
  split at q1
  · rename_i b
    exact ⟨b, r1, k b s1 G1 H1 S1 sm1 q1⟩
  · exact q1.elim
/-- x and y, x or y as values -/
def wAndV (a b : DE) : DE := fun s R => a s fun r s1 => truD (frz r) fun k => if k = true then b s1 R else R (.sh (frz r)) s1
def wOrV (a b : DE) : DE := fun s R => a s fun r s1 => truD (frz r) fun k => if k = true then R (.sh (frz r)) s1 else b s1 R
def wNotV (a : DE) : DE := fun s R => a s fun r s1 => truD (frz r) fun k => R (.sh (.bl (!k))) s1
theorem lift_andV {a b : DE} {Q : VK} (h : lift K (wAndV a b) σ H Q) : tAndT K (lift K a) (lift K b) σ H Q := by
  obtain ⟨B, G, s, R, S, hw, k⟩ := h
  refine ⟨B, G, s, _, S, hw, fun r s1 G1 H1 v S1 sm1 r1 q1 => ?_⟩
  obtain ⟨G2, S2, sm2, rep⟩ := r1.freeze S1
  obtain ⟨c, t, q⟩ := truD_ok S2.gH (Rep.top S2.gH rep) q1
  refine ⟨c, t, ?_⟩
  cases c with
  | true => exact iteT ⟨B, G2, s1, _, S2, q, fun r s2 G3 H2 v S3 sm3 r2 q2 => k r s2 G3 H2 v S3 ((sm1.trans sm2).trans sm3) r2 q2⟩
  | false => exact iteF (k (.sh (frz r)) s1 G2 H1 v S2 (sm1.trans sm2) rep q)
theorem lift_orV {a b : DE} {Q : VK} (h : lift K (wOrV a b) σ H Q) : tOrT K (lift K a) (lift K b) σ H Q := by
  obtain ⟨B, G, s, R, S, hw, k⟩ := h
  refine ⟨B, G, s, _, S, hw, fun r s1 G1 H1 v S1 sm1 r1 q1 => ?_⟩
  obtain ⟨G2, S2, sm2, rep⟩ := r1.freeze S1
  obtain ⟨c, t, q⟩ := truD_ok S2.gH (Rep.top S2.gH rep) q1
  refine ⟨c, t, ?_⟩
  cases c with
  | false => exact iteF ⟨B, G2, s1, _, S2, q, fun r s2 G3 H2 v S3 sm3 r2 q2 => k r s2 G3 H2 v S3 ((sm1.trans sm2).trans sm3) r2 q2⟩
  | true => exact iteT (k (.sh (frz r)) s1 G2 H1 v S2 (sm1.trans sm2) rep q)
theorem lift_notV {a : DE} {Q : VK} (h : lift K (wNotV a) σ H Q) : tNotT K (lift K a) σ H Q := by
  obtain ⟨B, G, s, R, S, hw, k⟩ := h
  refine ⟨B, G, s, _, S, hw, fun r s1 G1 H1 v S1 sm1 r1 q1 => ?_⟩
  obtain ⟨G2, S2, sm2, rep⟩ := r1.freeze S1
  obtain ⟨c, t, q⟩ := truD_ok S2.gH (Rep.top S2.gH rep) q1
  exact ⟨c, t, k (.sh (.bl (!c))) s1 G2 H1 _ S2 (sm1.trans sm2) rfl q⟩
/-- a if t else b -/
def wIte (t : DT) (a b : DE) : DE := fun s R => t s fun c s1 => if c = true then a s1 R else b s1 R
theorem lift_ite {t : DT} {a b : DE} {Q : VK} (h : lift K (wIte t a b) σ H Q) : tIf (liftT K t) (lift K a) (lift K b) σ H Q := by
  obtain ⟨B, G, s, R, S, hw, k⟩ := h
  refine ⟨B, G, s, _, S, hw, fun c s1 G1 H1 S1 sm1 q1 => ?_⟩
  cases c with
  | true => exact iteT ⟨B, G1, s1, _, S1, q1, fun r s2 G2 H2 v S2 sm2 r2 q2 => k r s2 G2 H2 v S2 (sm1.trans sm2) r2 q2⟩
  | false => exact iteF ⟨B, G1, s1, _, S1, q1, fun r s2 G2 H2 v S2 sm2 r2 q2 => k r s2 G2 H2 v S2 (sm1.trans sm2) r2 q2⟩
/-! ### displays -/
def wVs (l : List DE) : DSt → (List D → DSt → Prop) → Prop := match l with
  | [] => fun s R => R [] s
  | a :: l => fun s R => a s fun r s1 => wVs l s1 fun ds s2 => R (frz r :: ds) s2
/-- values, frozen, from the left -/
def liftV (K : PySem.W.Frag) (w : DSt → (List D → DSt → Prop) → Prop) : TA := fun σ H Q => ∃ B G s R, StRep K B G s σ H ∧ w s R ∧ ∀ ds s' G' H' vs, StRep K B G' s' σ H' → Same G G' → Reps K G' ds vs → R ds s' → Q vs H'
def wVNil : DSt → (List D → DSt → Prop) → Prop := fun s R => R [] s
def wVCons (a : DE) (b : DSt → (List D → DSt → Prop) → Prop) : DSt → (List D → DSt → Prop) → Prop := fun s R => a s fun r s1 => b s1 fun ds s2 => R (frz r :: ds) s2
theorem lift_vnil {Q : List V → Hp → Prop} (h : liftV K wVNil σ H Q) : tNil σ H Q := by
  obtain ⟨B, G, s, R, S, hw, k⟩ := h
  exact k [] s G H [] S (.refl _) rfl hw
theorem lift_vcons {a : DE} {b : DSt → (List D → DSt → Prop) → Prop} {Q : List V → Hp → Prop} (h : liftV K (wVCons a b) σ H Q) : tCons (lift K a) (liftV K b) σ H Q := by
  obtain ⟨B, G, s, R, S, hw, k⟩ := h
  refine ⟨B, G, s, _, S, hw, fun r s1 G1 H1 v S1 sm1 r1 q1 => ?_⟩
  obtain ⟨G2, S2, sm2, rep⟩ := r1.freeze S1
  refine ⟨B, G2, s1, _, S2, q1, fun ds s2 G3 H2 vs S3 sm3 o2 q2 => ?_⟩
  exact k _ s2 G3 H2 _ S3 ((sm1.trans sm2).trans sm3) (.cons (Rep.mono sm3 _ _ rep) o2) q2
/-- a new object that is laid -/
theorem Gr.laid {G H : Hp} {p : Addr} {o : HO} (e : Same G H) (n : H p = none) : Gr G H G (upd H p o) :=
  ⟨.refl _, fun b u q => by rw [upd_ne (ne_of_none q n)]; exact q, fun b u q => by rw [upd_ne (ne_of_none (e _ _ q) n)]; exact e _ _ q, fun a u q => .inl ⟨u, q⟩⟩
theorem Gr.laidG {G H : Hp} {p : Addr} {o : HO} (e : Same G H) (n : H p = none) : Gr G H (upd G p o) (upd H p o) := by
  have gn : G p = none := by
    cases q : G p with
    | none => rfl
    | some u => have := e _ _ q; rw [n] at this; cases this
  refine ⟨fun b u q => by rw [upd_ne (ne_of_none q gn)]; exact q, fun b u q => by rw [upd_ne (ne_of_none q n)]; exact q, fun b u q => ?_, fun a u q => ?_⟩
  · by_cases hb : b = p
    · subst hb; rw [upd_same] at q ⊢; exact q
    · rw [upd_ne hb] at q ⊢; exact e _ _ q
  · by_cases hb : a = p
    · subst hb; exact .inr n
    · rw [upd_ne hb] at q; exact .inl ⟨u, q⟩
theorem free_of {G H : Hp} {p : Addr} (e : Same G H) (n : H p = none) : G p = none := by
  cases q : G p with
  | none => rfl
  | some u => have := e _ _ q; rw [n] at this; cases this
theorem NRep.lst {G H : Hp} {p : Addr} {ds : List D} {vs : List V} (e : Same G H) (n : H p = none) (r : Reps K G ds vs) : NRep K G (upd H p (.lst vs)) H (.ow (.lst ds)) (.ref p) :=
  ⟨p, _, rfl, n, free_of e n, upd_same, ⟨p, vs, rfl, upd_same, r⟩, rfl⟩
theorem NRep.tup {G H : Hp} {p : Addr} {ds : List D} {vs : List V} (e : Same G H) (n : H p = none) (r : Reps K G ds vs) : NRep K (upd G p (.tup vs)) (upd H p (.tup vs)) H (.sh (.tup ds)) (.ref p) :=
  ⟨p, vs, rfl, .of upd_same, Reps.mono (Gr.laidG e n).g _ _ r⟩
def wLst (w : DSt → (List D → DSt → Prop) → Prop) : DE := fun s R => w s fun ds s' => ds.length ≤ sizeLine ∧ R (.ow (.lst ds)) s'
def wTup (w : DSt → (List D → DSt → Prop) → Prop) : DE := fun s R => w s fun ds s' => ds.length ≤ sizeLine ∧ R (.sh (.tup ds)) s'
theorem lift_lst {w : DSt → (List D → DSt → Prop) → Prop} {Q : VK} (h : lift K (wLst w) σ H Q) : tLst (liftV K w) σ H Q := by
  obtain ⟨B, G, s, R, S, hw, k⟩ := h
  refine ⟨B, G, s, _, S, hw, fun ds s1 G1 H1 vs S1 sm1 r1 q1 => ⟨by rw [r1.length]; exact q1.1, fun p n => ?_⟩⟩
  have g : Gr G1 H1 G1 (upd H1 p (.lst vs)) := Gr.laid S1.gH n
  exact k _ s1 _ _ _ (S1.grow g) sm1 (S1.res g (NRep.lst S1.gH n r1)) q1.2
theorem lift_tup {w : DSt → (List D → DSt → Prop) → Prop} {Q : VK} (h : lift K (wTup w) σ H Q) : tTup (liftV K w) σ H Q := by
  obtain ⟨B, G, s, R, S, hw, k⟩ := h
  refine ⟨B, G, s, _, S, hw, fun ds s1 G1 H1 vs S1 sm1 r1 q1 => ⟨by rw [r1.length]; exact q1.1, fun p n => ?_⟩⟩
  have g : Gr G1 H1 (upd G1 p (.tup vs)) (upd H1 p (.tup vs)) := Gr.laidG S1.gH n
  exact k _ s1 _ _ _ (S1.grow g) (sm1.trans g.g) (S1.res g (NRep.tup S1.gH n r1)) q1.2
end
end DL

namespace DL
open PySem PySem.Spec PyProof.Rows L2
/-! ### rules by values joined -/
theorem opr_or {X : Cx} {f : Value → Value → Sem Value} {r r' : R2} (h : OpR X f r) (h' : OpR X f r') : OpR X f (fun x y H Q => r x y H Q ∨ r' x y H Q) := by
  intro pins s σ H x y v u Q I rx ry q
  rcases q with q | q
  · exact h pins s σ H x y v u Q I rx ry q
  · exact h' pins s σ H x y v u Q I rx ry q
theorem opr_mono {X : Cx} {f : Value → Value → Sem Value} {r r' : R2} (h : OpR X f r) (m : ∀ x y H Q, r' x y H Q → r x y H Q) : OpR X f r' := fun pins s σ H x y v u Q I rx ry q => h pins s σ H x y v u Q I rx ry (m x y H Q q)
section
variable {K : PySem.W.Frag} {G H : Hp}
/-- a plain datum as a result -/
theorem ret_sh (sm : Same G H) {R : Sl → Prop} {Q : VK} {d : D} {v : V} (k : ∀ res v G' H', Gr G H G' H' → NRep K G' H' H res v → R res → Q v H') (r : Rep K G d v) (h : R (.sh d)) : Q v H := k (.sh d) v G H (.refl sm) r h
theorem ret_lst (sm : Same G H) {R : Sl → Prop} {Q : VK} {ds : List D} {vs : List V} (k : ∀ res v G' H', Gr G H G' H' → NRep K G' H' H res v → R res → Q v H') (r : Reps K G ds vs) (h : R (.ow (.lst ds))) {p : Addr} (n : H p = none) : Q (.ref p) (upd H p (.lst vs)) := k _ _ G _ (Gr.laid sm n) (NRep.lst sm n r) h
theorem ret_tup (sm : Same G H) {R : Sl → Prop} {Q : VK} {ds : List D} {vs : List V} (k : ∀ res v G' H', Gr G H G' H' → NRep K G' H' H res v → R res → Q v H') (r : Reps K G ds vs) (h : R (.sh (.tup ds))) {p : Addr} (n : H p = none) : Q (.ref p) (upd H p (.tup vs)) := k _ _ _ _ (Gr.laidG sm n) (NRep.tup sm n r) h
end
/-! ### arithmetic -/
def rAddAll (K : PySem.W.Frag) : R2 := fun x y H Q => (∃ i j, x = .int i ∧ y = .int j ∧ Q (.int (i + j)) H) ∨ ((∃ i j, x = .str i ∧ y = .str j ∧ i.length + j.length ≤ sizeLine ∧ Q (.str (i ++ j)) H) ∨ (rCat x y H Q ∨ rCatA K x y H Q))
theorem op_addAll {X : Cx} : OpR X (binaryOp .Add) (rAddAll X.K) := opr_or op_add (opr_or op_add_str (opr_or op_cat op_catA))
def addD : B2
  | .int i, .int j, R => R (.sh (.int (i + j)))
  | .str x, .str y, R => x.length + y.length ≤ sizeLine ∧ R (.sh (.str (x ++ y)))
  | .lst xs, .lst ys, R => xs.length + ys.length ≤ sizeLine ∧ R (.ow (.lst (xs ++ ys)))
  | .tup xs, .tup ys, R => xs.length + ys.length ≤ sizeLine ∧ R (.sh (.tup (xs ++ ys)))
  | _, _, _ => False
def subD : B2
  | .int i, .int j, R => R (.sh (.int (i - j)))
  | _, _, _ => False
def mulD : B2
  | .int i, .int j, R => (CMul i j ∨ CMulW i j) ∧ R (.sh (.int (i * j)))
  | .lst xs, .int k, R => (-(2 ^ 63) ≤ k ∧ k < 2 ^ 63 ∧ xs.length * k.toNat ≤ sizeLine) ∧ R (.ow (.lst (List.replicate k.toNat xs).flatten))
  | _, _, _ => False
def fdivD : B2
  | .int i, .int j, R => CDivW i j ∧ R (.sh (.int (i / j)))
  | _, _, _ => False
def modD : B2
  | .int i, .int j, R => 0 < j ∧ R (.sh (.int (i % j)))
  | _, _, _ => False
def powD : B2
  | .int i, .int j, R => CPow i j ∧ R (.sh (.int (i ^ j.toNat)))
  | _, _, _ => False
def binD : Operator → B2
  | .Add => addD
  | .Sub => subD
  | .Mult => mulD
  | .FloorDiv => fdivD
  | .Mod => modD
  | .Pow => powD
  | _ => fun _ _ _ => False
def negD : B1
  | .int i, R => R (.sh (.int (-i)))
  | _, _ => False
section
variable {K : PySem.W.Frag}
theorem addD_ok : OpOk K (rAddAll K) addD := by
  intro G H d e x y R Q sm tx ty h k
  unfold addD at h
  split at h
  · rename_i i j
    cases (show x = .int i from tx); cases (show y = .int j from ty)
    exact .inl ⟨i, j, rfl, rfl, ret_sh sm k (d := .int (i + j)) rfl h⟩
  · rename_i i j
    cases (show x = .str i from tx); cases (show y = .str j from ty)
    exact .inr (.inl ⟨i, j, rfl, rfl, h.1, ret_sh sm k (d := .str (i ++ j)) rfl h.2⟩)
  · rename_i xs ys
    obtain ⟨a, vs, rfl, h2, h3⟩ := tx
    obtain ⟨b, us, rfl, y2, y3⟩ := ty
    exact .inr (.inr (.inl ⟨a, b, vs, us, rfl, rfl, h2, y2, by rw [h3.length, y3.length]; exact h.1, fun p n => ret_lst sm k (h3.append y3) h.2 n⟩))
  · rename_i xs ys
    obtain ⟨a, vs, rfl, h2, h3⟩ := tx
    obtain ⟨b, us, rfl, y2, y3⟩ := ty
    refine .inr (.inr (.inr ⟨a, b, vs, us, rfl, rfl, Same.tup sm h2, Same.tup sm y2, by rw [h3.length, y3.length]; exact h.1, fun e => ?_, fun e1 e2 => ?_, fun e1 e2 p n => ret_tup sm k (h3.append y3) h.2 n⟩))
    · subst e
      have ex : xs = [] := List.eq_nil_of_length_eq_zero h3.length.symm
      subst ex
      exact ret_sh sm k (d := .tup ([] ++ ys)) ⟨b, us, rfl, y2, y3⟩ h.2
    · subst e2
      have ex : ys = [] := List.eq_nil_of_length_eq_zero y3.length.symm
      subst ex
      exact ret_sh sm k (d := .tup (xs ++ [])) ⟨a, vs, rfl, h2, by rw [List.append_nil]; exact h3⟩ h.2
  · exact h.elim
theorem subD_ok : OpOk K (rI0 fun i j => .int (i - j)) subD := by
  intro G H d e x y R Q sm tx ty h k
  unfold subD at h
  split at h
  · rename_i i j
    cases (show x = .int i from tx); cases (show y = .int j from ty)
    exact ⟨i, j, rfl, rfl, ret_sh sm k (d := .int (i - j)) rfl h⟩
  · exact h.elim
def rMulAll : R2 := fun x y H Q => (rI CMul (fun i j => .int (i * j)) x y H Q ∨ rI CMulW (fun i j => .int (i * j)) x y H Q) ∨ rRep x y H Q
theorem op_mulAll {X : Cx} : OpR X (binaryOp .Mult) rMulAll := opr_or (opr_or op_mul op_mulW) op_rep
theorem reps_rep {G : Hp} {ds : List D} {vs : List V} (r : Reps K G ds vs) : ∀ n : Nat, Reps K G (List.replicate n ds).flatten (List.replicate n vs).flatten
  | 0 => rfl
  | n + 1 => by
    rw [List.replicate_succ, List.replicate_succ, List.flatten_cons, List.flatten_cons]
    exact r.append (reps_rep r n)
theorem mulD_ok : OpOk K rMulAll mulD := by
  intro G H d e x y R Q sm tx ty h k
  unfold mulD at h
  split at h
  · rename_i i j
    cases (show x = .int i from tx); cases (show y = .int j from ty)
    rcases h with ⟨h | h, q⟩
    · exact .inl (.inl ⟨i, j, rfl, rfl, h, ret_sh sm k (d := .int (i * j)) rfl q⟩)
    · exact .inl (.inr ⟨i, j, rfl, rfl, h, ret_sh sm k (d := .int (i * j)) rfl q⟩)
  · rename_i xs n
    obtain ⟨a, vs, rfl, h2, h3⟩ := tx
    cases (show y = .int n from ty)
    obtain ⟨⟨q1, q2, q3⟩, q⟩ := h
    exact .inr ⟨a, n, vs, rfl, rfl, h2, q1, q2, by rw [h3.length]; exact q3, fun p np => ret_lst sm k (reps_rep h3 _) q np⟩
  · exact h.elim
theorem fdivD_ok : OpOk K (rI CDivW fun i j => .int (i / j)) fdivD := by
  intro G H d e x y R Q sm tx ty h k
  unfold fdivD at h
  split at h
  · rename_i i j
    cases (show x = .int i from tx); cases (show y = .int j from ty)
    exact ⟨i, j, rfl, rfl, h.1, ret_sh sm k (d := .int (i / j)) rfl h.2⟩
  · exact h.elim
theorem modD_ok : OpOk K (rI (fun _ j => 0 < j) fun i j => .int (i % j)) modD := by
  intro G H d e x y R Q sm tx ty h k
  unfold modD at h
  split at h
  · rename_i i j
    cases (show x = .int i from tx); cases (show y = .int j from ty)
    exact ⟨i, j, rfl, rfl, h.1, ret_sh sm k (d := .int (i % j)) rfl h.2⟩
  · exact h.elim
theorem powD_ok : OpOk K (rI CPow fun i j => .int (i ^ j.toNat)) powD := by
  intro G H d e x y R Q sm tx ty h k
  unfold powD at h
  split at h
  · rename_i i j
    cases (show x = .int i from tx); cases (show y = .int j from ty)
    exact ⟨i, j, rfl, rfl, h.1, ret_sh sm k (d := .int (i ^ j.toNat)) rfl h.2⟩
  · exact h.elim
theorem negD_ok : UnOk K (rU fun i => .int (-i)) negD := by
  intro G H d x R Q sm tx h k
  unfold negD at h
  split at h
  · rename_i i
    cases (show x = .int i from tx)
    exact ⟨i, rfl, ret_sh sm k (d := .int (-i)) rfl h⟩
  · exact h.elim
/-- every binary operator -/
theorem binD_ok (X : Cx) (o : Operator) : ∃ r, OpR X (binaryOp o) r ∧ OpOk X.K r (binD o) := by
  have bad : ∃ r : R2, OpR X (binaryOp o) r ∧ OpOk X.K r (fun _ _ _ => False) := ⟨fun _ _ _ _ => False, fun _ _ _ _ _ _ _ _ _ _ _ _ q => q.elim, fun _ _ _ _ _ _ _ _ _ _ _ q _ => q.elim⟩
  cases o with
  | Add => exact ⟨_, op_addAll, addD_ok⟩
  | Sub => exact ⟨_, op_sub, subD_ok⟩
  | Mult => exact ⟨_, op_mulAll, mulD_ok⟩
  | FloorDiv => exact ⟨_, op_fdivW, fdivD_ok⟩
  | Mod => exact ⟨_, op_mod, modD_ok⟩
  | Pow => exact ⟨_, op_pow, powD_ok⟩
  | _ => exact bad
end
/-! ### data as the model's own -/
mutual
def toP : D → Option PyData
  | .non => some .none
  | .bl b => some (.bool b)
  | .int i => some (.int i)
  | .str s => some (.str s)
  | .lst xs => (toPs xs).map .list
  | .klst xs => (toPs xs).map .list
  | .tup xs => (toPs xs).map .tuple
  | _ => none
def toPs : List D → Option (List PyData)
  | [] => some []
  | d :: ds => match toP d, toPs ds with
    | some p, some ps => some (p :: ps)
    | _, _ => none
end
section
variable {K : PySem.W.Frag} {G H : Hp}
theorem map_some {α β : Type} {f : α → β} {o : Option α} {y : β} (h : o.map f = some y) : ∃ x, o = some x ∧ f x = y := Option.map_eq_some_iff.mp h
mutual
theorem Rep.dp (sm : Same G H) : ∀ (d : D) (v : V) (p : PyData), toP d = some p → Rep K G d v → Dp K H v p
  | .non, v, p, e, h => by cases e; cases (show v = .non from h); exact .non
  | .bl b, v, p, e, h => by cases e; cases (show v = .bl b from h); exact .bl b
  | .int i, v, p, e, h => by cases e; cases (show v = .int i from h); exact .int i
  | .str s, v, p, e, h => by cases e; cases (show v = .str s from h); exact .str s
  | .lst xs, v, p, e, h => by
    obtain ⟨ps, e1, rfl⟩ := map_some (show (toPs xs).map .list = some p from e)
    obtain ⟨a, vs, rfl, h2, h3⟩ := h
    exact .lst (.of (sm _ _ h2)) (Reps.dp sm xs vs ps e1 h3)
  | .klst xs, v, p, e, h => by
    obtain ⟨ps, e1, rfl⟩ := map_some (show (toPs xs).map .list = some p from e)
    obtain ⟨a, vs, rfl, h2, h3⟩ := h
    exact .lst (Same.seq sm h2) (Reps.dp sm xs vs ps e1 h3)
  | .tup xs, v, p, e, h => by
    obtain ⟨ps, e1, rfl⟩ := map_some (show (toPs xs).map .tuple = some p from e)
    obtain ⟨a, vs, rfl, h2, h3⟩ := h
    exact .tup (Same.tup sm h2) (Reps.dp sm xs vs ps e1 h3)
  | .dic _ _, v, p, e, h => by cases e
  | .ins _ _ _, v, p, e, h => by cases e
  | .ty _, v, p, e, h => by cases e
  | .gl _, v, p, e, h => by cases e
theorem Reps.dp (sm : Same G H) : ∀ (ds : List D) (vs : List V) (ps : List PyData), toPs ds = some ps → Reps K G ds vs → DpAll K H vs ps
  | [], vs, ps, e, h => by cases e; cases (show vs = [] from h); exact .nil
  | d :: ds, vs, ps, e, h => by
    obtain ⟨v, r, rfl, h2, h3⟩ := h
    unfold toPs at e
    cases e1 : toP d with
    | none => rw [e1] at e; cases e
    | some p =>
      cases e2 : toPs ds with
      | none => rw [e1, e2] at e; cases e
      | some qs =>
        rw [e1, e2] at e
        cases e
        exact .cons (Rep.dp sm d v p e1 h2) (Reps.dp sm ds r qs e2 h3)
end
theorem Top.dp (sm : Same G H) {d : D} {v : V} {p : PyData} (e : toP d = some p) (h : Top K G H d v) : Dp K H v p := by
  cases d with
  | lst xs =>
    obtain ⟨ps, e1, rfl⟩ := map_some (show (toPs xs).map .list = some p from e)
    obtain ⟨a, vs, rfl, h2, h3⟩ := h
    exact .lst (.of h2) (Reps.dp sm xs vs ps e1 h3)
  | dic ks xs => cases e
  | ins C ns xs => cases e
  | _ => exact Rep.dp sm _ v p e h
end
/-! ### comparisons -/
def eqDD (d e : D) (Q : Bool → Prop) : Prop := match toP d, toP e with
  | some p, some q => (SeqAt.shaped p = true ∧ SeqAt.shaped q = true) ∧ Q (PyData.eqv p q)
  | _, _ => False
def eqD : D → D → (Bool → Prop) → Prop
  | .str x, .str y, Q => Q (x == y)
  | .str _, .int _, Q => Q false
  | .int _, .str _, Q => Q false
  | .str _, .bl _, Q => Q false
  | .bl _, .str _, Q => Q false
  | .str _, .non, Q => Q false
  | .non, .str _, Q => Q false
  | d, e, Q => eqDD d e Q
/-- the order of data of like shapes -/
def ordD (f : PyData → PyData → Bool) (d e : D) (Q : Bool → Prop) : Prop := match toP d, toP e with
  | some p, some q => (SeqAt.shaped p = true ∧ SeqAt.shaped q = true ∧ PySem.W.alike p q = true ∧ p ≠ .none) ∧ Q (f p q)
  | _, _ => False
def ltD : D → D → (Bool → Prop) → Prop
  | .int i, .int j, Q => Q (decide (i < j))
  | d, e, Q => ordD PySem.W.dataLt d e Q
def gtD : D → D → (Bool → Prop) → Prop
  | .int i, .int j, Q => Q (decide (j < i))
  | d, e, Q => ordD (fun p q => PySem.W.dataLt q p) d e Q
def leD : D → D → (Bool → Prop) → Prop
  | .int i, .int j, Q => Q (decide (i ≤ j))
  | d, e, Q => ordD (fun p q => !PySem.W.dataLt q p) d e Q
def geD : D → D → (Bool → Prop) → Prop
  | .int i, .int j, Q => Q (decide (j ≤ i))
  | d, e, Q => ordD (fun p q => !PySem.W.dataLt p q) d e Q
def isNon : D → Bool
  | .non => true
  | _ => false
def inStr (x y : Str) (Q : Bool → Prop) : Prop := match x.cps.toList with
  | [c] => Q (decide (c ∈ y.cps.toList))
  | _ => Q (!(Builtin.Str.occurrences y x 0 y.length 1).isEmpty)
def flatD : D → Bool
  | .non => true
  | .bl _ => true
  | .int _ => true
  | .str _ => true
  | _ => false
def eqF : D → D → Bool
  | .non, .non => true
  | .bl a, .bl b => a == b
  | .bl a, .int b => (if a then 1 else 0) == b
  | .int a, .bl b => a == (if b then 1 else 0)
  | .int a, .int b => a == b
  | .str a, .str b => a == b
  | _, _ => false
def keyD : D → Option Key
  | .int i => some (.inl i)
  | .str s => some (.inr s)
  | _ => none
def inD : D → D → (Bool → Prop) → Prop
  | .str x, .str y, Q => inStr x y Q
  | d, .lst xs, Q => (match toP d, toPs xs with
    | some p, some qs => (SeqAt.shaped p = true ∧ SeqAt.shaped (.list qs) = true) ∧ Q (qs.any fun z => PyData.eqv z p)
    | _, _ => False)
  | d, .klst xs, Q => (match toP d, toPs xs with
    | some p, some qs => (SeqAt.shaped p = true ∧ SeqAt.shaped (.list qs) = true) ∧ Q (qs.any fun z => PyData.eqv z p)
    | _, _ => False)
  | d, .tup xs, Q => (flatD d = true ∧ xs.all flatD = true) ∧ Q (xs.any fun y => eqF y d)
  | _, _, _ => False
def cmpD : CmpOp → D → D → (Bool → Prop) → Prop
  | .Eq, d, e, Q => eqD d e Q
  | .NotEq, d, e, Q => eqD d e fun b => Q (!b)
  | .Lt, d, e, Q => ltD d e Q
  | .LtE, d, e, Q => leD d e Q
  | .Gt, d, e, Q => gtD d e Q
  | .GtE, d, e, Q => geD d e Q
  | .Is, d, .non, Q => Q (isNon d)
  | .IsNot, d, .non, Q => Q (!isNon d)
  | .In, d, e, Q => inD d e Q
  | .NotIn, d, e, Q => inD d e fun b => Q (!b)
  | _, _, _, _ => False
def cmpB (o : CmpOp) : B2 := fun d e R => cmpD o d e fun b => R (.sh (.bl b))
section
variable {K : PySem.W.Frag}
def BlOk (K : PySem.W.Frag) (r : R2) (f : D → D → (Bool → Prop) → Prop) : Prop := ∀ (G H : Hp) (d e : D) (x y : V) (R : Bool → Prop) (Q : VK), Same G H → Top K G H d x → Top K G H e y → f d e R → (∀ b, R b → Q (.bl b) H) → r x y H Q
theorem BlOk.op {r : R2} {f : D → D → (Bool → Prop) → Prop} (ok : BlOk K r f) : OpOk K r (fun d e R => f d e fun b => R (.sh (.bl b))) := fun G H d e x y R Q sm tx ty h k =>
  ok G H d e x y _ Q sm tx ty h fun b q => ret_sh sm k (d := .bl b) rfl q
theorem eqDD_ok : BlOk K (rEqD K) eqDD := by
  intro G H d e x y R Q sm tx ty h k
  unfold eqDD at h
  split at h
  · rename_i p q e1 e2
    exact ⟨p, q, Top.dp sm e1 tx, Top.dp sm e2 ty, h.1.1, h.1.2, k _ h.2⟩
  · exact h.elim
theorem neDD_ok : BlOk K (rNeD K) (fun d e Q => eqDD d e fun b => Q (!b)) := by
  intro G H d e x y R Q sm tx ty h k
  unfold eqDD at h
  split at h
  · rename_i p q e1 e2
    exact ⟨p, q, Top.dp sm e1 tx, Top.dp sm e2 ty, h.1.1, h.1.2, k _ h.2⟩
  · exact h.elim
theorem eqD_ok : BlOk K (fun x y H Q => rEq x y H Q ∨ rEqD K x y H Q) eqD := by
  intro G H d e x y R Q sm tx ty h k
  unfold eqD at h
  split at h
  · rename_i a b
    cases (show x = .str a from tx); cases (show y = .str b from ty)
    refine .inl ⟨rfl, ?_⟩
    rw [dec_str]
    exact k _ h
  · cases tx; cases ty; exact .inl ⟨rfl, k false h⟩
  · cases tx; cases ty; exact .inl ⟨rfl, k false h⟩
  · cases tx; cases ty; exact .inl ⟨rfl, k false h⟩
  · cases tx; cases ty; exact .inl ⟨rfl, k false h⟩
  · cases tx; cases ty; exact .inl ⟨rfl, k false h⟩
  · cases tx; cases ty; exact .inl ⟨rfl, k false h⟩
  · exact .inr (eqDD_ok G H _ _ x y R Q sm tx ty h k)
theorem neD_ok : BlOk K (fun x y H Q => rNe x y H Q ∨ rNeD K x y H Q) (fun d e Q => eqD d e fun b => Q (!b)) := by
  intro G H d e x y R Q sm tx ty h k
  unfold eqD at h
  split at h
  · rename_i a b
    cases (show x = .str a from tx); cases (show y = .str b from ty)
    refine .inl ⟨rfl, ?_⟩
    rw [dec_str]
    exact k _ h
  · cases tx; cases ty; exact .inl ⟨rfl, k true h⟩
  · cases tx; cases ty; exact .inl ⟨rfl, k true h⟩
  · cases tx; cases ty; exact .inl ⟨rfl, k true h⟩
  · cases tx; cases ty; exact .inl ⟨rfl, k true h⟩
  · cases tx; cases ty; exact .inl ⟨rfl, k true h⟩
  · cases tx; cases ty; exact .inl ⟨rfl, k true h⟩
  · exact .inr (neDD_ok G H _ _ x y R Q sm tx ty h k)
/-- an order by data -/
def rOrd (K : PySem.W.Frag) (f : PyData → PyData → Bool) : R2 := fun x y H Q => ∃ d e, Dp K H x d ∧ Dp K H y e ∧ SeqAt.shaped d = true ∧ SeqAt.shaped e = true ∧ PySem.W.alike d e = true ∧ d ≠ .none ∧ Q (.bl (f d e)) H
theorem shaped_depth {p : PyData} (h : SeqAt.shaped p = true) : p.depth ≤ 64 := by
  unfold SeqAt.shaped at h
  rw [Bool.and_eq_true] at h
  exact of_decide_eq_true h.2
theorem op_ltD {X : Cx} (hu : X.A.units + 64 < cLine) : OpR X (compareOp .Lt) (rOrd X.K PySem.W.dataLt) := by
  intro pins s σ H x y v u Q I rx ry h
  obtain ⟨d, e, hd, he, sd, se, al, nn, q⟩ := h
  obtain ⟨as, r1⟩ := Dp.reads I d x v hd rx
  obtain ⟨bs, r2⟩ := Dp.reads I e y u he ry
  exact PySem.W.lt_data r1 r2 al nn (by have := shaped_depth sd; omega) ⟨.bl _, H, I, rfl, q⟩
theorem op_gtD {X : Cx} (hu : X.A.units + 64 < cLine) : OpR X (compareOp .Gt) (rOrd X.K fun p q => PySem.W.dataLt q p) := by
  intro pins s σ H x y v u Q I rx ry h
  obtain ⟨d, e, hd, he, sd, se, al, nn, q⟩ := h
  obtain ⟨as, r1⟩ := Dp.reads I d x v hd rx
  obtain ⟨bs, r2⟩ := Dp.reads I e y u he ry
  exact PySem.W.gt_data r1 r2 al nn (by have := shaped_depth sd; omega) ⟨.bl _, H, I, rfl, q⟩
theorem op_leD {X : Cx} (hu : X.A.units + 64 < cLine) : OpR X (compareOp .LtE) (rOrd X.K fun p q => !PySem.W.dataLt q p) := by
  intro pins s σ H x y v u Q I rx ry h
  obtain ⟨d, e, hd, he, sd, se, al, nn, q⟩ := h
  obtain ⟨as, r1⟩ := Dp.reads I d x v hd rx
  obtain ⟨bs, r2⟩ := Dp.reads I e y u he ry
  exact PySem.W.le_data r1 r2 al nn (by have := shaped_depth sd; omega) ⟨.bl _, H, I, rfl, q⟩
theorem op_geD {X : Cx} (hu : X.A.units + 64 < cLine) : OpR X (compareOp .GtE) (rOrd X.K fun p q => !PySem.W.dataLt p q) := by
  intro pins s σ H x y v u Q I rx ry h
  obtain ⟨d, e, hd, he, sd, se, al, nn, q⟩ := h
  obtain ⟨as, r1⟩ := Dp.reads I d x v hd rx
  obtain ⟨bs, r2⟩ := Dp.reads I e y u he ry
  exact PySem.W.ge_data r1 r2 al nn (by have := shaped_depth sd; omega) ⟨.bl _, H, I, rfl, q⟩
theorem ordD_ok (f : PyData → PyData → Bool) : BlOk K (rOrd K f) (ordD f) := by
  intro G H d e x y R Q sm tx ty h k
  unfold ordD at h
  split at h
  · rename_i p q e1 e2
    exact ⟨p, q, Top.dp sm e1 tx, Top.dp sm e2 ty, h.1.1, h.1.2.1, h.1.2.2.1, h.1.2.2.2, k _ h.2⟩
  · exact h.elim
/-- ints, or data -/
def rIO (K : PySem.W.Frag) (g : Int → Int → Bool) (f : PyData → PyData → Bool) : R2 := fun x y H Q => rI0 (fun i j => .bl (g i j)) x y H Q ∨ rOrd K f x y H Q
theorem io_ok {g : Int → Int → Bool} {f : PyData → PyData → Bool} {u : D → D → (Bool → Prop) → Prop} (h1 : ∀ i j Q, u (.int i) (.int j) Q = Q (g i j)) (h2 : ∀ d e Q, (∀ i j, ¬ (d = .int i ∧ e = .int j)) → u d e Q = ordD f d e Q) : BlOk K (rIO K g f) u := by
  intro G H d e x y R Q sm tx ty h k
  by_cases c : ∃ i j, d = .int i ∧ e = .int j
  · obtain ⟨i, j, rfl, rfl⟩ := c
    rw [h1] at h
    cases (show x = .int i from tx); cases (show y = .int j from ty)
    exact .inl ⟨i, j, rfl, rfl, k _ h⟩
  · rw [h2 d e R fun i j q => c ⟨i, j, q⟩] at h
    exact .inr (ordD_ok f G H d e x y R Q sm tx ty h k)
theorem ltD_ok : BlOk K (rIO K (fun i j => decide (i < j)) PySem.W.dataLt) ltD := io_ok (fun _ _ _ => rfl) fun d e Q n => by
  unfold ltD
  split
  · rename_i i j; exact absurd ⟨rfl, rfl⟩ (n i j)
  · rfl
theorem gtD_ok : BlOk K (rIO K (fun i j => decide (j < i)) fun p q => PySem.W.dataLt q p) gtD := io_ok (fun _ _ _ => rfl) fun d e Q n => by
  unfold gtD
  split
  · rename_i i j; exact absurd ⟨rfl, rfl⟩ (n i j)
  · rfl
theorem leD_ok : BlOk K (rIO K (fun i j => decide (i ≤ j)) fun p q => !PySem.W.dataLt q p) leD := io_ok (fun _ _ _ => rfl) fun d e Q n => by
  unfold leD
  split
  · rename_i i j; exact absurd ⟨rfl, rfl⟩ (n i j)
  · rfl
theorem geD_ok : BlOk K (rIO K (fun i j => decide (j ≤ i)) fun p q => !PySem.W.dataLt p q) geD := io_ok (fun _ _ _ => rfl) fun d e Q n => by
  unfold geD
  split
  · rename_i i j; exact absurd ⟨rfl, rfl⟩ (n i j)
  · rfl
theorem rep_non {G : Hp} {d : D} {v : V} (h : Top K G H d v) : decide (v = .non) = isNon d := by
  cases d with
  | non => cases (show v = .non from h); rfl
  | bl b => cases (show v = .bl b from h); rfl
  | int b => cases (show v = .int b from h); rfl
  | str b => cases (show v = .str b from h); rfl
  | ty b => cases (show v = .ty b from h); rfl
  | gl b => cases (show v = .ref b from h); rfl
  | lst xs => obtain ⟨a, vs, rfl, _⟩ := h; rfl
  | klst xs => obtain ⟨a, vs, rfl, _⟩ := h; rfl
  | tup xs => obtain ⟨a, vs, rfl, _⟩ := h; rfl
  | dic ks xs => obtain ⟨a, vs, rfl, _⟩ := h; rfl
  | ins C ns xs => obtain ⟨a, dx, vs, rfl, _⟩ := h; rfl
theorem isD_ok : BlOk K (fun x y H Q => y = .non ∧ Q (.bl (decide (x = .non))) H) (fun d e Q => cmpD .Is d e Q) := by
  intro G H d e x y R Q sm tx ty h k
  unfold cmpD at h
  split at h <;> try exact h.elim
  all_goals first
    | (rename_i h1 h2; cases h1)
    | skip
  all_goals first
    | (cases (show y = .non from ty); exact ⟨rfl, by rw [rep_non tx]; exact k _ h⟩)
    | (rename_i z; cases z)
theorem isnotD_ok : BlOk K (fun x y H Q => y = .non ∧ Q (.bl (!decide (x = .non))) H) (fun d e Q => cmpD .IsNot d e Q) := by
  intro G H d e x y R Q sm tx ty h k
  unfold cmpD at h
  split at h <;> try exact h.elim
  all_goals first
    | (rename_i h1 h2; cases h1)
    | skip
  all_goals first
    | (cases (show y = .non from ty); exact ⟨rfl, by rw [rep_non tx]; exact k _ h⟩)
    | (rename_i z; cases z)
end
end DL

namespace DL
open PySem PySem.Spec PyProof.Rows L2
section
variable {K : PySem.W.Frag}
/-! ### in -/
def rInAll (K : PySem.W.Frag) (g : Bool → Bool) : R2 := fun x y H Q =>
  (∃ (c : Nat) (z : Str), x = .str ⟨#[c]⟩ ∧ y = .str z ∧ Q (.bl (g (decide (c ∈ z.cps.toList)))) H) ∨ ((∃ i j, x = .str i ∧ y = .str j ∧ Q (.bl (g (!(Builtin.Str.occurrences j i 0 j.length 1).isEmpty))) H) ∨
  ((∃ d ds, Dp K H x d ∧ Dp K H y (.list ds) ∧ SeqAt.shaped d = true ∧ SeqAt.shaped (.list ds) = true ∧ Q (.bl (g (ds.any fun z => PyData.eqv z d))) H) ∨
  (∃ p xs, y = .ref p ∧ (SqL K H p xs ∨ SqT K H p xs) ∧ flatV x = true ∧ xs.all flatV = true ∧ Q (.bl (g (inV x xs))) H)))
theorem op_inAll {X : Cx} (hu : X.A.units + 65 < cLine) : OpR X (compareOp .In) (rInAll X.K id) :=
  opr_or op_in_sign (opr_or op_in_str (opr_or (op_inD hu) (opr_mono op_in_seq fun x y H Q h => h)))
theorem op_notInAll {X : Cx} (hu : X.A.units + 65 < cLine) : OpR X (compareOp .NotIn) (rInAll X.K (fun b => !b)) :=
  opr_or op_notIn_sign (opr_or op_notin_str (opr_or (op_notInD hu) (opr_mono op_notIn_seq fun x y H Q h => h)))
theorem flat_v {G H : Hp} {d : D} {v : V} (f : flatD d = true) (t : Top K G H d v) : flatV v = true := by
  cases d with
  | non => cases (show v = .non from t); rfl
  | bl b => cases (show v = .bl b from t); rfl
  | int b => cases (show v = .int b from t); rfl
  | str b => cases (show v = .str b from t); rfl
  | _ => cases f
theorem flat_eq {G H : Hp} {d e : D} {v u : V} (f : flatD d = true) (f2 : flatD e = true) (t : Top K G H d v) (t2 : Top K G H e u) : eqV v u = eqF d e := by
  cases d with
  | non => cases (show v = .non from t); cases e with
    | non => cases (show u = .non from t2); rfl
    | bl b => cases (show u = .bl b from t2); rfl
    | int b => cases (show u = .int b from t2); rfl
    | str b => cases (show u = .str b from t2); rfl
    | _ => cases f2
  | bl b => cases (show v = .bl b from t); cases e with
    | non => cases (show u = .non from t2); rfl
    | bl b => cases (show u = .bl b from t2); rfl
    | int b => cases (show u = .int b from t2); rfl
    | str b => cases (show u = .str b from t2); rfl
    | _ => cases f2
  | int b => cases (show v = .int b from t); cases e with
    | non => cases (show u = .non from t2); rfl
    | bl b => cases (show u = .bl b from t2); rfl
    | int b => cases (show u = .int b from t2); rfl
    | str b => cases (show u = .str b from t2); rfl
    | _ => cases f2
  | str b => cases (show v = .str b from t); cases e with
    | non => cases (show u = .non from t2); rfl
    | bl b => cases (show u = .bl b from t2); rfl
    | int b => cases (show u = .int b from t2); rfl
    | str b => cases (show u = .str b from t2); rfl
    | _ => cases f2
  | _ => cases f
theorem flat_all {G : Hp} : ∀ {ds : List D} {vs : List V}, Reps K G ds vs → ds.all flatD = true → vs.all flatV = true
  | [], vs, h, _ => by cases (show vs = [] from h); rfl
  | d :: ds, vs, h, f => by
    obtain ⟨v, r, rfl, h2, h3⟩ := h
    rw [List.all_cons, Bool.and_eq_true] at f ⊢
    exact ⟨flat_v f.1 (Rep.top (.refl _) h2), flat_all h3 f.2⟩
theorem flat_any {G H : Hp} {d : D} {v : V} (sm : Same G H) (fd : flatD d = true) (t : Top K G H d v) : ∀ {ds : List D} {vs : List V}, Reps K G ds vs → ds.all flatD = true → inV v vs = ds.any fun y => eqF y d
  | [], vs, h, _ => by cases (show vs = [] from h); rfl
  | x :: ds, vs, h, f => by
    obtain ⟨u, r, rfl, h2, h3⟩ := h
    rw [List.all_cons, Bool.and_eq_true] at f
    show (eqV u v || inV v r) = (eqF x d || ds.any fun y => eqF y d)
    rw [flat_any sm fd t h3 f.2, flat_eq f.1 fd (Rep.top sm h2) t]
theorem inStr_ok {x y : Str} {R : Bool → Prop} (h : inStr x y R) : (∃ c, x = ⟨#[c]⟩ ∧ R (decide (c ∈ y.cps.toList))) ∨ R (!(Builtin.Str.occurrences y x 0 y.length 1).isEmpty) := by
  unfold inStr at h
  split at h
  · rename_i c e
    obtain ⟨cps⟩ := x
    refine .inl ⟨c, ?_, h⟩
    congr 1
    exact Array.toList_inj.mp e
  · exact .inr h
theorem inD_ok (g : Bool → Bool) : BlOk K (rInAll K g) (fun d e Q => inD d e fun b => Q (g b)) := by
  intro G H d e x y R Q sm tx ty h k
  unfold inD at h
  split at h
  · rename_i a b
    cases (show x = .str a from tx); cases (show y = .str b from ty)
    rcases inStr_ok h with ⟨c, rfl, q⟩ | q
    · exact .inl ⟨c, b, rfl, rfl, k _ q⟩
    · exact .inr (.inl ⟨a, b, rfl, rfl, k _ q⟩)
  · rename_i xs
    split at h
    · rename_i p qs e1 e2
      exact .inr (.inr (.inl ⟨p, qs, Top.dp sm e1 tx, Top.dp sm (d := .lst xs) (by show (toPs xs).map _ = _; rw [e2]; rfl) ty, h.1.1, h.1.2, k _ h.2⟩))
    · exact h.elim
  · rename_i xs
    split at h
    · rename_i p qs e1 e2
      exact .inr (.inr (.inl ⟨p, qs, Top.dp sm e1 tx, Top.dp sm (d := .klst xs) (by show (toPs xs).map _ = _; rw [e2]; rfl) ty, h.1.1, h.1.2, k _ h.2⟩))
    · exact h.elim
  · rename_i xs
    obtain ⟨a, vs, rfl, h2, h3⟩ := ty
    refine .inr (.inr (.inr ⟨a, vs, rfl, .inr (Same.tup sm h2), flat_v h.1.1 tx, flat_all h3 h.1.2, k _ ?_⟩))
    rw [flat_any sm h.1.1 tx h3 h.1.2]
    exact h.2
  · exact h.elim
/-- every comparison -/
theorem cmpD_ok (X : Cx) (hu : X.A.units + 65 < cLine) (o : CmpOp) : ∃ r, OpR X (compareOp o) r ∧ BlOk X.K r (cmpD o) := by
  have hu' : X.A.units + 64 < cLine := by omega
  cases o with
  | Eq => exact ⟨_, opr_or op_eq (op_eqD hu'), fun G H d e x y R Q sm tx ty h k => eqD_ok G H d e x y R Q sm tx ty (by cases e <;> exact h) k⟩
  | NotEq => exact ⟨_, opr_or op_ne (op_neD hu'), fun G H d e x y R Q sm tx ty h k => neD_ok G H d e x y R Q sm tx ty (by cases e <;> exact h) k⟩
  | Lt => exact ⟨_, opr_or op_lt (op_ltD hu'), fun G H d e x y R Q sm tx ty h k => ltD_ok G H d e x y R Q sm tx ty (by cases e <;> exact h) k⟩
  | LtE => exact ⟨_, opr_or op_le (op_leD hu'), fun G H d e x y R Q sm tx ty h k => leD_ok G H d e x y R Q sm tx ty (by cases e <;> exact h) k⟩
  | Gt => exact ⟨_, opr_or op_gt (op_gtD hu'), fun G H d e x y R Q sm tx ty h k => gtD_ok G H d e x y R Q sm tx ty (by cases e <;> exact h) k⟩
  | GtE => exact ⟨_, opr_or op_ge (op_geD hu'), fun G H d e x y R Q sm tx ty h k => geD_ok G H d e x y R Q sm tx ty (by cases e <;> exact h) k⟩
  | Is => exact ⟨_, op_isN, isD_ok⟩
  | IsNot => exact ⟨_, op_notN, isnotD_ok⟩
  | In => exact ⟨_, op_inAll hu, fun G H d e x y R Q sm tx ty h k => inD_ok id G H d e x y R Q sm tx ty (by cases e <;> exact h) k⟩
  | NotIn => exact ⟨_, op_notInAll hu, fun G H d e x y R Q sm tx ty h k => inD_ok (fun b => !b) G H d e x y R Q sm tx ty (by cases e <;> exact h) k⟩
/-! ### subscripts -/
def idxD : B2
  | .lst xs, .int i, R => (match atI xs i with
    | some d => R (.sh d)
    | none => False)
  | .klst xs, .int i, R => (match atI xs i with
    | some d => R (.sh d)
    | none => False)
  | .tup xs, .int i, R => (match atI xs i with
    | some d => R (.sh d)
    | none => False)
  | .str z, .int i, R => z.length ≤ sizeLine ∧ (match atI z.cps.toList i with
    | some c => R (.sh (.str ⟨#[c]⟩))
    | none => False)
  | _, _, _ => False
theorem reps_atI {G : Hp} {ds : List D} {vs : List V} {i : Int} {d : D} (r : Reps K G ds vs) (h : atI ds i = some d) : ∃ v, atI vs i = some v ∧ Rep K G d v := by
  unfold atI at h ⊢
  rw [r.length]
  cases e : ixN ds.length i with
  | none => rw [e] at h; cases h
  | some j =>
    rw [e] at h
    exact r.get (show ds[j]? = some d from h)
theorem idxD_ok : OpOk K (rIx K) idxD := by
  intro G H d e x y R Q sm tx ty h k
  unfold idxD at h
  split at h
  · rename_i xs i
    obtain ⟨a, vs, rfl, h2, h3⟩ := tx
    cases (show y = .int i from ty)
    split at h
    · rename_i d e1
      obtain ⟨v, e2, rv⟩ := reps_atI h3 e1
      exact .inl ⟨a, vs, i, v, rfl, rfl, .of h2, e2, ret_sh sm k rv h⟩
    · exact h.elim
  · rename_i xs i
    obtain ⟨a, vs, rfl, h2, h3⟩ := tx
    cases (show y = .int i from ty)
    split at h
    · rename_i d e1
      obtain ⟨v, e2, rv⟩ := reps_atI h3 e1
      exact .inl ⟨a, vs, i, v, rfl, rfl, Same.seq sm h2, e2, ret_sh sm k rv h⟩
    · exact h.elim
  · rename_i xs i
    obtain ⟨a, vs, rfl, h2, h3⟩ := tx
    cases (show y = .int i from ty)
    split at h
    · rename_i d e1
      obtain ⟨v, e2, rv⟩ := reps_atI h3 e1
      exact .inr (.inl ⟨a, vs, i, v, rfl, rfl, Same.tup sm h2, e2, ret_sh sm k rv h⟩)
    · exact h.elim
  · rename_i z i
    cases (show x = .str z from tx)
    cases (show y = .int i from ty)
    obtain ⟨hz, h⟩ := h
    split at h
    · rename_i c e1
      exact .inr (.inr ⟨z, i, c, rfl, rfl, hz, e1, ret_sh sm k (d := .str ⟨#[c]⟩) rfl h⟩)
    · exact h.elim
  · exact h.elim
/-! ### slices -/
def cutL {α : Type} (xs : List α) (lo hi : Option Int) : List α := (xs.drop (HT.sIx xs.length 0 lo)).take (HT.sIx xs.length xs.length hi - HT.sIx xs.length 0 lo)
theorem reps_cut {G : Hp} {ds : List D} {vs : List V} (r : Reps K G ds vs) (lo hi : Option Int) : Reps K G (cutL ds lo hi) (cutV vs lo hi) := by
  unfold cutL cutV
  rw [r.length]
  exact (r.drop _).take _
def slcD : D → Option Int → Option Int → (Sl → Prop) → Prop
  | .lst xs, lo, hi, R => R (.ow (.lst (cutL xs lo hi)))
  | .klst xs, lo, hi, R => R (.ow (.lst (cutL xs lo hi)))
  | .tup xs, lo, hi, R => R (.sh (.tup (cutL xs lo hi)))
  | .str z, lo, hi, R => z.length ≤ sizeLine ∧ R (.sh (.str (cutS z lo hi)))
  | _, _, _, _ => False
def rSlAll (K : PySem.W.Frag) : V → Option Int → Option Int → Hp → VK → Prop := fun x lo hi H Q => rSlL K x lo hi H Q ∨ (rSlA K x lo hi H Q ∨ rSlS x lo hi H Q)
theorem sl_all {X : Cx} : SlR X (rSlAll X.K) := sl_list.or (sl_tupA.or sl_str)
theorem slcD_ok {G H : Hp} {d : D} {x : V} {lo hi : Option Int} {R : Sl → Prop} {Q : VK} (sm : Same G H) (tx : Top K G H d x) (h : slcD d lo hi R) (k : ∀ res v G' H', Gr G H G' H' → NRep K G' H' H res v → R res → Q v H') : rSlAll K x lo hi H Q := by
  unfold slcD at h
  split at h
  · rename_i xs
    obtain ⟨a, vs, rfl, h2, h3⟩ := tx
    exact .inl ⟨a, vs, rfl, .of h2, fun p n => ret_lst sm k (reps_cut h3 lo hi) h n⟩
  · rename_i xs
    obtain ⟨a, vs, rfl, h2, h3⟩ := tx
    exact .inl ⟨a, vs, rfl, Same.seq sm h2, fun p n => ret_lst sm k (reps_cut h3 lo hi) h n⟩
  · rename_i xs
    obtain ⟨a, vs, rfl, h2, h3⟩ := tx
    refine .inr (.inl ⟨a, vs, rfl, Same.tup sm h2, fun e => ?_, fun e p n => ret_tup sm k (reps_cut h3 lo hi) h n⟩)
    refine ret_sh sm k (d := .tup (cutL xs lo hi)) ⟨a, vs, rfl, h2, ?_⟩ h
    have z := reps_cut h3 lo hi
    have ec : cutV vs lo hi = vs := by
      unfold cutV
      rw [e.1, e.2]
      simp
    rw [ec] at z
    exact z
  · rename_i z
    cases (show x = .str z from tx)
    exact .inr (.inr ⟨z, rfl, h.1, ret_sh sm k (d := .str (cutS z lo hi)) rfl h.2⟩)
  · exact h.elim
/-! ### built-ins -/
def lenD : BS
  | [.lst xs], R => R (.sh (.int xs.length))
  | [.klst xs], R => R (.sh (.int xs.length))
  | [.tup xs], R => R (.sh (.int xs.length))
  | [.str z], R => z.length ≤ sizeLine ∧ R (.sh (.int z.length))
  | [.dic ks _], R => R (.sh (.int ks.length))
  | _, _ => False
theorem tops1 {G H : Hp} {d : D} {vs : List V} (h : Tops K G H [d] vs) : ∃ v, vs = [v] ∧ Top K G H d v := by
  obtain ⟨v, r, rfl, h2, h3⟩ := h
  cases (show r = [] from h3)
  exact ⟨v, rfl, h2⟩
theorem tops2 {G H : Hp} {d e : D} {vs : List V} (h : Tops K G H [d, e] vs) : ∃ v u, vs = [v, u] ∧ Top K G H d v ∧ Top K G H e u := by
  obtain ⟨v, r, rfl, h2, h3⟩ := h
  obtain ⟨u, rfl, h4⟩ := tops1 h3
  exact ⟨v, u, rfl, h2, h4⟩
def rLenAll (K : PySem.W.Frag) : List V → Hp → VK → Prop := fun xs H Q => (∃ x n, xs = [x] ∧ LenV K x H n ∧ Q (.int n) H) ∨ (∃ a kvs, xs = [V.ref a] ∧ H a = some (.dK kvs) ∧ Q (.int kvs.length) H)
theorem call_lenAll {X : Cx} : CallR X (.builtin "len") (rLenAll X.K) := call_len.or call_lenD
theorem lenD_ok : BOk K (rLenAll K) lenD := by
  intro G H ds vs R Q sm t h k
  unfold lenD at h
  split at h
  · rename_i xs
    obtain ⟨v, rfl, a, vs, rfl, h2, h3⟩ := tops1 t
    exact .inl ⟨_, xs.length, rfl, .inl ⟨vs, .of h2, h3.length.symm⟩, ret_sh sm k (d := .int xs.length) rfl h⟩
  · rename_i xs
    obtain ⟨v, rfl, a, vs, rfl, h2, h3⟩ := tops1 t
    exact .inl ⟨_, xs.length, rfl, .inl ⟨vs, Same.seq sm h2, h3.length.symm⟩, ret_sh sm k (d := .int xs.length) rfl h⟩
  · rename_i xs
    obtain ⟨v, rfl, a, vs, rfl, h2, h3⟩ := tops1 t
    exact .inl ⟨_, xs.length, rfl, .inr ⟨vs, Same.tup sm h2, h3.length.symm⟩, ret_sh sm k (d := .int xs.length) rfl h⟩
  · rename_i z
    obtain ⟨v, rfl, h2⟩ := tops1 t
    cases (show v = .str z from h2)
    exact .inl ⟨_, z.length, rfl, ⟨h.1, rfl⟩, ret_sh sm k (d := .int z.length) rfl h.2⟩
  · rename_i ks xs
    obtain ⟨v, rfl, a, kvs, rfl, h2, h4, h3⟩ := tops1 t
    refine .inr ⟨a, kvs, rfl, h2, ret_sh sm k (d := .int ks.length) ?_ h⟩
    show V.int _ = V.int _
    rw [← h4, List.length_map]
  · exact h.elim
def intD : BS
  | [.int i], R => R (.sh (.int i))
  | [.bl b], R => R (.sh (.int (if b then 1 else 0)))
  | _, _ => False
theorem intD_ok : BOk K (fun xs H Q => (∃ i, xs = [.int i] ∧ Q (.int i) H) ∨ ∃ k, xs = [.bl k] ∧ Q (.int (if k then 1 else 0)) H) intD := by
  intro G H ds vs R Q sm t h k
  unfold intD at h
  split at h
  · rename_i i
    obtain ⟨v, rfl, h2⟩ := tops1 t
    cases (show v = .int i from h2)
    exact .inl ⟨i, rfl, ret_sh sm k (d := .int i) rfl h⟩
  · rename_i b
    obtain ⟨v, rfl, h2⟩ := tops1 t
    cases (show v = .bl b from h2)
    exact .inr ⟨b, rfl, ret_sh sm k (d := .int (if b then 1 else 0)) rfl h⟩
  · exact h.elim
def boolD : BS
  | [.int i], R => R (.sh (.bl (i != 0)))
  | [.bl b], R => R (.sh (.bl b))
  | _, _ => False
theorem boolD_ok : BOk K (fun xs H Q => (∃ i, xs = [.int i] ∧ Q (.bl (i != 0)) H) ∨ ∃ k, xs = [.bl k] ∧ Q (.bl k) H) boolD := by
  intro G H ds vs R Q sm t h k
  unfold boolD at h
  split at h
  · rename_i i
    obtain ⟨v, rfl, h2⟩ := tops1 t
    cases (show v = .int i from h2)
    exact .inl ⟨i, rfl, ret_sh sm k (d := .bl (i != 0)) rfl h⟩
  · rename_i b
    obtain ⟨v, rfl, h2⟩ := tops1 t
    cases (show v = .bl b from h2)
    exact .inr ⟨b, rfl, ret_sh sm k (d := .bl b) rfl h⟩
  · exact h.elim
def strD : BS
  | [.int i], R => i.natAbs.log2 < 1920 ∧ R (.sh (.str (toString i)))
  | _, _ => False
theorem strD_ok : BOk K (fun xs H Q => ∃ i, xs = [.int i] ∧ i.natAbs.log2 < 1920 ∧ Q (.str (toString i)) H) strD := by
  intro G H ds vs R Q sm t h k
  unfold strD at h
  split at h
  · rename_i i
    obtain ⟨v, rfl, h2⟩ := tops1 t
    cases (show v = .int i from h2)
    exact ⟨i, rfl, h.1, ret_sh sm k (d := .str (toString i)) rfl h.2⟩
  · exact h.elim
def seqOf : D → Option (List D)
  | .lst xs => some xs
  | .klst xs => some xs
  | .tup xs => some xs
  | _ => none
theorem seqOf_ok {G H : Hp} {d : D} {v : V} {xs : List D} (sm : Same G H) (e : seqOf d = some xs) (t : Top K G H d v) : ∃ a vs, v = .ref a ∧ (SqL K H a vs ∨ SqT K H a vs) ∧ Reps K G xs vs := by
  unfold seqOf at e
  split at e
  · cases e; obtain ⟨a, vs, rfl, h2, h3⟩ := t; exact ⟨a, vs, rfl, .inl (.of h2), h3⟩
  · cases e; obtain ⟨a, vs, rfl, h2, h3⟩ := t; exact ⟨a, vs, rfl, .inl (Same.seq sm h2), h3⟩
  · cases e; obtain ⟨a, vs, rfl, h2, h3⟩ := t; exact ⟨a, vs, rfl, .inr (Same.tup sm h2), h3⟩
  · cases e
def listD : BS
  | [d], R => (match seqOf d with
    | some xs => R (.ow (.lst xs))
    | none => False)
  | _, _ => False
theorem listD_ok : BOk K (fun xs H Q => ∃ p ys, xs = [.ref p] ∧ (SqL K H p ys ∨ SqT K H p ys) ∧ ∀ l, H l = none → Q (.ref l) (upd H l (.lst ys))) listD := by
  intro G H ds vs R Q sm t h k
  unfold listD at h
  split at h
  · rename_i d
    obtain ⟨v, rfl, h2⟩ := tops1 t
    split at h
    · rename_i xs e
      obtain ⟨a, vs, rfl, y1, y2⟩ := seqOf_ok sm e h2
      exact ⟨a, vs, rfl, y1, fun p n => ret_lst sm k y2 h n⟩
    · exact h.elim
  · exact h.elim
def tupleD : BS
  | [.lst xs], R => R (.sh (.tup xs))
  | [.klst xs], R => R (.sh (.tup xs))
  | [.tup xs], R => R (.sh (.tup xs))
  | _, _ => False
theorem tupleD_ok : BOk K (fun xs H Q => ∃ p ys, xs = [.ref p] ∧ ((SqL K H p ys ∧ ∀ l, H l = none → Q (.ref l) (upd H l (.tup ys))) ∨ (SqT K H p ys ∧ Q (.ref p) H))) tupleD := by
  intro G H ds vs R Q sm t h k
  unfold tupleD at h
  split at h
  · obtain ⟨v, rfl, a, vs, rfl, h2, h3⟩ := tops1 t
    exact ⟨a, vs, rfl, .inl ⟨.of h2, fun p n => ret_tup sm k h3 h n⟩⟩
  · obtain ⟨v, rfl, a, vs, rfl, h2, h3⟩ := tops1 t
    exact ⟨a, vs, rfl, .inl ⟨Same.seq sm h2, fun p n => ret_tup sm k h3 h n⟩⟩
  · rename_i xs
    obtain ⟨v, rfl, a, vs, rfl, h2, h3⟩ := tops1 t
    exact ⟨a, vs, rfl, .inr ⟨Same.tup sm h2, ret_sh sm k (d := .tup xs) ⟨a, vs, rfl, h2, h3⟩ h⟩⟩
  · exact h.elim
def blsOf : List D → Option (List Bool)
  | [] => some []
  | .bl b :: ds => (blsOf ds).map (b :: ·)
  | _ :: _ => none
theorem blsOf_ok : ∀ {ds : List D} {bs : List Bool}, blsOf ds = some bs → ds = bs.map .bl
  | [], bs, e => by cases e; rfl
  | d :: ds, bs, e => by
    cases d with
    | bl b =>
      obtain ⟨cs, e1, rfl⟩ := map_some (show (blsOf ds).map (b :: ·) = some bs from e)
      rw [blsOf_ok e1]
      rfl
    | _ => cases e
theorem blsOf_map (bs : List Bool) : blsOf (bs.map .bl) = some bs := by
  induction bs with
  | nil => rfl
  | cons b bs ih => show (blsOf (bs.map .bl)).map (b :: ·) = _; rw [ih]; rfl
def intsOf : List D → Option (List Int)
  | [] => some []
  | .int b :: ds => (intsOf ds).map (b :: ·)
  | _ :: _ => none
theorem intsOf_ok : ∀ {ds : List D} {bs : List Int}, intsOf ds = some bs → ds = bs.map .int
  | [], bs, e => by cases e; rfl
  | d :: ds, bs, e => by
    cases d with
    | int b =>
      obtain ⟨cs, e1, rfl⟩ := map_some (show (intsOf ds).map (b :: ·) = some bs from e)
      rw [intsOf_ok e1]
      rfl
    | _ => cases e
theorem intsOf_map (bs : List Int) : intsOf (bs.map .int) = some bs := by
  induction bs with
  | nil => rfl
  | cons b bs ih => show (intsOf (bs.map .int)).map (b :: ·) = _; rw [ih]; rfl
def lstOf : D → Option (List D)
  | .lst xs => some xs
  | .klst xs => some xs
  | _ => none
theorem lstOf_ok {G H : Hp} {d : D} {v : V} {xs : List D} (sm : Same G H) (e : lstOf d = some xs) (t : Top K G H d v) : ∃ a vs, v = .ref a ∧ SqL K H a vs ∧ Reps K G xs vs := by
  unfold lstOf at e
  split at e
  · cases e; obtain ⟨a, vs, rfl, h2, h3⟩ := t; exact ⟨a, vs, rfl, .of h2, h3⟩
  · cases e; obtain ⟨a, vs, rfl, h2, h3⟩ := t; exact ⟨a, vs, rfl, Same.seq sm h2, h3⟩
  · cases e
/-- a list of True, False -/
def blsD (g : List Bool → Bool) : BS
  | [d], R => (match (lstOf d).bind blsOf with
    | some bs => R (.sh (.bl (g bs)))
    | none => False)
  | _, _ => False
theorem blsD_ok {g : List Bool → Bool} {r : List V → Hp → VK → Prop} (hr : ∀ H Q (a : Addr) (bs : List Bool), SqL K H a (bs.map V.bl) → Q (.bl (g bs)) H → r [.ref a] H Q) : BOk K r (blsD g) := by
  intro G H ds vs R Q sm t h k
  unfold blsD at h
  split at h
  · rename_i d
    obtain ⟨v, rfl, h2⟩ := tops1 t
    split at h
    · rename_i bs e
      obtain ⟨xs, e1, e2⟩ := Option.bind_eq_some_iff.mp e
      obtain ⟨a, vs, rfl, y1, y2⟩ := lstOf_ok sm e1 h2
      rw [blsOf_ok e2] at y2
      rw [Reps.bls.mp y2] at y1
      exact hr H Q a bs y1 (ret_sh sm k (d := .bl (g bs)) rfl h)
    · exact h.elim
  · exact h.elim
def allD : BS := blsD fun bs => bs.all id
def anyD : BS := blsD fun bs => bs.any id
theorem allD_ok : BOk K (rAll K) allD := blsD_ok fun H Q a bs h q => ⟨a, bs, rfl, h, q⟩
theorem anyD_ok : BOk K (rAny K) anyD := blsD_ok fun H Q a bs h q => ⟨a, bs, rfl, h, q⟩
def int2D (g : Int → Int → Int) : BS
  | [.int i, .int j], R => R (.sh (.int (g i j)))
  | _, _ => False
theorem int2D_ok {g : Int → Int → Int} : BOk K (fun xs H Q => ∃ i j, xs = [.int i, .int j] ∧ Q (.int (g i j)) H) (int2D g) := by
  intro G H ds vs R Q sm t h k
  unfold int2D at h
  split at h
  · rename_i i j
    obtain ⟨v, u, rfl, h2, h3⟩ := tops2 t
    cases (show v = .int i from h2); cases (show u = .int j from h3)
    exact ⟨i, j, rfl, ret_sh sm k (d := .int (g i j)) rfl h⟩
  · exact h.elim
/-- of a list of ints, not empty: its greatest, its least -/
def extD (le : Int → Int → Prop) (ns : List Int) (R : Sl → Prop) : Prop := 0 < ns.length ∧ ∀ m, m ∈ ns → (∀ y, y ∈ ns → le y m) → R (.sh (.int m))
def maxD : BS
  | [.int i, .int j], R => R (.sh (.int (if j > i then j else i)))
  | [d], R => (match (lstOf d).bind intsOf with
    | some ns => extD (fun y m => y ≤ m) ns R
    | none => False)
  | _, _ => False
def minD : BS
  | [.int i, .int j], R => R (.sh (.int (if j < i then j else i)))
  | [d], R => (match (lstOf d).bind intsOf with
    | some ns => extD (fun y m => m ≤ y) ns R
    | none => False)
  | _, _ => False
theorem maxD_ok : BOk K (fun xs H Q => (∃ i j, xs = [.int i, .int j] ∧ Q (.int (if j > i then j else i)) H) ∨ rMax K xs H Q) maxD := by
  intro G H ds vs R Q sm t h k
  unfold maxD at h
  split at h
  · rename_i i j
    obtain ⟨v, u, rfl, h2, h3⟩ := tops2 t
    cases (show v = .int i from h2); cases (show u = .int j from h3)
    exact .inl ⟨i, j, rfl, ret_sh sm k (d := .int (if j > i then j else i)) rfl h⟩
  · rename_i d
    obtain ⟨v, rfl, h2⟩ := tops1 t
    split at h
    · rename_i bs e
      obtain ⟨xs, e1, e2⟩ := Option.bind_eq_some_iff.mp e
      obtain ⟨a, vs, rfl, y1, y2⟩ := lstOf_ok sm e1 h2
      rw [intsOf_ok e2] at y2
      rw [Reps.ints.mp y2] at y1
      exact .inr ⟨a, bs, rfl, y1, h.1, fun m hm hl => ret_sh sm k (d := .int m) rfl (h.2 m hm hl)⟩
    · exact h.elim
  · exact h.elim
theorem minD_ok : BOk K (fun xs H Q => (∃ i j, xs = [.int i, .int j] ∧ Q (.int (if j < i then j else i)) H) ∨ rMin K xs H Q) minD := by
  intro G H ds vs R Q sm t h k
  unfold minD at h
  split at h
  · rename_i i j
    obtain ⟨v, u, rfl, h2, h3⟩ := tops2 t
    cases (show v = .int i from h2); cases (show u = .int j from h3)
    exact .inl ⟨i, j, rfl, ret_sh sm k (d := .int (if j < i then j else i)) rfl h⟩
  · rename_i d
    obtain ⟨v, rfl, h2⟩ := tops1 t
    split at h
    · rename_i bs e
      obtain ⟨xs, e1, e2⟩ := Option.bind_eq_some_iff.mp e
      obtain ⟨a, vs, rfl, y1, y2⟩ := lstOf_ok sm e1 h2
      rw [intsOf_ok e2] at y2
      rw [Reps.ints.mp y2] at y1
      exact .inr ⟨a, bs, rfl, y1, h.1, fun m hm hl => ret_sh sm k (d := .int m) rfl (h.2 m hm hl)⟩
    · exact h.elim
  · exact h.elim
def sumD : BS
  | [d], R => (match (lstOf d).bind intsOf with
    | some ns => R (.sh (.int ns.sum))
    | none => False)
  | _, _ => False
theorem sumD_ok : BOk K (rSum K) sumD := by
  intro G H ds vs R Q sm t h k
  unfold sumD at h
  split at h
  · rename_i d
    obtain ⟨v, rfl, h2⟩ := tops1 t
    split at h
    · rename_i bs e
      obtain ⟨xs, e1, e2⟩ := Option.bind_eq_some_iff.mp e
      obtain ⟨a, vs, rfl, y1, y2⟩ := lstOf_ok sm e1 h2
      rw [intsOf_ok e2] at y2
      rw [Reps.ints.mp y2] at y1
      exact ⟨a, bs, rfl, y1, ret_sh sm k (d := .int bs.sum) rfl h⟩
    · exact h.elim
  · exact h.elim
/-! ### isinstance -/
def tyN : D → String
  | .non => "NoneType"
  | .bl _ => "bool"
  | .int _ => "int"
  | .str _ => "str"
  | .lst _ => "list"
  | .klst _ => "list"
  | .tup _ => "tuple"
  | .dic _ _ => "dict"
  | _ => "?"
def isT (a b : String) : Bool := a == b || (a == "bool" && b == "int")
theorem kit_all : ∀ a ∈ (["NoneType", "bool", "int", "str", "list", "tuple", "dict"] : List String), ∀ b ∈ (["bool", "int", "str", "list", "tuple", "dict"] : List String), kitB a b = some (isT a b) := by decide +kernel
def tyKnown (b : String) : Bool := (["bool", "int", "str", "list", "tuple", "dict"] : List String).contains b
theorem tyX_of {G H : Hp} {d : D} {v : V} (sm : Same G H) (h : tyN d ≠ "?") (t : Top K G H d v) : TyX K H v (.type (tyN d)) := by
  cases d with
  | non => cases (show v = .non from t); exact .base .non
  | bl b => cases (show v = .bl b from t); exact .base (.bl b)
  | int b => cases (show v = .int b from t); exact .base (.int b)
  | str b => cases (show v = .str b from t); exact .base (.str b)
  | lst xs => obtain ⟨a, vs, rfl, h2, _⟩ := t; exact .base (.lst h2)
  | klst xs =>
    obtain ⟨a, vs, rfl, h2, _⟩ := t
    rcases h2 with (h2 | ⟨o, h2⟩) | ⟨o, its, n, k1, k2, _⟩
    · exact .base (.lst (sm _ _ h2))
    · exact .base (.frz (sm _ _ h2))
    · exact .kList k1 k2
  | tup xs =>
    obtain ⟨a, vs, rfl, h2, _⟩ := t
    rcases h2 with (h2 | ⟨o, h2⟩) | ⟨o, its, n, k1, k2, _⟩
    · exact .base (.tup (sm _ _ h2))
    · exact .fTuple (sm _ _ h2)
    · exact .kTuple k1 k2
  | dic ks xs => obtain ⟨a, vs, rfl, h2, _⟩ := t; exact .base (.dK h2)
  | _ => exact absurd rfl h
theorem tyN_mem {d : D} (h : tyN d ≠ "?") : tyN d ∈ (["NoneType", "bool", "int", "str", "list", "tuple", "dict"] : List String) := by
  cases d <;> first | (simp [tyN]; done) | exact absurd rfl h
theorem kit_is {d : D} {b : String} (h : tyN d ≠ "?") (hb : tyKnown b = true) : PySem.W.kitOne K (.type (tyN d)) (.type b) = some (isT (tyN d) b) :=
  kit_ty (kit_all _ (tyN_mem h) b (by simpa [tyKnown] using hb))
theorem kit_is_any {d : D} (h : tyN d ≠ "?") : ∀ bs : List String, bs.all tyKnown = true → PySem.W.kitAny K (.type (tyN d)) (bs.map Value.type) = some (bs.any (isT (tyN d)))
  | [], _ => rfl
  | b :: bs, hb => by
    rw [List.all_cons, Bool.and_eq_true] at hb
    refine kitAny_cons (kit_is h hb.1) (fun e => ?_) (fun e => ?_)
    · rw [List.any_cons, e, Bool.false_or]; exact kit_is_any h bs hb.2
    · rw [List.any_cons, e, Bool.true_or]
/-- isinstance against built-in types -/
def isiD (bs : List String) : B1 := fun d R => tyN d ≠ "?" ∧ R (.sh (.bl (bs.any (isT (tyN d)))))
theorem isiD_ok1 {b : String} (hb : tyKnown b = true) : UnOk K (fun x H Q => rIsi K [x, .ty b] H Q) (isiD [b]) := by
  intro G H d x R Q sm tx h k
  refine ⟨x, .ty b, .type (tyN d), .type b, isT (tyN d) b, rfl, .ty b, tyX_of sm h.1 tx, kit_is h.1 hb, ?_⟩
  refine ret_sh sm k (d := .bl (isT (tyN d) b)) rfl ?_
  have := h.2
  rw [List.any_cons, List.any_nil, Bool.or_false] at this
  exact this
theorem isiD_okT {bs : List String} (hb : bs.all tyKnown = true) (hn : bs.length ≤ sizeLine) : UnOk K (fun x H Q => (bs.map V.ty).length ≤ sizeLine ∧ ∀ p, H p = none → rIsiT K [x, .ref p] (upd H p (.tup (bs.map V.ty))) Q) (isiD bs) := by
  intro G H d x R Q sm tx h k
  refine ⟨by rw [List.length_map]; exact hn, fun p n => ?_⟩
  have g : Gr G H G (upd H p (.tup (bs.map V.ty))) := Gr.laid sm n
  refine ⟨x, p, bs.map V.ty, .type (tyN d), bs.map Value.type, bs.any (isT (tyN d)), rfl, upd_same, ?_, tyX_of g.gh h.1 (Top.mono (.refl _) g.h tx), kit_is_any h.1 bs hb, ?_⟩
  · clear hn h k hb g
    induction bs with
    | nil => exact .nil
    | cons b bs ih => exact .cons (.ty b) ih
  · exact k (.sh (.bl (bs.any (isT (tyN d))))) _ G _ g rfl h.2
end
end DL

namespace DL
open PySem PySem.Spec PyProof.Rows L2
section
variable {K : PySem.W.Frag}
/-! ### what a loop walks -/
structure ItOk (K : PySem.W.Frag) (G : Hp) (items : List D) (J : It) : Prop where
  go : ∀ i H, Same G H → i < items.length → J.go i H
  yl : ∀ (i : Nat) (Gi H : Hp) x H' d, Same G Gi → Same Gi H → J.yld i H x H' → items[i]? = some d → ∃ G', Gr Gi H G' H' ∧ Rep K G' d x
  st : ∀ H, Same G H → J.stop items.length H
abbrev DI := DSt → (List D → DSt → Prop) → Prop
def liftI (K : PySem.W.Frag) (w : DI) : TI := fun σ H R => ∃ B G s N, StRep K B G s σ H ∧ w s N ∧ ∀ items s' G' H' J, StRep K B G' s' σ H' → Same G G' → ItOk K G' items J → N items s' → R J H'
theorem itOk_list {G : Hp} {a : Addr} {vs : List V} {xs : List D} (h : SqL K G a vs) (r : Reps K G xs vs) : ItOk K G xs (Itl K a) := by
  refine ⟨fun i H sm hi => ?_, fun i Gi H x H' d sm sm2 y e => ?_, fun H sm => ⟨vs, Same.seq sm h, Nat.le_of_eq r.length⟩⟩
  · obtain ⟨v, e, _⟩ := r.get (List.getElem?_eq_getElem hi)
    exact ⟨vs, v, Same.seq sm h, e⟩
  · obtain ⟨rfl, y⟩ := y
    obtain ⟨v, e1, r1⟩ := r.get e
    have e2 := y vs (Same.seq (sm.trans sm2) h)
    rw [e1] at e2
    cases e2
    exact ⟨Gi, .refl sm2, Rep.mono sm _ _ r1⟩
theorem itOk_tup {G : Hp} {a : Addr} {vs : List V} {xs : List D} (h : SqT K G a vs) (r : Reps K G xs vs) : ItOk K G xs (Itt K a) := by
  refine ⟨fun i H sm hi => ?_, fun i Gi H x H' d sm sm2 y e => ?_, fun H sm => ⟨vs, Same.tup sm h, Nat.le_of_eq r.length⟩⟩
  · obtain ⟨v, e, _⟩ := r.get (List.getElem?_eq_getElem hi)
    exact ⟨vs, v, Same.tup sm h, e⟩
  · obtain ⟨rfl, y⟩ := y
    obtain ⟨v, e1, r1⟩ := r.get e
    have e2 := y vs (Same.tup (sm.trans sm2) h)
    rw [e1] at e2
    cases e2
    exact ⟨Gi, .refl sm2, Rep.mono sm _ _ r1⟩
def charsD (z : Str) : List D := z.cps.toList.map fun c => .str ⟨#[c]⟩
theorem itOk_str {G : Hp} {z : Str} : ItOk K G (charsD z) (Its z) := by
  have el : (charsD z).length = z.cps.size := by unfold charsD; rw [List.length_map]; simp
  refine ⟨fun i H sm hi => by rw [el] at hi; exact hi, fun i Gi H x H' d sm sm2 y e => ?_, fun H sm => by show z.cps.size ≤ _; rw [el]; exact Nat.le_refl _⟩
  obtain ⟨rfl, c, y, rfl⟩ := y
  refine ⟨Gi, .refl sm2, ?_⟩
  unfold charsD at e
  rw [List.getElem?_map] at e
  have y2 : z.cps.toList[i]? = some c := by simpa using y
  rw [y2] at e
  cases e
  rfl
def rangeD (lo : Int) (n : Nat) : List D := (List.range n).map fun i => .int (lo + (i : Nat))
theorem itOk_range {G : Hp} {lo : Int} {n : Nat} : ItOk K G (rangeD lo n) (Itr lo n) := by
  have el : (rangeD lo n).length = n := by unfold rangeD; rw [List.length_map, List.length_range]
  refine ⟨fun i H sm hi => by rw [el] at hi; exact hi, fun i Gi H x H' d sm sm2 y e => ?_, fun H sm => by show n ≤ _; rw [el]; exact Nat.le_refl _⟩
  obtain ⟨rfl, rfl⟩ := y
  refine ⟨Gi, .refl sm2, ?_⟩
  have hi : i < n := by have := getElem?_lt e; rw [el] at this; exact this
  unfold rangeD at e
  rw [List.getElem?_map, List.getElem?_range hi] at e
  cases e
  rfl
/-- pairs of the items of two -/
def zipD (xs ys : List D) : List D := List.zipWith (fun x y => .tup [x, y]) xs ys
theorem zipD_get {xs ys : List D} {i : Nat} {d : D} (h : (zipD xs ys)[i]? = some d) : ∃ x y, xs[i]? = some x ∧ ys[i]? = some y ∧ d = .tup [x, y] := by
  unfold zipD at h
  rw [List.getElem?_zipWith] at h
  split at h
  · rename_i a b e1 e2
    cases h
    exact ⟨_, _, e1, e2, rfl⟩
  · cases h
theorem itOk_zip {G : Hp} {xs ys : List D} {vs us : List V} {J : It} (r1 : Reps K G xs vs) (r2 : Reps K G ys us)
    (go : ∀ i H x y, Same G H → vs[i]? = some x → us[i]? = some y → J.go i H)
    (yl : ∀ i H v H', Same G H → J.yld i H v H' → ∃ T x y, v = .ref T ∧ H T = none ∧ H' = upd H T (.tup [x, y]) ∧ vs[i]? = some x ∧ us[i]? = some y)
    (st : ∀ i H, Same G H → (vs.length ≤ i ∨ us.length ≤ i) → J.stop i H) : ItOk K G (zipD xs ys) J := by
  refine ⟨fun i H sm hi => ?_, fun i Gi H v H' d sm sm2 y e => ?_, fun H sm => st _ H sm ?_⟩
  · obtain ⟨x, y, e1, e2, _⟩ := zipD_get (List.getElem?_eq_getElem hi)
    obtain ⟨v, e3, _⟩ := r1.get e1
    obtain ⟨u, e4, _⟩ := r2.get e2
    exact go i H v u sm e3 e4
  · obtain ⟨T, x, z, rfl, n, rfl, e3, e4⟩ := yl i H v H' (sm.trans sm2) y
    obtain ⟨dx, dy, e1, e2, rfl⟩ := zipD_get e
    obtain ⟨v', e5, q1⟩ := r1.get e1
    obtain ⟨u', e6, q2⟩ := r2.get e2
    rw [e3] at e5
    cases e5
    rw [e4] at e6
    cases e6
    have g : Gr Gi H (upd Gi T (.tup [x, z])) (upd H T (.tup [x, z])) := Gr.laidG sm2 n
    exact ⟨_, g, T, [x, z], rfl, .of upd_same, .cons (Rep.mono (sm.trans g.g) _ _ q1) (.cons (Rep.mono (sm.trans g.g) _ _ q2) rfl)⟩
  · unfold zipD
    rw [List.length_zipWith, r1.length, r2.length]
    omega
theorem itOk_zipL {G : Hp} {xs ys : List D} {vs us : List V} {a b : Addr} (h1 : SqL K G a vs) (h2 : SqL K G b us) (r1 : Reps K G xs vs) (r2 : Reps K G ys us) : ItOk K G (zipD xs ys) (Itz K a b) :=
  itOk_zip r1 r2 (fun i H x y sm e1 e2 => ⟨vs, us, x, y, Same.seq sm h1, Same.seq sm h2, e1, e2⟩)
    (fun i H v H' sm ⟨T, x, y, q1, q2, q3, q4, q5⟩ => ⟨T, x, y, q1, q2, q3, q4 _ (Same.seq sm h1), q5 _ (Same.seq sm h2)⟩)
    (fun i H sm e => ⟨vs, us, Same.seq sm h1, Same.seq sm h2, e⟩)
theorem itOk_zipT {G : Hp} {xs ys : List D} {vs us : List V} {a b : Addr} (h1 : SqT K G a vs) (h2 : SqT K G b us) (r1 : Reps K G xs vs) (r2 : Reps K G ys us) : ItOk K G (zipD xs ys) (RZ.ItzT K a b) :=
  itOk_zip r1 r2 (fun i H x y sm e1 e2 => ⟨vs, us, x, y, Same.tup sm h1, Same.tup sm h2, e1, e2⟩)
    (fun i H v H' sm ⟨T, x, y, q1, q2, q3, q4, q5⟩ => ⟨T, x, y, q1, q2, q3, q4 _ (Same.tup sm h1), q5 _ (Same.tup sm h2)⟩)
    (fun i H sm e => ⟨vs, us, Same.tup sm h1, Same.tup sm h2, e⟩)
/-- a list, a tuple, a text, walked -/
def itemsD : D → Option (List D)
  | .lst xs => some xs
  | .klst xs => some xs
  | .tup xs => some xs
  | .str z => some (charsD z)
  | _ => none
def iSeq (K : PySem.W.Frag) (te : TE) : TI := fun σ H R => te σ H fun x H1 => (∃ a xs, x = .ref a ∧ SqL K H1 a xs ∧ R (Itl K a) H1) ∨ ((∃ a xs, x = .ref a ∧ SqT K H1 a xs ∧ R (Itt K a) H1) ∨ ∃ z, x = .str z ∧ R (Its z) H1)
theorem pi_seq {X : Cx} {tg e : Expr} {te : TE} (he : PE X e te) : PI X tg e (iSeq X.K te) := by
  refine ⟨fun pins s σ H R I h => ?_⟩
  refine thn (he.run pins s σ H _ I h) fun v s1 ⟨x, H1, I1, r1, q1⟩ => ?_
  rcases q1 with ⟨a, xs, rfl, hq, q⟩ | ⟨a, xs, rfl, hq, q⟩ | ⟨z, rfl, q⟩
  · cases r1
    obtain ⟨its, rv, p, hz⟩ := I1.list hq
    refine wpAny_pyIter_list p.isList ?_
    refine ⟨s1.heap.objs.size, [s1.heap.objs.size], _, _, H1, rfl, I1.kept (t' := s1.toks) fun b o e => Heap.get?_push_of_some _ e, turn_list a _, ⟨_, Heap.get?_push_size _ rfl, rfl, rfl⟩, fun b hb => ?_, q⟩
    have e : b = s1.heap.objs.size := by simpa using hb
    subst e
    exact I1.fpOk (Nat.le_refl _) (I1.hok.fresh (Nat.le_refl _))
  · cases r1
    obtain ⟨its, rv, p, hz⟩ := I1.tuple hq
    refine wpAny_pyIter_tuple (show s1.heap.IsTuple a its.toArray from p) ?_
    refine ⟨s1.heap.objs.size, [s1.heap.objs.size], _, _, H1, rfl, I1.kept (t' := s1.toks) fun b o e => Heap.get?_push_of_some _ e, turn_tuple a _, ⟨_, Heap.get?_push_size _ rfl, rfl, rfl⟩, fun b hb => ?_, q⟩
    have e : b = s1.heap.objs.size := by simpa using hb
    subst e
    exact I1.fpOk (Nat.le_refl _) (I1.hok.fresh (Nat.le_refl _))
  · obtain ⟨t, rfl⟩ := r1
    cases ha : z.cps.all (· < 128)
    · exact wpAny_pyIter_wide ha (pi_one (tk := s1.toks) I1 _ (turn_str _ z t "str_iterator" (.inr rfl)) ⟨_, Heap.get?_push_size _ rfl, rfl, rfl⟩ q)
    · exact wpAny_pyIter_ascii ha (pi_one (tk := s1.toks) I1 _ (turn_str _ z t "str_ascii_iterator" (.inl rfl)) ⟨_, Heap.get?_push_size _ rfl, rfl, rfl⟩ q)

theorem lift_seq {w : DE} {σ : L2.St} {H : Hp} {R : It → Hp → Prop} (h : liftI K (fun s N => w s fun r s1 => match itemsD (frz r) with
    | some items => N items s1
    | none => False) σ H R) : iSeq K (lift K w) σ H R := by
  obtain ⟨B, G, s, N, S, hw, k⟩ := h
  refine ⟨B, G, s, _, S, hw, fun r s1 G1 H1 v S1 sm1 r1 q1 => ?_⟩
  obtain ⟨G2, S2, sm2, rep⟩ := r1.freeze S1
  generalize frz r = d at q1 rep
  unfold itemsD at q1
  split at q1
  · rename_i items e
    split at e
    · cases e
      obtain ⟨a, vs, rfl, h2, h3⟩ := rep
      exact .inl ⟨a, vs, rfl, .of (S2.gH _ _ h2), k _ s1 G2 H1 _ S2 (sm1.trans sm2) (itOk_list (.of h2) h3) q1⟩
    · cases e
      obtain ⟨a, vs, rfl, h2, h3⟩ := rep
      exact .inl ⟨a, vs, rfl, Same.seq S2.gH h2, k _ s1 G2 H1 _ S2 (sm1.trans sm2) (itOk_list h2 h3) q1⟩
    · cases e
      obtain ⟨a, vs, rfl, h2, h3⟩ := rep
      exact .inr (.inl ⟨a, vs, rfl, Same.tup S2.gH h2, k _ s1 G2 H1 _ S2 (sm1.trans sm2) (itOk_tup h2 h3) q1⟩)
    · cases e
      rename_i z
      cases (show v = .str z from rep)
      exact .inr (.inr ⟨z, rfl, k _ s1 G2 H1 _ S2 (sm1.trans sm2) itOk_str q1⟩)
    · cases e
  · exact q1.elim
def wSeq' (w : DE) : DI := fun s N => w s fun r s1 => match itemsD (frz r) with
    | some items => N items s1
    | none => False
/-- range(n), range(a, b) -/
def wRng1 (wos : DA) : DI := fun s N => wos s fun os s1 => match resOs s1 os with
  | some [.int n] => (-(2 ^ 62) ≤ n ∧ n < 2 ^ 62) ∧ N (rangeD 0 n.toNat) s1
  | _ => False
def wRng2 (wos : DA) : DI := fun s N => wos s fun os s1 => match resOs s1 os with
  | some [.int a, .int b] => (-(2 ^ 62) ≤ a ∧ a < 2 ^ 62 ∧ -(2 ^ 62) ≤ b ∧ b < 2 ^ 62) ∧ N (rangeD a (b - a).toNat) s1
  | _ => False
theorem lift_rng1 {wos : DA} {σ : L2.St} {H : Hp} {R : It → Hp → Prop} (h : liftI K (wRng1 wos) σ H R) : iRng1 (liftA K wos) σ H R := by
  obtain ⟨B, G, s, N, S, hw, k⟩ := h
  refine ⟨B, G, s, _, S, hw, fun os s1 G1 H1 vs S1 sm1 o1 q1 => ?_⟩
  split at q1
  · rename_i n e
    obtain ⟨v, rfl, h2⟩ := tops1 (o1.tops S1 e)
    cases (show v = .int n from h2)
    exact ⟨n, rfl, q1.1.1, q1.1.2, k _ s1 G1 H1 _ S1 sm1 itOk_range q1.2⟩
  · exact q1.elim
theorem lift_rng2 {wos : DA} {σ : L2.St} {H : Hp} {R : It → Hp → Prop} (h : liftI K (wRng2 wos) σ H R) : iRng2 (liftA K wos) σ H R := by
  obtain ⟨B, G, s, N, S, hw, k⟩ := h
  refine ⟨B, G, s, _, S, hw, fun os s1 G1 H1 vs S1 sm1 o1 q1 => ?_⟩
  split at q1
  · rename_i a b e
    obtain ⟨v, u, rfl, h2, h3⟩ := tops2 (o1.tops S1 e)
    cases (show v = .int a from h2)
    cases (show u = .int b from h3)
    exact ⟨a, b, rfl, q1.1, k _ s1 G1 H1 _ S1 sm1 itOk_range q1.2⟩
  · exact q1.elim
/-- zip(a, b) -/
def wZip (w : DSt → (List D → DSt → Prop) → Prop) : DI := fun s N => w s fun ds s1 => match ds with
  | [.tup xs, .tup ys] => N (zipD xs ys) s1
  | [d, e] => (match lstOf d, lstOf e with
    | some xs, some ys => N (zipD xs ys) s1
    | _, _ => False)
  | _ => False
theorem lift_zip {w : DSt → (List D → DSt → Prop) → Prop} {σ : L2.St} {H : Hp} {R : It → Hp → Prop} (h : liftI K (wZip w) σ H R) : RZ.iZipA K (liftV K w) σ H R := by
  obtain ⟨B, G, s, N, S, hw, k⟩ := h
  refine ⟨B, G, s, _, S, hw, fun ds s1 G1 H1 vs S1 sm1 o1 q1 => ?_⟩
  split at q1
  · rename_i xs ys
    obtain ⟨v, r, rfl, ⟨a, v1, rfl, a2, a3⟩, u, r', rfl, ⟨b, v2, rfl, b2, b3⟩, hn⟩ := o1
    cases (show r' = [] from hn)
    exact ⟨a, b, v1, v2, rfl, .inr ⟨Same.tup S1.gH a2, Same.tup S1.gH b2, k _ s1 G1 H1 _ S1 sm1 (itOk_zipT a2 b2 a3 b3) q1⟩⟩
  · rename_i d e
    split at q1
    · rename_i xs ys e1 e2
      obtain ⟨v, r, rfl, h1, u, r', rfl, h2, hn⟩ := o1
      cases (show r' = [] from hn)
      obtain ⟨a, v1, rfl, a2, a3⟩ := lstOf_ok (.refl G1) e1 (Rep.top (.refl _) h1)
      obtain ⟨b, v2, rfl, b2, b3⟩ := lstOf_ok (.refl G1) e2 (Rep.top (.refl _) h2)
      exact ⟨a, b, v1, v2, rfl, .inl ⟨Same.seq S1.gH a2, Same.seq S1.gH b2, k _ s1 G1 H1 _ S1 sm1 (itOk_zipL a2 b2 a3 b3) q1⟩⟩
    · exact q1.elim
  · exact q1.elim
/-! ### targets -/
inductive Tg where
  | nm (i : Nat) | tp (ts : List Tg)
mutual
def bindTg : Tg → D → DSt → Option DSt
  | .nm i, d, s => some (s.set i (.sh d))
  | .tp ts, d, s => match d with
    | .tup ds => bindTgs ts ds s
    | _ => none
def bindTgs : List Tg → List D → DSt → Option DSt
  | [], ds, s => match ds with
    | [] => some s
    | _ :: _ => none
  | t :: ts, ds, s => match ds with
    | [] => none
    | d :: ds => match bindTg t d s with
      | some s1 => bindTgs ts ds s1
      | none => none
end
mutual
def slotsTg : Tg → List Nat
  | .nm i => [i]
  | .tp ts => slotsTgs ts
def slotsTgs : List Tg → List Nat
  | [] => []
  | t :: ts => slotsTg t ++ slotsTgs ts
end
mutual
def gT (K : PySem.W.Frag) : Tg → TG
  | .nm i => gName i
  | .tp ts => gTup K ts.length (gTs K ts)
def gTs (K : PySem.W.Frag) : List Tg → TGs
  | [] => gNil
  | t :: ts => gCons (gT K t) (gTs K ts)
end
theorem bindTgs_len : ∀ {ts : List Tg} {ds : List D} {s s1 : DSt}, bindTgs ts ds s = some s1 → ds.length = ts.length
  | [], ds, s, s1, e => by
    unfold bindTgs at e
    cases ds with
    | nil => rfl
    | cons d ds => cases e
  | t :: ts, ds, s, s1, e => by
    unfold bindTgs at e
    cases ds with
    | nil => cases e
    | cons d ds =>
      simp only at e
      cases q : bindTg t d s with
      | none => rw [q] at e; cases e
      | some s2 => rw [q] at e; exact congrArg Nat.succ (bindTgs_len e)
mutual
theorem bind_ok {B G H : Hp} : ∀ (t : Tg) (d : D) (s s1 : DSt) (σ : L2.St) (v : V) (Q : L2.St → Hp → Prop), bindTg t d s = some s1 → StRep K B G s σ H → Rep K G d v →
    (∀ σ1, StRep K B G s1 σ1 H → σ1.length = σ.length → (∀ j, j ∉ slotsTg t → σ1[j]? = σ[j]?) → Q σ1 H) → gT K t v σ H Q
  | .nm i, d, s, s1, σ, v, Q, e, S, r, k => by
    cases e
    refine k _ (S.set (r := .sh d) r i) (List.length_set ..) fun j hj => ?_
    have ne : i ≠ j := fun z => hj (by rw [← z]; simp [slotsTg])
    exact List.getElem?_set_ne ne
  | .tp ts, d, s, s1, σ, v, Q, e, S, r, k => by
    unfold bindTg at e
    cases d with
    | tup ds =>
      obtain ⟨a, vs, rfl, h2, h3⟩ := r
      exact ⟨a, vs, rfl, Same.tup S.gH h2, h3.length.trans (bindTgs_len e), binds_ok ts ds s s1 σ vs Q e S h3 k⟩
    | _ => cases e
theorem binds_ok {B G H : Hp} : ∀ (ts : List Tg) (ds : List D) (s s1 : DSt) (σ : L2.St) (vs : List V) (Q : L2.St → Hp → Prop), bindTgs ts ds s = some s1 → StRep K B G s σ H → Reps K G ds vs →
    (∀ σ1, StRep K B G s1 σ1 H → σ1.length = σ.length → (∀ j, j ∉ slotsTgs ts → σ1[j]? = σ[j]?) → Q σ1 H) → gTs K ts vs σ H Q
  | [], ds, s, s1, σ, vs, Q, e, S, r, k => by
    unfold bindTgs at e
    cases ds with
    | nil => cases e; cases (show vs = [] from r); exact ⟨rfl, k σ S rfl fun _ _ => rfl⟩
    | cons d ds => cases e
  | t :: ts, ds, s, s1, σ, vs, Q, e, S, r, k => by
    unfold bindTgs at e
    cases ds with
    | nil => cases e
    | cons d ds =>
      simp only at e
      obtain ⟨v, r', rfl, h2, h3⟩ := r
      cases q : bindTg t d s with
      | none => rw [q] at e; cases e
      | some s2 =>
        rw [q] at e
        refine ⟨v, r', rfl, bind_ok t d s s2 σ v _ q S h2 fun σ1 S1 l1 f1 => ?_⟩
        refine binds_ok ts ds s2 s1 σ1 r' Q e S1 h3 fun σ2 S2 l2 f2 => k σ2 S2 (l2.trans l1) fun j hj => ?_
        unfold slotsTgs at hj
        rw [List.mem_append, not_or] at hj
        exact (f2 j hj.2).trans (f1 j hj.1)
end
/-! ### comprehensions -/
def wipeS (s : DSt) : List Nat → DSt
  | [] => s
  | v :: vs => (wipeS s vs).set v .no
def restore (own : List Nat) (s1 s2 : DSt) : DSt := match own with
  | [] => s2
  | v :: vs => (restore vs s1 s2).set v (match s1[v]? with
    | some x => x
    | none => .no)
def noOw (s : DSt) (own : List Nat) : Bool := own.all fun i => match s[i]? with
  | some (.ow _) => false
  | _ => true
/-- the loop: items, what is made of each -/
def lcGo (tg : Tg) (own : List Nat) (tt : DT) (el : DE) : List D → DSt → (List D → DSt → Prop) → Prop
  | [], s, R => R [] s
  | d :: ds, s, R => match bindTg tg d s with
    | none => False
    | some s1 => tt s1 fun b s2 => if b = true then el s2 fun r s3 => lcGo tg own tt el ds (wipeS s3 own) fun rs s4 => R (frz r :: rs) s4
      else lcGo tg own tt el ds (wipeS s2 own) R
def wLc (it : DI) (tg : Tg) (own : List Nat) (tt : DT) (el : DE) : DE := fun s R => it s fun items s1 => (items.length ≤ sizeLine ∧ noOw s1 own = true) ∧
  lcGo tg own tt el items (wipeS s1 own) fun rs s2 => R (.ow (.lst rs)) (restore own s1 s2)
theorem wipeS_len (s : DSt) : ∀ vs, (wipeS s vs).length = s.length
  | [] => rfl
  | v :: vs => by unfold wipeS; rw [List.length_set, wipeS_len s vs]
theorem wipeS_get {s : DSt} {i : Nat} {x : Sl} : ∀ {vs : List Nat}, (wipeS s vs)[i]? = some x → x ≠ .no → s[i]? = some x ∧ i ∉ vs
  | [], h, _ => ⟨h, by simp⟩
  | v :: vs, h, n => by
    unfold wipeS at h
    by_cases hi : v = i
    · subst hi
      have hl := getElem?_lt h
      rw [List.length_set] at hl
      rw [List.getElem?_set_self hl] at h
      cases h
      exact absurd rfl n
    · rw [List.getElem?_set_ne hi] at h
      obtain ⟨h1, h2⟩ := wipeS_get h n
      exact ⟨h1, by simp only [List.mem_cons, not_or]; exact ⟨fun e => hi e.symm, h2⟩⟩
theorem StRep.wipe {B G H : Hp} {s : DSt} {σ : L2.St} (S : StRep K B G s σ H) (vs : List Nat) : StRep K B G (wipeS s vs) (L2.wipe σ vs) H := by
  refine ⟨S.bH, S.gH, S.dj, by rw [wipeS_len, wipe_length]; exact S.len, fun i d e => ?_, fun i d e => ?_, fun i j d e a h1 h2 h3 h4 => ?_⟩
  · obtain ⟨e1, ni⟩ := wipeS_get e (by intro q; cases q)
    obtain ⟨v, h1, h2⟩ := S.sh i d e1
    exact ⟨v, (wipe_out ni).trans h1, h2⟩
  · obtain ⟨e1, ni⟩ := wipeS_get e (by intro q; cases q)
    obtain ⟨a, o, h1, h2⟩ := S.ow i d e1
    exact ⟨a, o, (wipe_out ni).trans h1, h2⟩
  · obtain ⟨e1, ni⟩ := wipeS_get h1 (by intro q; cases q)
    obtain ⟨e2, nj⟩ := wipeS_get h2 (by intro q; cases q)
    rw [wipe_out ni] at h3
    rw [wipe_out nj] at h4
    exact S.ap i j d e a e1 e2 h3 h4
theorem wipe_eq {σ1 σ2 : L2.St} (l : σ1.length = σ2.length) : ∀ {vs : List Nat}, (∀ j, j ∉ vs → σ1[j]? = σ2[j]?) → wipe σ1 vs = wipe σ2 vs := fun {vs} h => by
  apply List.ext_getElem?
  intro j
  by_cases hj : j ∈ vs
  · have no : ∀ (σ : L2.St) (ws : List Nat), j ∈ ws → j < σ.length → (wipe σ ws)[j]? = some none := fun σ ws hm hl => by
      induction ws with
      | nil => cases hm
      | cons w ws ih =>
        unfold wipe
        by_cases e : w = j
        · subst e; rw [List.getElem?_set_self (by rw [wipe_length]; exact hl)]
        · rw [List.getElem?_set_ne e]
          rcases List.mem_cons.mp hm with q | q
          · exact absurd q.symm e
          · exact ih q
    by_cases hl : j < σ1.length
    · rw [no σ1 vs hj hl, no σ2 vs hj (by rw [← l]; exact hl)]
    · rw [List.getElem?_eq_none (by rw [wipe_length]; omega), List.getElem?_eq_none (by rw [wipe_length]; omega)]
  · rw [wipe_out hj, wipe_out hj, h j hj]
theorem wipe_wipe {σ : L2.St} {vs : List Nat} : wipe (wipe σ vs) vs = wipe σ vs := wipe_eq (wipe_length _ _) fun j hj => wipe_out hj
theorem restore_len (s1 s2 : DSt) : ∀ own, (restore own s1 s2).length = s2.length
  | [] => rfl
  | v :: vs => by unfold restore; rw [List.length_set, restore_len s1 s2 vs]
theorem restore_in {s1 s2 : DSt} {i : Nat} : ∀ {own : List Nat}, i ∈ own → i < s2.length → (restore own s1 s2)[i]? = some (match s1[i]? with
    | some x => x
    | none => .no)
  | v :: vs, h, l => by
    unfold restore
    by_cases e : v = i
    · subst e; rw [List.getElem?_set_self (by rw [restore_len]; exact l)]
    · rw [List.getElem?_set_ne e]
      rcases List.mem_cons.mp h with q | q
      · exact absurd q.symm e
      · exact restore_in q l
theorem restore_out {s1 s2 : DSt} {i : Nat} : ∀ {own : List Nat}, i ∉ own → (restore own s1 s2)[i]? = s2[i]?
  | [], _ => rfl
  | v :: vs, h => by
    unfold restore
    rw [List.mem_cons, not_or] at h
    rw [List.getElem?_set_ne (Ne.symm h.1)]
    exact restore_out h.2
/-- a guarded object is changed -/
theorem StRep.bupd {B G H : Hp} {s : DSt} {σ : L2.St} {a : Addr} {o o' : HO} (S : StRep K (upd B a o) G s σ H) : StRep K (upd B a o') G s σ (upd H a o') := by
  have ga : G a = none := S.dj a o upd_same
  have ba : ∀ {b : Addr}, (upd B a o) b = none → b ≠ a := fun {b} h z => by subst z; rw [upd_same] at h; cases h
  refine ⟨fun b u q => ?_, fun b u q => ?_, fun b u q => ?_, S.len, S.sh, fun i d e => ?_, S.ap⟩
  · by_cases hb : b = a
    · subst hb; rw [upd_same] at q ⊢; exact q
    · rw [upd_ne hb] at q ⊢; exact S.bH b u (by rw [upd_ne hb]; exact q)
  · rw [upd_ne (ne_of_none q ga)]; exact S.gH b u q
  · by_cases hb : b = a
    · subst hb; exact ga
    · rw [upd_ne hb] at q; exact S.dj b u (by rw [upd_ne hb]; exact q)
  · obtain ⟨p, u, h1, h2, h3, h4, h5, h6⟩ := S.ow i d e
    have ne : p ≠ a := ba h3
    refine ⟨p, u, h1, h2, by rw [upd_ne ne] at h3 ⊢; exact h3, by rw [upd_ne ne]; exact h4, ?_, h6⟩
    cases d with
    | lst xs => obtain ⟨b, vs, e1, e2, e3⟩ := h5; cases e1; exact ⟨p, vs, rfl, by rw [upd_ne ne]; exact e2, e3⟩
    | dic ks xs => obtain ⟨b, vs, e1, e2, e3⟩ := h5; cases e1; exact ⟨p, vs, rfl, by rw [upd_ne ne]; exact e2, e3⟩
    | ins C ns xs => obtain ⟨b, dx, vs, e1, e2, e3⟩ := h5; cases e1; exact ⟨p, dx, vs, rfl, by rw [upd_ne ne]; exact e2, e3⟩
    | _ => cases h6
theorem StRep.guard {B G H : Hp} {s : DSt} {σ : L2.St} {a : Addr} {o : HO} (S : StRep K B G s σ H) (n : H a = none) : StRep K (upd B a o) G s σ (upd H a o) := by
  have ga : G a = none := free_of S.gH n
  have S1 := S.grow (Gr.laid (o := o) S.gH n)
  refine ⟨fun b u q => ?_, S1.gH, fun b u q => ?_, S1.len, S1.sh, fun i d e => ?_, S1.ap⟩
  · by_cases hb : b = a
    · subst hb; rw [upd_same] at q ⊢; exact q
    · rw [upd_ne hb] at q ⊢; exact S.bH b u q
  · by_cases hb : b = a
    · subst hb; exact ga
    · rw [upd_ne hb] at q; exact S.dj b u q
  · obtain ⟨p, u, h1, h2, h3, h4, h5, h6⟩ := S1.ow i d e
    obtain ⟨p', u', y1, y2, y3, y4, y5, y6⟩ := S.ow i d e
    rw [y1] at h1
    cases h1
    have ne : p ≠ a := fun z => by subst z; rw [n] at y4; cases y4
    exact ⟨p, u, y1, h2, by rw [upd_ne ne]; exact h3, h4, h5, h6⟩
theorem StRep.unguard {B G H : Hp} {s : DSt} {σ : L2.St} {a : Addr} {o : HO} (S : StRep K (upd B a o) G s σ H) (n : B a = none) : StRep K B G s σ H := by
  have sm : Same B (upd B a o) := fun b u q => by rw [upd_ne (ne_of_none q n)]; exact q
  refine ⟨sm.trans S.bH, S.gH, fun b u q => S.dj b u (sm b u q), S.len, S.sh, fun i d e => ?_, S.ap⟩
  obtain ⟨p, u, h1, h2, h3, h4⟩ := S.ow i d e
  refine ⟨p, u, h1, h2, ?_, h4⟩
  cases q : B p with
  | none => rfl
  | some z => rw [sm p z q] at h3; cases h3
theorem StRep.restore {B G G1 H H1 : Hp} {s1 s : DSt} {σ : L2.St} {own : List Nat} (S1 : StRep K B G1 s1 σ H1) (sm : Same G1 G) (no : noOw s1 own = true) (S : StRep K B G s (L2.wipe σ own) H) : StRep K B G (DL.restore own s1 s) σ H := by
  have ls : s.length = σ.length := by rw [S.len, wipe_length]
  have inn : ∀ {i : Nat} {x : Sl}, i ∈ own → (DL.restore own s1 s)[i]? = some x → x ≠ .no → s1[i]? = some x := fun {i x} hi e n => by
    have hl : i < s.length := by have := getElem?_lt e; rw [restore_len] at this; exact this
    rw [restore_in hi hl] at e
    cases q : s1[i]? with
    | none => rw [q] at e; cases e; exact absurd rfl n
    | some y => rw [q] at e; exact e
  refine ⟨S.bH, S.gH, S.dj, by rw [restore_len]; exact ls, fun i d e => ?_, fun i d e => ?_, fun i j d e a h1 h2 h3 h4 => ?_⟩
  · by_cases hi : i ∈ own
    · obtain ⟨v, h1, h2⟩ := S1.sh i d (inn hi e (by intro q; cases q))
      exact ⟨v, h1, Rep.mono sm _ _ h2⟩
    · rw [restore_out hi] at e
      obtain ⟨v, h1, h2⟩ := S.sh i d e
      exact ⟨v, by rw [← wipe_out hi]; exact h1, h2⟩
  · by_cases hi : i ∈ own
    · have q := inn hi e (by intro q; cases q)
      have z := List.all_eq_true.mp no i hi
      rw [q] at z
      cases z
    · rw [restore_out hi] at e
      obtain ⟨p, u, h1, h2⟩ := S.ow i d e
      exact ⟨p, u, by rw [← wipe_out hi]; exact h1, h2⟩
  · have ni : ∀ {k : Nat} {x : D}, (DL.restore own s1 s)[k]? = some (.ow x) → k ∉ own := fun {k x} z hk => by
      have q := inn hk z (by intro q; cases q)
      have z := List.all_eq_true.mp no k hk
      rw [q] at z
      cases z
    have n1 := ni h1
    have n2 := ni h2
    rw [restore_out n1] at h1
    rw [restore_out n2] at h2
    rw [← wipe_out (vs := own) n1] at h3
    rw [← wipe_out (vs := own) n2] at h4
    exact S.ap i j d e a h1 h2 h3 h4
theorem lift_lc {it : DI} {tg : Tg} {own : List Nat} {tt : DT} {el : DE} (hs : ∀ j ∈ slotsTg tg, j ∈ own) {σ : L2.St} {H : Hp} {Q : VK} (h : lift K (wLc it tg own tt el) σ H Q) : tLc (liftI K it) (gT K tg) (liftT K tt) (lift K el) own σ H Q := by
  obtain ⟨B, G, s, R, S, hw, k⟩ := h
  refine ⟨B, G, s, _, S, hw, fun items s1 G1 H1 J S1 sm1 ok q1 => ?_⟩
  obtain ⟨⟨hlen, hno⟩, q1⟩ := q1
  intro Da hD
  have bD : B Da = none := free_of S1.bH hD
  have S1w : StRep K (upd B Da (.lst [])) G1 (wipeS s1 own) (wipe σ own) (upd H1 Da (.lst [])) := (S1.wipe own).guard hD
  refine ⟨fun i m H' => m = items.length - i ∧ i ≤ items.length ∧ ∃ (acc : List V) (ad : List D) (s' : DSt) (G' : Hp), StRep K (upd B Da (.lst acc)) G' s' (wipe σ own) H' ∧ Same G1 G' ∧ Reps K G' ad acc ∧ ad.length ≤ i ∧
    lcGo tg own tt el (items.drop i) s' (fun rs s4 => R (.ow (.lst (ad ++ rs))) (DL.restore own s1 s4)), ⟨items.length, by simp, Nat.zero_le _, [], [], _, G1, S1w, .refl _, rfl, Nat.le_refl _, q1⟩, ?_⟩
  rintro i m H' ⟨rfl, hi, acc, ad, s', G', S', sm', ra, hl, go⟩
  by_cases hlt : i < items.length
  · refine .inr ⟨ok.go i H' (sm'.trans S'.gH) hlt, fun H2 => ∃ (acc : List V) (ad : List D) (s' : DSt) (G' : Hp), StRep K (upd B Da (.lst acc)) G' s' (wipe σ own) H2 ∧ Same G1 G' ∧ Reps K G' ad acc ∧ ad.length ≤ i + 1 ∧
      lcGo tg own tt el (items.drop (i + 1)) s' (fun rs s4 => R (.ow (.lst (ad ++ rs))) (DL.restore own s1 s4)), fun H2 p => ⟨items.length - (i + 1), by omega, rfl, hlt, p⟩, fun x H2 y => ?_⟩
    rw [List.drop_eq_getElem_cons hlt] at go
    obtain ⟨G2, g2, rx⟩ := ok.yl i G' H' x H2 items[i] sm' S'.gH y (List.getElem?_eq_getElem hlt)
    have S2 := S'.grow g2
    unfold lcGo at go
    split at go
    · exact go.elim
    · rename_i s3 eb
      refine bind_ok tg _ s' s3 _ x _ eb S2 rx fun σ3 S3 l3 f3 => ?_
      have ew : wipe σ3 own = wipe σ own := (wipe_eq l3 fun j hj => f3 j fun z => hj (hs j z)).trans wipe_wipe
      refine ⟨by rw [ew], ?_⟩
      refine ⟨_, G2, s3, _, S3, go, fun b s4 G4 H4 S4 sm4 q4 => ?_⟩
      cases b with
      | false =>
        refine iteF ⟨acc, ad, wipeS s4 own, G4, ?_, (sm'.trans g2.g).trans sm4, Reps.mono (g2.g.trans sm4) _ _ ra, Nat.le_succ_of_le hl, ?_⟩
        · rw [← ew]; exact S4.wipe own
        · simpa using q4
      | true =>
        refine iteT ⟨_, G4, s4, _, S4, (by simpa using q4), fun r s5 G5 H5 v S5 sm5 r5 q5 => ?_⟩
        obtain ⟨G6, S6, sm6, rep⟩ := r5.freeze S5
        have sm16 : Same G' G6 := ((g2.g.trans sm4).trans sm5).trans sm6
        have rl : acc.length = ad.length := ra.length
        refine ⟨acc, S5.bH _ _ upd_same, by omega, acc ++ [v], ad ++ [frz r], wipeS s5 own, G6, ?_, sm'.trans sm16, (Reps.mono sm16 _ _ ra).append (.cons rep rfl), by rw [List.length_append]; exact Nat.succ_le_succ hl, ?_⟩
        · rw [← ew]; exact (S6.bupd (o' := .lst (acc ++ [v]))).wipe own
        · simpa using q5
  · have e : i = items.length := by omega
    subst e
    refine .inl ⟨ok.st H' (sm'.trans S'.gH), ?_⟩
    rw [List.drop_length] at go
    have Su := S'.unguard bD
    have Sr := S1.restore sm' hno Su
    refine k (.ow (.lst ad)) _ G' H' (.ref Da) Sr (sm1.trans sm') ⟨Da, _, rfl, ?_, bD, S'.bH _ _ upd_same, ⟨Da, acc, rfl, S'.bH _ _ upd_same, ra⟩, rfl, fun j d e => ?_⟩ (by simpa [lcGo] using go)
    · exact S'.dj Da _ upd_same
    · intro z
      by_cases hj : j ∈ own
      · have hl2 : j < s'.length := by have := getElem?_lt e; rw [restore_len] at this; exact this
        rw [restore_in hj hl2] at e
        have zz := List.all_eq_true.mp hno j hj
        cases q : s1[j]? with
        | none => rw [q] at e; cases e
        | some y => rw [q] at e; rw [q] at zz; cases e; cases zz
      · rw [restore_out hj] at e
        obtain ⟨p, u, h1, h2, h3, _⟩ := S'.ow j d e
        rw [wipe_out hj] at h1
        rw [z] at h1
        cases h1
        rw [upd_same] at h3
        cases h3
end
end DL

namespace DL
open PySem PySem.Spec PyProof.Rows L2
/-! ### statements -/
structure DEnds where
  nx : DSt → Prop
  rt : Sl → DSt → Prop
  bk : DSt → Prop
  ct : DSt → Prop
abbrev DS := DEnds → DSt → Prop
def Pn (pn : List (Nat × V)) (σ : L2.St) : Prop := ∀ p ∈ pn, σ[p.1]? = some (some p.2)
structure EndsOk (K : PySem.W.Frag) (B G : Hp) (pn : List (Nat × V)) (N : DEnds) (De : Ends) : Prop where
  nx : ∀ s' G' σ' H', StRep K B G' s' σ' H' → Same G G' → Pn pn σ' → N.nx s' → De.nx σ' H'
  bk : ∀ s' G' σ' H', StRep K B G' s' σ' H' → Same G G' → Pn pn σ' → N.bk s' → De.bk σ' H'
  ct : ∀ s' G' σ' H', StRep K B G' s' σ' H' → Same G G' → Pn pn σ' → N.ct s' → De.ct σ' H'
  rt : ∀ r s' G' σ' H' v, StRep K B G' s' σ' H' → Same G G' → Pn pn σ' → RRep K B G' H' s' σ' r v → N.rt r s' → De.rt v H'
theorem EndsOk.mono {K : PySem.W.Frag} {B G G' : Hp} {pn : List (Nat × V)} {N : DEnds} {De : Ends} (h : EndsOk K B G pn N De) (e : Same G G') : EndsOk K B G' pn N De :=
  ⟨fun s' G2 σ' H' S sm => h.nx s' G2 σ' H' S (e.trans sm), fun s' G2 σ' H' S sm => h.bk s' G2 σ' H' S (e.trans sm), fun s' G2 σ' H' S sm => h.ct s' G2 σ' H' S (e.trans sm), fun r s' G2 σ' H' v S sm => h.rt r s' G2 σ' H' v S (e.trans sm)⟩
/-- kp: the slots that are never stored to (borrowed parameters) -/
def liftS (K : PySem.W.Frag) (kp : List Nat) (w : DS) : TS := fun De σ H => ∃ B G s N pn, StRep K B G s σ H ∧ (∀ p ∈ pn, p.1 ∈ kp) ∧ Pn pn σ ∧ w N s ∧ EndsOk K B G pn N De
section
variable {K : PySem.W.Frag} {kp : List Nat} {De : Ends} {σ : L2.St} {H : Hp}
def wNext : DS := fun N s => N.nx s
def wSq (a b : DS) : DS := fun N s => a { N with nx := b N } s
theorem lift_next (h : liftS K kp wNext De σ H) : tNext De σ H := by
  obtain ⟨B, G, s, N, pn, S, hp, p, hw, e⟩ := h
  exact e.nx s G σ H S (.refl _) p hw
theorem lift_sq {a b : DS} (h : liftS K kp (wSq a b) De σ H) : tSeq (liftS K kp a) (liftS K kp b) De σ H := by
  obtain ⟨B, G, s, N, pn, S, hp, p, hw, e⟩ := h
  exact ⟨B, G, s, _, pn, S, hp, p, hw, fun s' G' σ' H' S' sm p' q => ⟨B, G', s', N, pn, S', hp, p', q, e.mono sm⟩, e.bk, e.ct, e.rt⟩
def wBrk : DS := fun N s => N.bk s
def wCnt : DS := fun N s => N.ct s
theorem lift_brk (h : liftS K kp wBrk De σ H) : tBreak De σ H := by
  obtain ⟨B, G, s, N, pn, S, hp, p, hw, e⟩ := h
  exact e.bk s G σ H S (.refl _) p hw
theorem lift_cnt (h : liftS K kp wCnt De σ H) : tCont De σ H := by
  obtain ⟨B, G, s, N, pn, S, hp, p, hw, e⟩ := h
  exact e.ct s G σ H S (.refl _) p hw
def wDrop (w : DE) : DS := fun N s => w s fun _ s' => N.nx s'
theorem lift_drop {w : DE} (h : liftS K kp (wDrop w) De σ H) : tDrop (lift K w) De σ H := by
  obtain ⟨B, G, s, N, pn, S, hp, p, hw, e⟩ := h
  exact ⟨B, G, s, _, S, hw, fun r s' G' H' v S' sm rr q => e.nx s' G' σ H' S' sm p q⟩
def wRet (w : DE) : DS := fun N s => w s N.rt
theorem lift_ret {w : DE} (h : liftS K kp (wRet w) De σ H) : tRet (lift K w) De σ H := by
  obtain ⟨B, G, s, N, pn, S, hp, p, hw, e⟩ := h
  exact ⟨B, G, s, _, S, hw, fun r s' G' H' v S' sm rr q => e.rt r s' G' σ H' v S' sm p rr q⟩
def wRetN : DS := fun N s => N.rt (.sh .non) s
theorem lift_retN (h : liftS K kp wRetN De σ H) : tRetN De σ H := by
  obtain ⟨B, G, s, N, pn, S, hp, p, hw, e⟩ := h
  exact e.rt (.sh .non) s G σ H .non S (.refl _) p rfl hw
/-- a name's object is handed out -/
theorem StRep.move {B G : Hp} {s : DSt} (S : StRep K B G s σ H) {i : Nat} {d : D} (h : s[i]? = some (.ow d)) : ∃ v, σ[i]? = some (some v) ∧ StRep K B G (s.set i .no) σ H ∧ RRep K B G H (s.set i .no) σ (.ow d) v := by
  obtain ⟨a, o, h1, h2, h3, h4, h5, h6⟩ := S.ow i d h
  refine ⟨_, h1, S.clear i, a, o, rfl, h2, h3, h4, h5, h6, fun j e q z => ?_⟩
  by_cases hj : i = j
  · subst hj
    rw [List.getElem?_set_self (getElem?_lt h)] at q
    cases q
  · rw [List.getElem?_set_ne hj] at q
    exact hj (S.ap i j d e a h q h1 z)
def wRetV (kp : List Nat) (i : Nat) : DS := fun N s => match s[i]? with
  | some (.sh d) => N.rt (.sh d) s
  | some (.ow d) => if i ∈ kp then N.rt (.sh d) (s.set i (.sh d)) else N.rt (.ow d) (s.set i .no)
  | _ => False
theorem lift_retV {i : Nat} (h : liftS K kp (wRetV kp i) De σ H) : tRet (tVar i) De σ H := by
  obtain ⟨B, G, s, N, pn, S, hp, p, hw, e⟩ := h
  unfold wRetV at hw
  split at hw
  · rename_i d q
    obtain ⟨v, h1, h2⟩ := S.sh i d q
    exact ⟨v, h1, e.rt (.sh d) s G σ H v S (.refl _) p h2 hw⟩
  · rename_i d q
    split at hw
    · obtain ⟨G', v, S', sm, h1, h2⟩ := S.frzSlot q
      exact ⟨v, h1, e.rt (.sh d) _ G' σ H v S' sm p h2 hw⟩
    · obtain ⟨v, h1, S', r⟩ := S.move q
      exact ⟨v, h1, e.rt (.ow d) _ G σ H v S' (.refl _) p r hw⟩
  · exact hw.elim
def wIf (t : DT) (a b : DS) : DS := fun N s => t s fun c s' => if c = true then a N s' else b N s'
theorem lift_if {t : DT} {a b : DS} (h : liftS K kp (wIf t a b) De σ H) : tIfS (liftT K t) (liftS K kp a) (liftS K kp b) De σ H := by
  obtain ⟨B, G, s, N, pn, S, hp, p, hw, e⟩ := h
  refine ⟨B, G, s, _, S, hw, fun c s1 G1 H1 S1 sm1 q1 => ?_⟩
  cases c with
  | true => exact iteT ⟨B, G1, s1, N, pn, S1, hp, p, q1, e.mono sm1⟩
  | false => exact iteF ⟨B, G1, s1, N, pn, S1, hp, p, q1, e.mono sm1⟩
theorem Pn.keep {pn : List (Nat × V)} {σ σ1 : L2.St} (p : Pn pn σ) (h : ∀ q ∈ pn, σ1[q.1]? = σ[q.1]?) : Pn pn σ1 := fun q hq => (h q hq).trans (p q hq)
/-- name = value -/
def wSet (i : Nat) (w : DE) : DS := fun N s => w s fun r s' => N.nx (s'.set i r)
theorem lift_set {i : Nat} {w : DE} (hi : i ∉ kp) (h : liftS K kp (wSet i w) De σ H) : tAsg (lift K w) (gName i) De σ H := by
  obtain ⟨B, G, s, N, pn, S, hp, p, hw, e⟩ := h
  refine ⟨B, G, s, _, S, hw, fun r s' G' H' v S' sm rr q => ?_⟩
  refine e.nx _ G' _ H' (S'.set rr i) sm (p.keep fun z hz => ?_) q
  have ne : i ≠ z.1 := fun y => hi (by rw [y]; exact hp z hz)
  exact List.getElem?_set_ne ne
/-- names = value -/
def wUnp (tg : Tg) (w : DE) : DS := fun N s => w s fun r s' => match bindTg tg (frz r) s' with
  | some s2 => N.nx s2
  | none => False
theorem lift_unp {tg : Tg} {w : DE} (hi : ∀ j ∈ slotsTg tg, j ∉ kp) (h : liftS K kp (wUnp tg w) De σ H) : tAsg (lift K w) (gT K tg) De σ H := by
  obtain ⟨B, G, s, N, pn, S, hp, p, hw, e⟩ := h
  refine ⟨B, G, s, _, S, hw, fun r s' G' H' v S' sm rr q => ?_⟩
  obtain ⟨G2, S2, sm2, rep⟩ := rr.freeze S'
  split at q
  · rename_i s2 eb
    exact bind_ok tg _ s' s2 σ v _ eb S2 rep fun σ1 S3 l f => e.nx s2 G2 σ1 H' S3 (sm.trans sm2) (p.keep fun z hz => f _ fun y => hi _ y (hp z hz)) q
  · exact q.elim
/-- an owned result is guarded -/
theorem RRep.guard {B G : Hp} {s : DSt} {d : D} {v : V} (S : StRep K B G s σ H) (h : RRep K B G H s σ (.ow d) v) : ∃ p o, v = .ref p ∧ H p = some o ∧ B p = none ∧ StRep K (upd B p o) G s σ H ∧
    ∀ {G2 H2 : Hp} {s2 : DSt}, StRep K (upd B p o) G2 s2 σ H2 → Same G G2 → StRep K B G2 s2 σ H2 ∧ RRep K B G2 H2 s2 σ (.ow d) (.ref p) := by
  obtain ⟨p, o, rfl, h2, h3, h4, h5, h6, h7⟩ := h
  refine ⟨p, o, rfl, h4, h3, ⟨fun b u q => ?_, S.gH, fun b u q => ?_, S.len, S.sh, fun i e q => ?_, S.ap⟩, fun {G2 H2 s2} S2 sm => ⟨S2.unguard h3, p, o, rfl, S2.dj p o upd_same, h3, S2.bH p o upd_same, ?_, h6, fun i e q z => ?_⟩⟩
  · by_cases hb : b = p
    · subst hb; rw [upd_same] at q; cases q; exact h4
    · rw [upd_ne hb] at q; exact S.bH b u q
  · by_cases hb : b = p
    · subst hb; exact h2
    · rw [upd_ne hb] at q; exact S.dj b u q
  · obtain ⟨a, u, y1, y2, y3, y4, y5, y6⟩ := S.ow i e q
    have ne : a ≠ p := fun z => by subst z; exact h7 i e q y1
    exact ⟨a, u, y1, y2, by rw [upd_ne ne]; exact y3, y4, y5, y6⟩
  · have hp := S2.bH p o upd_same
    cases d with
    | lst xs => obtain ⟨b, vs, e1, e2, e3⟩ := h5; cases e1; rw [h4] at e2; cases e2; exact ⟨p, vs, rfl, hp, Reps.mono sm _ _ e3⟩
    | dic ks xs => obtain ⟨b, vs, e1, e2, e4, e3⟩ := h5; cases e1; rw [h4] at e2; cases e2; exact ⟨p, vs, rfl, hp, e4, Reps.mono sm _ _ e3⟩
    | ins C ns xs => obtain ⟨b, dx, vs, e1, e2, e4, e3⟩ := h5; cases e1; rw [h4] at e2; cases e2; exact ⟨p, dx, vs, rfl, hp, e4, Reps.mono sm _ _ e3⟩
    | _ => cases h6
  · obtain ⟨a, u, y1, y2, y3, _⟩ := S2.ow i e q
    rw [z] at y1
    cases y1
    rw [upd_same] at y3
    cases y3
/-- a, b = x, y -/
def wPar (i j : Nat) (a b : DE) : DS := fun N s => a s fun r1 s1 => b s1 fun r2 s2 => N.nx ((s2.set i r1).set j r2)
theorem lift_par {i j : Nat} {a b : DE} (hi : i ∉ kp) (hj : j ∉ kp) (h : liftS K kp (wPar i j a b) De σ H) : tPar i j (tCons (lift K a) (tCons (lift K b) tNil)) De σ H := by
  obtain ⟨B, G, s, N, pn, S, hp, p, hw, e⟩ := h
  have pk : ∀ x y, Pn pn ((σ.set i x).set j y) := fun x y => p.keep fun z hz => by
    have ne : i ≠ z.1 := fun q => hi (by rw [q]; exact hp z hz)
    have ne2 : j ≠ z.1 := fun q => hj (by rw [q]; exact hp z hz)
    rw [List.getElem?_set_ne ne2, List.getElem?_set_ne ne]
  have two : ∀ {G2 H2 : Hp} {s2 : DSt} {r1 r2 : Sl} {v u : V}, StRep K B G2 s2 σ H2 → RRep K B G2 H2 s2 σ r1 v → RRep K B G2 H2 s2 σ r2 u → (∀ d e, r1 = .ow d → r2 = .ow e → v ≠ u) → StRep K B G2 ((s2.set i r1).set j r2) ((σ.set i (some v)).set j (some u)) H2 := by
    intro G2 H2 s2 r1 r2 v u S2 q1 q2 q3
    refine (S2.set q1 i).set (v := u) ?_ j
    cases r2 with
    | no => exact q2
    | sh d => exact q2
    | ow d =>
      obtain ⟨p', o, rfl, y2, y3, y4, y5, y6, y7⟩ := q2
      refine ⟨p', o, rfl, y2, y3, y4, y5, y6, fun k e q z => ?_⟩
      by_cases hk : i = k
      · subst hk
        have hl := getElem?_lt q
        rw [List.length_set] at hl
        rw [List.getElem?_set_self hl] at q
        rw [List.getElem?_set_self (by rw [← S2.len]; exact hl)] at z
        cases q
        cases z
        exact q3 e d rfl rfl rfl
      · rw [List.getElem?_set_ne hk] at q z
        exact y7 k e q z
  refine ⟨B, G, s, _, S, hw, fun r1 s1 G1 H1 v S1 sm1 rr q1 => ?_⟩
  cases r1 with
  | no => exact rr.elim
  | sh d =>
    refine ⟨B, G1, s1, _, S1, q1, fun r2 s2 G2 H2 u S2 sm2 rr2 q2 => ⟨v, u, rfl, ?_⟩⟩
    exact e.nx _ G2 _ H2 (two S2 (r1 := .sh d) (Rep.mono sm2 _ _ rr) rr2 (fun _ _ z => by cases z)) (sm1.trans sm2) (pk _ _) q2
  | ow d =>
    obtain ⟨p', o, rfl, hpo, hbp, Sg, back⟩ := rr.guard S1
    refine ⟨upd B p' o, G1, s1, _, Sg, q1, fun r2 s2 G2 H2 u S2 sm2 rr2 q2 => ⟨_, u, rfl, ?_⟩⟩
    obtain ⟨S2', rr1⟩ := back S2 sm2
    have rr2' : RRep K B G2 H2 s2 σ r2 u ∧ ∀ e, r2 = .ow e → V.ref p' ≠ u := by
      cases r2 with
      | no => exact rr2.elim
      | sh d => exact ⟨rr2, fun _ z => by cases z⟩
      | ow d2 =>
        obtain ⟨p2, o2, rfl, y2, y3, y4, y5, y6, y7⟩ := rr2
        have ne : p2 ≠ p' := fun z => by subst z; rw [upd_same] at y3; cases y3
        exact ⟨⟨p2, o2, rfl, y2, by rw [upd_ne ne] at y3; exact y3, y4, y5, y6, y7⟩, fun _ _ z => by cases z; exact ne rfl⟩
    exact e.nx _ G2 _ H2 (two S2' rr1 rr2'.1 fun d' e' _ z => rr2'.2 e' z) (sm1.trans sm2) (pk _ _) q2
/-- for -/
def forGo (tg : Tg) (body : DS) (N : DEnds) : List D → DSt → Prop
  | [], s => N.nx s
  | d :: ds, s => match bindTg tg d s with
    | none => False
    | some s1 => body { nx := forGo tg body N ds, rt := N.rt, bk := N.nx, ct := forGo tg body N ds } s1
def wFor (it : DI) (tg : Tg) (body : DS) : DS := fun N s => it s fun items s1 => forGo tg body N items s1
theorem lift_for {it : DI} {tg : Tg} {body : DS} (hi : ∀ j ∈ slotsTg tg, j ∉ kp) (h : liftS K kp (wFor it tg body) De σ H) : tFor (liftI K it) (gT K tg) (liftS K kp body) De σ H := by
  obtain ⟨B, G, s, N, pn, S, hp, p, hw, e⟩ := h
  refine ⟨B, G, s, _, S, hw, fun items s1 G1 H1 J S1 sm1 ok q1 => ?_⟩
  refine ⟨fun i m σ' H' => m = items.length - i ∧ i ≤ items.length ∧ ∃ s' G', StRep K B G' s' σ' H' ∧ Same G1 G' ∧ Pn pn σ' ∧ forGo tg body N (items.drop i) s', ⟨items.length, by simp, Nat.zero_le _, s1, G1, S1, .refl _, p, q1⟩, ?_⟩
  rintro i m σ' H' ⟨rfl, hil, s', G', S', sm', p', go⟩
  by_cases hlt : i < items.length
  · refine .inr ⟨ok.go i H' (sm'.trans S'.gH) hlt, fun σ2 H2 => ∃ s' G', StRep K B G' s' σ2 H2 ∧ Same G1 G' ∧ Pn pn σ2 ∧ forGo tg body N (items.drop (i + 1)) s', fun σ2 H2 q => ⟨items.length - (i + 1), by omega, rfl, hlt, q⟩, fun x H2 y => ?_⟩
    rw [List.drop_eq_getElem_cons hlt] at go
    obtain ⟨G2, g2, rx⟩ := ok.yl i G' H' x H2 items[i] sm' S'.gH y (List.getElem?_eq_getElem hlt)
    have S2 := S'.grow g2
    unfold forGo at go
    split at go
    · exact go.elim
    · rename_i s3 eb
      refine bind_ok tg _ s' s3 σ' x _ eb S2 rx fun σ3 S3 l3 f3 => ?_
      have p3 : Pn pn σ3 := p'.keep fun z hz => f3 _ fun y => hi _ y (hp z hz)
      have sm3 : Same G1 G2 := sm'.trans g2.g
      exact ⟨B, G2, s3, _, pn, S3, hp, p3, go, fun s4 G4 σ4 H4 S4 sm4 p4 q4 => ⟨s4, G4, S4, sm3.trans sm4, p4, q4⟩, fun s4 G4 σ4 H4 S4 sm4 p4 q4 => e.nx s4 G4 σ4 H4 S4 ((sm1.trans sm3).trans sm4) p4 q4,
        fun s4 G4 σ4 H4 S4 sm4 p4 q4 => ⟨s4, G4, S4, sm3.trans sm4, p4, q4⟩, fun r s4 G4 σ4 H4 v S4 sm4 p4 rr q4 => e.rt r s4 G4 σ4 H4 v S4 ((sm1.trans sm3).trans sm4) p4 rr q4⟩
  · have ei : i = items.length := by omega
    subst ei
    rw [List.drop_length] at go
    exact .inl ⟨ok.st H' (sm'.trans S'.gH), e.nx s' G' σ' H' S' (sm1.trans sm') p' go⟩
/-- while, by a bound of its turns -/
def whGo (t : DT) (body : DS) (N : DEnds) : Nat → DSt → Prop
  | 0, _ => False
  | n + 1, s => t s fun b s1 => if b = true then body { nx := whGo t body N n, rt := N.rt, bk := N.nx, ct := whGo t body N n } s1 else N.nx s1
def wWhile (t : DT) (body : DS) : DS := fun N s => ∃ n, whGo t body N n s
theorem lift_while {t : DT} {body : DS} (h : liftS K kp (wWhile t body) De σ H) : tWhile (liftT K t) (liftS K kp body) De σ H := by
  obtain ⟨B, G, s, N, pn, S, hp, p, ⟨n, hw⟩, e⟩ := h
  refine ⟨fun m σ' H' => ∃ s' G', StRep K B G' s' σ' H' ∧ Same G G' ∧ Pn pn σ' ∧ whGo t body N m s', ⟨n, s, G, S, .refl _, p, hw⟩, ?_⟩
  rintro m σ' H' ⟨s', G', S', sm', p', go⟩
  cases m with
  | zero => exact go.elim
  | succ m =>
    refine ⟨B, G', s', _, S', go, fun b s1 G1 H1 S1 sm1 q1 => ?_⟩
    cases b with
    | false => exact iteF (e.nx s1 G1 σ' H1 S1 (sm'.trans sm1) p' q1)
    | true =>
      refine iteT ⟨fun σ2 H2 => ∃ s' G', StRep K B G' s' σ2 H2 ∧ Same G G' ∧ Pn pn σ2 ∧ whGo t body N m s', fun σ2 H2 q => ⟨m, Nat.lt_succ_self m, q⟩, ?_⟩
      exact ⟨B, G1, s1, _, pn, S1, hp, p', q1, fun s4 G4 σ4 H4 S4 sm4 p4 q4 => ⟨s4, G4, S4, (sm'.trans sm1).trans sm4, p4, q4⟩, fun s4 G4 σ4 H4 S4 sm4 p4 q4 => e.nx s4 G4 σ4 H4 S4 ((sm'.trans sm1).trans sm4) p4 q4,
        fun s4 G4 σ4 H4 S4 sm4 p4 q4 => ⟨s4, G4, S4, (sm'.trans sm1).trans sm4, p4, q4⟩, fun r s4 G4 σ4 H4 v S4 sm4 p4 rr q4 => e.rt r s4 G4 σ4 H4 v S4 ((sm'.trans sm1).trans sm4) p4 rr q4⟩
/-! ### changes of an owned object -/
/-- the owned object at slot i gets another content -/
theorem StRep.chg {B G : Hp} {s : DSt} (S : StRep K B G s σ H) {i : Nat} {d d' : D} {a : Addr} {o' : HO} (h : s[i]? = some (.ow d)) (ha : σ[i]? = some (some (.ref a))) (w : ownable d' = true) (t : ∀ H' : Hp, H' a = some o' → Top K G H' d' (.ref a)) : StRep K B G (s.set i (.ow d')) σ (upd H a o') := by
  obtain ⟨p, o, h1, h2, h3, h4, h5, h6⟩ := S.ow i d h
  rw [ha] at h1
  cases h1
  have hi := getElem?_lt h
  refine ⟨fun b u q => ?_, fun b u q => ?_, S.dj, by rw [List.length_set]; exact S.len, fun j e q => ?_, fun j e q => ?_, fun j k e f b q1 q2 q3 q4 => ?_⟩
  · rw [upd_ne (ne_of_none q h3)]; exact S.bH b u q
  · rw [upd_ne (ne_of_none q h2)]; exact S.gH b u q
  · by_cases hj : i = j
    · subst hj; rw [List.getElem?_set_self hi] at q; cases q
    · rw [List.getElem?_set_ne hj] at q; exact S.sh j e q
  · by_cases hj : i = j
    · subst hj
      rw [List.getElem?_set_self hi] at q
      cases q
      exact ⟨a, o', ha, h2, h3, upd_same, t _ upd_same, w⟩
    · rw [List.getElem?_set_ne hj] at q
      obtain ⟨b, u, y1, y2, y3, y4, y5, y6⟩ := S.ow j e q
      have ne : b ≠ a := fun z => by subst z; exact hj (S.ap i j d e _ h q ha y1)
      refine ⟨b, u, y1, y2, y3, by rw [upd_ne ne]; exact y4, ?_, y6⟩
      cases e with
      | lst xs => obtain ⟨c, vs, e1, e2, e3⟩ := y5; cases e1; exact ⟨b, vs, rfl, by rw [upd_ne ne]; exact e2, e3⟩
      | dic ks xs => obtain ⟨c, vs, e1, e2, e3⟩ := y5; cases e1; exact ⟨b, vs, rfl, by rw [upd_ne ne]; exact e2, e3⟩
      | ins C ns xs => obtain ⟨c, dx, vs, e1, e2, e3⟩ := y5; cases e1; exact ⟨b, dx, vs, rfl, by rw [upd_ne ne]; exact e2, e3⟩
      | _ => cases y6
  · have fw : ∀ {l : Nat} {x : D}, (s.set i (.ow d'))[l]? = some (.ow x) → ∃ y, s[l]? = some (.ow y) := fun {l x} z => by
      by_cases hl : i = l
      · subst hl; exact ⟨d, h⟩
      · rw [List.getElem?_set_ne hl] at z; exact ⟨x, z⟩
    obtain ⟨y1, z1⟩ := fw q1
    obtain ⟨y2, z2⟩ := fw q2
    exact S.ap j k y1 y2 b z1 z2 q3 q4
/-- x[i] = e of a list -/
def wSti (i : Nat) (ix : DO) (e : DE) : DS := fun N s => e s fun r s1 => (content s1 i).isSome = true ∧ ix s1 fun o s2 => match resO s2 o, s2[i]? with
  | some (.int k), some (.ow (.lst xs)) => (match ixN xs.length k with
    | some j => N.nx (s2.set i (.ow (.lst (xs.set j (frz r)))))
    | none => False)
  | _, _ => False
theorem lift_sti {i : Nat} {ix : DO} {w : DE} (h : liftS K kp (wSti i ix w) De σ H) : tAsg (lift K w) (gSub (tVar i) (liftO K ix) rSetL) De σ H := by
  obtain ⟨B, G, s, N, pn, S, hp, p, hw, e⟩ := h
  refine ⟨B, G, s, _, S, hw, fun r s1 G1 H1 v S1 sm1 rr q1 => ?_⟩
  obtain ⟨G2, S2, sm2, rep⟩ := rr.freeze S1
  show ∃ u, σ[i]? = some (some u) ∧ liftO K ix σ H1 _
  obtain ⟨hc, q1⟩ := q1
  have hsl : ∃ u, σ[i]? = some (some u) := by
    cases q : content s1 i with
    | none => rw [q] at hc; cases hc
    | some d => obtain ⟨u, h1, _⟩ := S1.look q; exact ⟨u, h1⟩
  obtain ⟨u, hu⟩ := hsl
  refine ⟨u, hu, B, G2, s1, _, S2, q1, fun o s2 G3 H3 y S3 sm3 ro q2 => ?_⟩
  split at q2
  · rename_i k xs e1 e2
    split at q2
    · rename_i j ej
      cases (show y = .int k from ro.top S3 e1)
      obtain ⟨a, o', h1, h2, h3, h4, ⟨b, vs, e3, h5, h6⟩, _⟩ := S3.ow i _ e2
      rw [hu] at h1
      cases h1
      cases e3
      refine ⟨a, vs, k, j, rfl, rfl, h5, by rw [h6.length]; exact ej, ?_⟩
      refine e.nx _ G3 σ _ (S3.chg (d' := .lst (xs.set j (frz r))) e2 hu rfl fun H' hH => ⟨a, _, rfl, hH, h6.set (Rep.mono sm3 _ _ rep) j⟩) ((sm1.trans sm2).trans sm3) p q2
    · exact q2.elim
  · exact q2.elim
end
end DL

namespace DL
open PySem PySem.Spec PyProof.Rows L2
section
variable {K : PySem.W.Frag}
/-! ### methods that change their object -/
abbrev MU := D → List D → (Sl → D → Prop) → Prop
def MuOk (K : PySem.W.Frag) (r : V → List V → Hp → VK → Prop) (f : MU) : Prop := ∀ (G H : Hp) (d : D) (a : Addr) (ds : List D) (vs : List V) (R : Sl → D → Prop) (Q : VK), Same G H → Top K G H d (.ref a) → Reps K G ds vs → f d ds R →
  (∀ res d' v o', Rep K G res v → (∀ H' : Hp, H' a = some o' → Top K G H' d' (.ref a)) → ownable d' = true → R (.sh res) d' → Q v (upd H a o')) → r (.ref a) vs H Q
def isLst : D → Bool
  | .lst _ => true
  | _ => false
def wMut (i : Nat) (f : MU) (wv : DSt → (List D → DSt → Prop) → Prop) : DE := fun s R => match s[i]? with
  | some (.ow (.lst _)) => wv s fun ds s1 => (match s1[i]? with
    | some (.ow d) => f d ds fun r d' => R r (s1.set i (.ow d'))
    | _ => False)
  | _ => False
theorem lift_mut {i : Nat} {r : V → List V → Hp → VK → Prop} {f : MU} (ok : MuOk K r f) {wv : DSt → (List D → DSt → Prop) → Prop} {σ : L2.St} {H : Hp} {Q : VK} (h : lift K (wMut i f wv) σ H Q) : tBM K "list" r (tVar i) (liftV K wv) σ H Q := by
  obtain ⟨B, G, s, R, S, hw, k⟩ := h
  unfold wMut at hw
  split at hw
  · rename_i xs e
    obtain ⟨a, o, h1, h2, h3, h4, ⟨a', vs, e1, h5, h6⟩, _⟩ := S.ow i _ e
    cases e1
    refine ⟨_, h1, .inl ⟨rfl, vs, .of h5⟩, B, G, s, _, S, hw, fun ds s1 G1 H1 us S1 sm1 r1 q1 => ?_⟩
    split at q1
    · rename_i d e2
      obtain ⟨a2, o2, y1, y2, y3, y4, y5, y6⟩ := S1.ow i _ e2
      rw [h1] at y1
      cases y1
      exact ok G1 H1 d a ds us _ _ S1.gH y5 r1 q1 fun res d' v o' rr t w q => k (.sh res) _ G1 _ v (S1.chg e2 h1 w t) sm1 rr q
    · exact q1.elim
  · exact hw.elim
def mAppend : MU
  | .lst xs, [d], R => xs.length < sizeLine ∧ R (.sh .non) (.lst (xs ++ [d]))
  | _, _, _ => False
theorem mAppend_ok : MuOk K rAppend mAppend := by
  intro G H d a ds vs R Q sm t r h k
  unfold mAppend at h
  split at h
  · rename_i xs d
    obtain ⟨b, ws, e, h2, h3⟩ := t
    cases e
    obtain ⟨v, r', rfl, q1, q2⟩ := r
    cases (show r' = [] from q2)
    exact ⟨a, ws, v, rfl, rfl, h2, by rw [h3.length]; exact h.1, k .non (.lst (xs ++ [d])) .non _ rfl (fun H' e => ⟨a, _, rfl, e, h3.append (.cons q1 rfl)⟩) rfl h.2⟩
  · exact h.elim
def mPop : MU
  | .lst xs, [], R => (match xs[xs.length - 1]? with
    | some d => R (.sh d) (.lst xs.dropLast)
    | none => False)
  | _, _, _ => False
theorem mPop_ok : MuOk K rPop mPop := by
  intro G H d a ds vs R Q sm t r h k
  unfold mPop at h
  split at h
  · rename_i xs
    obtain ⟨b, ws, e, h2, h3⟩ := t
    cases e
    cases (show vs = [] from r)
    split at h
    · rename_i d e1
      obtain ⟨v, e2, q⟩ := h3.get e1
      rw [← h3.length] at e2
      exact ⟨a, ws, v, rfl, rfl, h2, e2, k d (.lst xs.dropLast) v _ q (fun H' e => ⟨a, _, rfl, e, h3.dropLast⟩) rfl h⟩
    · exact h.elim
  · exact h.elim
def mPopAt : MU
  | .lst xs, [.int i], R => (-(2 ^ 63) ≤ i ∧ i < 2 ^ 63) ∧ (match ixN xs.length i with
    | some j => (match xs[j]? with
      | some d => R (.sh d) (.lst (xs.eraseIdx j))
      | none => False)
    | none => False)
  | _, _, _ => False
theorem mPopAt_ok : MuOk K rPopAt mPopAt := by
  intro G H d a ds vs R Q sm t r h k
  unfold mPopAt at h
  split at h
  · rename_i xs i
    obtain ⟨b, ws, e, h2, h3⟩ := t
    cases e
    obtain ⟨v0, r', rfl, q1, q2⟩ := r
    cases (show r' = [] from q2)
    cases (show v0 = .int i from q1)
    obtain ⟨⟨b1, b2⟩, h⟩ := h
    split at h
    · rename_i j ej
      split at h
      · rename_i d e1
        obtain ⟨v, e2, q⟩ := h3.get e1
        obtain ⟨z1, _⟩ := ixN_seq ej
        exact ⟨a, ws, i, j, v, rfl, rfl, h2, b1, b2, by rw [h3.length]; exact z1, e2, k d (.lst (xs.eraseIdx j)) v _ q (fun H' e => ⟨a, _, rfl, e, h3.eraseIdx j⟩) rfl h⟩
      · exact h.elim
    · exact h.elim
  · exact h.elim
def rInsert : V → List V → Hp → VK → Prop := fun x vs H Q => ∃ (l : Addr) (xs : List V) (i : Int) (y : V), x = .ref l ∧ vs = [.int i, y] ∧ H l = some (.lst xs) ∧ xs.length < sizeLine ∧ 0 ≤ i ∧ i < 2 ^ 63 ∧
    Q .non (upd H l (.lst (xs.take i.toNat ++ [y] ++ xs.drop i.toNat)))
def mInsert : MU
  | .lst xs, [.int i, d], R => (xs.length < sizeLine ∧ 0 ≤ i ∧ i < 2 ^ 63) ∧ R (.sh .non) (.lst (xs.take i.toNat ++ [d] ++ xs.drop i.toNat))
  | _, _, _ => False
theorem mInsert_ok : MuOk K rInsert mInsert := by
  intro G H d a ds vs R Q sm t r h k
  unfold mInsert at h
  split at h
  · rename_i xs i d
    obtain ⟨b, ws, e, h2, h3⟩ := t
    cases e
    obtain ⟨v0, r', rfl, q1, v, r2, rfl, q2, q3⟩ := r
    cases (show r2 = [] from q3)
    cases (show v0 = .int i from q1)
    exact ⟨a, ws, i, v, rfl, rfl, h2, by rw [h3.length]; exact h.1.1, h.1.2.1, h.1.2.2, k .non (.lst (xs.take i.toNat ++ [d] ++ xs.drop i.toNat)) .non _ rfl (fun H' e => ⟨a, _, rfl, e, ((h3.take _).append (Reps.cons q2 Reps.nil)).append (h3.drop _)⟩) rfl h.2⟩
  · exact h.elim
/-! ### fields of an instance -/
def fldD (f : Str) : List Str → List D → Option D
  | n :: ns, d :: ds => if f = n then some d else fldD f ns ds
  | _, _ => none
theorem fld_ok {G : Hp} {f : Str} : ∀ {ns : List Str} {ds : List D} {fs : List (Str × V)} {d : D}, fs.map (·.1) = ns → Reps K G ds (fs.map (·.2)) → fldD f ns ds = some d → ∃ v, fs.lookup f = some v ∧ Rep K G d v
  | [], ds, fs, d, e, r, h => by unfold fldD at h; cases h
  | n :: ns, [], fs, d, e, r, h => by unfold fldD at h; cases h
  | n :: ns, x :: ds, fs, d, e, r, h => by
    cases fs with
    | nil => cases e
    | cons q fs =>
      obtain ⟨m, v⟩ := q
      obtain ⟨v', r', e1, r1, r2⟩ := r
      cases e1
      have e1 : m = n := (List.cons.inj e).1
      have e2 : fs.map (·.1) = ns := (List.cons.inj e).2
      subst e1
      unfold fldD at h
      by_cases c : f = m
      · subst c
        rw [if_pos rfl] at h
        cases h
        refine ⟨v, ?_, r1⟩
        rw [List.lookup_cons]
        simp
      · rw [if_neg c] at h
        obtain ⟨u, u1, u2⟩ := fld_ok e2 r2 h
        refine ⟨u, ?_, u2⟩
        rw [List.lookup_cons, beq_eq_false_iff_ne.mpr c]
        exact u1
/-- o.f: at: the classes and attributes that are plain -/
def attrD (at_ : Str → Str → Bool) (f : Str) : B1 := fun d R => match d with
  | .ins C ns vs => at_ C f = true ∧ (match fldD f ns vs with
    | some d => R (.sh d)
    | none => False)
  | _ => False
def AttrOk (K : PySem.W.Frag) (at_ : Str → Str → Bool) : Prop := ∀ C f, at_ C f = true → Cls K (He.ga K C) ∧ NoAttr K (He.ga K C) f
theorem attrD_ok {at_ : Str → Str → Bool} (ha : AttrOk K at_) (f : Str) : UnOk K (fun x H Q => ∃ a C dx fs v, x = .ref a ∧ H a = some (.ins C dx fs) ∧ Cls K C ∧ NoAttr K C f ∧ fs.lookup f = some v ∧ Q v H) (attrD at_ f) := by
  intro G H d x R Q sm tx h k
  unfold attrD at h
  split at h
  · rename_i C ns vs
    obtain ⟨h1, h⟩ := h
    split at h
    · rename_i d e
      obtain ⟨a, dx, fs, rfl, h2, h3, h4⟩ := tx
      obtain ⟨v, e1, e2⟩ := fld_ok h3 h4 e
      obtain ⟨c1, c2⟩ := ha C f h1
      exact ⟨a, _, dx, fs, v, rfl, h2, c1, c2, e1, ret_sh sm k e2 h⟩
    · exact h.elim
  · exact h.elim
/-- o.f = e, o an owned instance at a slot -/
def putD (f : Str) (v : D) : List Str → List D → List Str × List D
  | n :: ns, d :: ds => if n = f then (n :: ns, v :: ds) else ((n :: (putD f v ns ds).1), (d :: (putD f v ns ds).2))
  | ns, ds => (ns ++ [f], ds ++ [v])
theorem put_ok {G : Hp} {f : Str} {x : D} {u : V} (hx : Rep K G x u) : ∀ {fs : List (Str × V)} {ns : List Str} {ds : List D}, fs.map (·.1) = ns → Reps K G ds (fs.map (·.2)) → (putF f u fs).map (·.1) = (putD f x ns ds).1 ∧ Reps K G (putD f x ns ds).2 ((putF f u fs).map (·.2))
  | [], ns, ds, e, r => by
    cases e
    cases ds with
    | nil => exact ⟨rfl, .cons hx rfl⟩
    | cons d ds => obtain ⟨v, r', e, _⟩ := r; cases e
  | (m, w) :: fs, ns, ds, e, r => by
    cases ns with
    | nil => cases e
    | cons n ns =>
      have e1 : m = n := (List.cons.inj e).1
      have e2 : fs.map (·.1) = ns := (List.cons.inj e).2
      subst e1
      cases ds with
      | nil => have := r.length; simp at this
      | cons d ds =>
        obtain ⟨v', r', q, r1, r2⟩ := r
        cases q
        unfold putF putD
        by_cases c : m = f
        · rw [if_pos c, if_pos c]
          exact ⟨e, .cons hx r2⟩
        · rw [if_neg c, if_neg c]
          obtain ⟨y1, y2⟩ := put_ok hx e2 r2
          exact ⟨congrArg (m :: ·) y1, .cons r1 y2⟩
def wStf (at_ : Str → Str → Bool) (i : Nat) (f : Str) (w : DE) : DS := fun N s => w s fun r s1 => match s1[i]? with
  | some (.ow (.ins C ns vs)) => (at_ C f = true ∧ ns.length < 1000) ∧ N.nx (s1.set i (.ow (.ins C (putD f (frz r) ns vs).1 (putD f (frz r) ns vs).2)))
  | _ => False
theorem lift_stf {at_ : Str → Str → Bool} (ha : AttrOk K at_) {kp : List Nat} {De : Ends} {σ : L2.St} {H : Hp} {i : Nat} {f : Str} {w : DE} (h : liftS K kp (wStf at_ i f w) De σ H) : sFld K (tVar i) (lift K w) f De σ H := by
  obtain ⟨B, G, s, N, pn, S, hp, p, hw, e⟩ := h
  refine ⟨B, G, s, _, S, hw, fun r s1 G1 H1 v S1 sm1 rr q1 => ?_⟩
  obtain ⟨G2, S2, sm2, rep⟩ := rr.freeze S1
  split at q1
  · rename_i C ns vs e2
    obtain ⟨a, o, h1, h2, h3, h4, ⟨a', dx, fs, e3, h5, h6, h7⟩, _⟩ := S2.ow i _ e2
    cases e3
    obtain ⟨c1, c2⟩ := ha C f q1.1.1
    refine ⟨_, h1, a, _, dx, fs, rfl, h5, c1, c2, ?_, ?_⟩
    · have : fs.length = ns.length := by rw [← h6, List.length_map]
      rw [this]; exact q1.1.2
    · refine e.nx _ G2 σ _ (S2.chg (d' := .ins C (putD f (frz r) ns vs).1 (putD f (frz r) ns vs).2) e2 h1 rfl fun H' hH => ?_) (sm1.trans sm2) p q1.2
      obtain ⟨y1, y2⟩ := put_ok (f := f) rep h6 h7
      exact ⟨a, dx, _, rfl, hH, y1, y2⟩
  · exact q1.elim
/-! ### functions -/
abbrev FS := List Sl → (Sl → List Sl → Prop) → Prop
/-- a promise over data as the layer's promise -/
def spOf (K : PySem.W.Frag) (F : FS) : Sp := fun vs H Q _ => ∃ B G args R, StRep K B G args (vs.map some) H ∧ F args R ∧ ∀ r args' G' H' v, StRep K B G' args' (vs.map some) H' → Same G G' → RRep K B G' H' args' (vs.map some) r v → R r args' → Q v H'
/-- an argument: a datum, or a slot whose owned object is lent -/
inductive Av where
  | val (d : D) | bor (i : Nat)
def ARep (K : PySem.W.Frag) (G : Hp) (σ : L2.St) : Av → V → Prop
  | .val d, v => Rep K G d v
  | .bor i, v => σ[i]? = some (some v)
def AReps (K : PySem.W.Frag) (G : Hp) (σ : L2.St) : List Av → List V → Prop
  | [], vs => vs = []
  | o :: os, vs => ∃ v r, vs = v :: r ∧ ARep K G σ o v ∧ AReps K G σ os r
theorem ARep.mono {G G' : Hp} {σ : L2.St} (e : Same G G') {o : Av} {v : V} (h : ARep K G σ o v) : ARep K G' σ o v := by
  cases o with
  | val d => exact Rep.mono e _ _ h
  | bor i => exact h
theorem AReps.mono {G G' : Hp} {σ : L2.St} (e : Same G G') : ∀ {os : List Av} {vs : List V}, AReps K G σ os vs → AReps K G' σ os vs
  | [], vs, h => h
  | o :: os, vs, h => by obtain ⟨v, r, h1, h2, h3⟩ := h; exact ⟨v, r, h1, h2.mono e, AReps.mono e h3⟩
theorem AReps.length {G : Hp} {σ : L2.St} : ∀ {os : List Av} {vs : List V}, AReps K G σ os vs → vs.length = os.length
  | [], vs, h => by cases (show vs = [] from h); rfl
  | o :: os, vs, h => by obtain ⟨v, r, rfl, h2, h3⟩ := h; exact congrArg Nat.succ (AReps.length h3)
theorem AReps.get {G : Hp} {σ : L2.St} : ∀ {os : List Av} {vs : List V} {j : Nat} {o : Av}, AReps K G σ os vs → os[j]? = some o → ∃ v, vs[j]? = some v ∧ ARep K G σ o v
  | [], vs, j, o, h, e => by simp at e
  | o :: os, vs, 0, x, h, e => by
    obtain ⟨v, r, rfl, h2, h3⟩ := h
    simp at e
    subst e
    exact ⟨v, rfl, h2⟩
  | o :: os, vs, j + 1, x, h, e => by
    obtain ⟨v, r, rfl, h2, h3⟩ := h
    obtain ⟨u, y1, y2⟩ := AReps.get (j := j) (o := x) h3 (by simpa using e)
    exact ⟨u, by simpa using y1, y2⟩
def resA (s : DSt) : Av → Sl
  | .val d => .sh d
  | .bor i => match s[i]? with
    | some x => x
    | none => .no
def bors : List Av → List Nat
  | [] => []
  | .val _ :: as => bors as
  | .bor i :: as => i :: bors as
def wback : List Av → List Sl → DSt → DSt
  | .bor i :: as, a :: args, s => (wback as args s).set i a
  | .val _ :: as, _ :: args, s => wback as args s
  | _, _, s => s
theorem wback_len (s : DSt) : ∀ (as : List Av) (args : List Sl), (wback as args s).length = s.length
  | [], _ => by unfold wback; rfl
  | .bor i :: as, [] => by unfold wback; rfl
  | .val d :: as, [] => by unfold wback; rfl
  | .bor i :: as, a :: args => by unfold wback; rw [List.length_set, wback_len s as args]
  | .val d :: as, a :: args => by unfold wback; exact wback_len s as args
theorem wback_out {s : DSt} {i : Nat} : ∀ {as : List Av} {args : List Sl}, i ∉ bors as → (wback as args s)[i]? = s[i]?
  | [], _, _ => by unfold wback; rfl
  | .bor j :: as, [], _ => by unfold wback; rfl
  | .val d :: as, [], _ => by unfold wback; rfl
  | .bor j :: as, a :: args, h => by
    unfold wback
    unfold bors at h
    rw [List.mem_cons, not_or] at h
    rw [List.getElem?_set_ne (Ne.symm h.1)]
    exact wback_out h.2
  | .val d :: as, a :: args, h => by
    unfold wback
    exact wback_out (as := as) h
theorem bors_mem {as : List Av} {i : Nat} : i ∈ bors as ↔ ∃ j : Nat, as[j]? = some (Av.bor i) := by
  induction as with
  | nil => simp [bors]
  | cons a as ih =>
    constructor
    · intro h
      cases a with
      | val d =>
        obtain ⟨j, e⟩ := ih.mp h
        exact ⟨j + 1, by simpa using e⟩
      | bor k =>
        rcases List.mem_cons.mp (show i ∈ k :: bors as from h) with q | q
        · exact ⟨0, by rw [q]; rfl⟩
        · obtain ⟨j, e⟩ := ih.mp q
          exact ⟨j + 1, by simpa using e⟩
    · rintro ⟨j, e⟩
      cases j with
      | zero => cases a with
        | val d => cases e
        | bor k => cases e; exact List.mem_cons_self
      | succ j =>
        have q := ih.mpr ⟨j, by simpa using e⟩
        cases a with
        | val d => exact q
        | bor k => exact List.mem_cons_of_mem _ q
theorem bors_inj {as : List Av} (nd : (bors as).Nodup) : ∀ {j k : Nat} {i : Nat}, as[j]? = some (.bor i) → as[k]? = some (.bor i) → j = k := by
  induction as with
  | nil => intro j k i e; simp at e
  | cons a as ih =>
    intro j k i e1 e2
    cases a with
    | val d =>
      cases j with
      | zero => cases e1
      | succ j => cases k with
        | zero => cases e2
        | succ k => exact congrArg Nat.succ (ih nd (by simpa using e1) (by simpa using e2))
    | bor m =>
      have nd2 := List.nodup_cons.mp (show (m :: bors as).Nodup from nd)
      cases j with
      | zero =>
        cases e1
        cases k with
        | zero => rfl
        | succ k => exact absurd (bors_mem.mpr ⟨k, by simpa using e2⟩) nd2.1
      | succ j => cases k with
        | zero =>
          cases e2
          exact absurd (bors_mem.mpr ⟨j, by simpa using e1⟩) nd2.1
        | succ k => exact congrArg Nat.succ (ih nd2.2 (by simpa using e1) (by simpa using e2))
theorem wback_in {s : DSt} : ∀ {as : List Av} {args : List Sl} {j i : Nat}, (bors as).Nodup → as[j]? = some (.bor i) → args.length = as.length → i < s.length → (wback as args s)[i]? = args[j]?
  | [], args, j, i, _, e, _, _ => by simp at e
  | a :: as, [], j, i, _, e, l, _ => by simp at l
  | .val d :: as, b :: args, j, i, nd, e, l, hi => by
    cases j with
    | zero => cases e
    | succ j =>
      unfold wback
      rw [wback_in (as := as) (j := j) nd (by simpa using e) (by simpa using l) hi]
      simp
  | .bor m :: as, b :: args, j, i, nd, e, l, hi => by
    have nd2 := List.nodup_cons.mp (show (m :: bors as).Nodup from nd)
    unfold wback
    cases j with
    | zero =>
      cases e
      rw [List.getElem?_set_self (by rw [wback_len]; exact hi)]
      rfl
    | succ j =>
      have ne : m ≠ i := fun z => by subst z; exact nd2.1 (bors_mem.mpr ⟨j, by simpa using e⟩)
      rw [List.getElem?_set_ne ne, wback_in (as := as) (j := j) nd2.2 (by simpa using e) (by simpa using l) hi]
      simp
/-- what the callee must leave alone -/
noncomputable def restOf (B : Hp) (s : DSt) (σ : L2.St) (bs : List Nat) (H : Hp) : Hp := fun a => match B a with
  | some o => some o
  | none => @ite _ (∃ (i : Nat) (d : D), s[i]? = some (.ow d) ∧ σ[i]? = some (some (.ref a)) ∧ i ∉ bs) (Classical.propDecidable _) (H a) none
theorem restOf_B {B H : Hp} {s : DSt} {σ : L2.St} {bs : List Nat} {a : Addr} {o : HO} (e : B a = some o) : restOf B s σ bs H a = some o := by
  unfold restOf; rw [e]
theorem restOf_ow {B H : Hp} {s : DSt} {σ : L2.St} {bs : List Nat} {a : Addr} {i : Nat} {d : D} (n : B a = none) (h1 : s[i]? = some (.ow d)) (h2 : σ[i]? = some (some (.ref a))) (h3 : i ∉ bs) : restOf B s σ bs H a = H a := by
  unfold restOf
  rw [n]
  exact if_pos ⟨i, d, h1, h2, h3⟩
theorem restOf_none {B H : Hp} {s : DSt} {σ : L2.St} {bs : List Nat} {a : Addr} (h : restOf B s σ bs H a = none) : B a = none := by
  cases q : B a with
  | none => rfl
  | some o => rw [restOf_B q] at h; cases h
theorem restOf_cases {B H : Hp} {s : DSt} {σ : L2.St} {bs : List Nat} {a : Addr} {o : HO} (h : restOf B s σ bs H a = some o) : B a = some o ∨ (∃ (i : Nat) (d : D), s[i]? = some (.ow d) ∧ σ[i]? = some (some (.ref a)) ∧ i ∉ bs) ∧ H a = some o := by
  unfold restOf at h
  cases q : B a with
  | some o' => rw [q] at h; exact .inl h
  | none =>
    rw [q] at h
    have h' : @ite _ (∃ (i : Nat) (d : D), s[i]? = some (.ow d) ∧ σ[i]? = some (some (.ref a)) ∧ i ∉ bs) (Classical.propDecidable _) (H a) none = some o := h
    by_cases c : ∃ (i : Nat) (d : D), s[i]? = some (.ow d) ∧ σ[i]? = some (some (.ref a)) ∧ i ∉ bs
    · refine .inr ⟨c, ?_⟩
      rw [if_pos c] at h'
      exact h'
    · rw [if_neg c] at h'
      cases h'
/-- a call by its promise over data -/
theorem call_sp {B G H : Hp} {s : DSt} {σ : L2.St} {as : List Av} {vs : List V} {F : FS} {R : Sl → List Sl → Prop} {Q : VK} {E : XK} (S : StRep K B G s σ H) (ra : AReps K G σ as vs) (nd : (bors as).Nodup) (hF : F (as.map (resA s)) R)
    (k : ∀ r args' G' H' v, StRep K B G' (wback as args' s) σ H' → Same G G' → RRep K B G' H' (wback as args' s) σ r v → R r args' → Q v H') : spOf K F vs H Q E := by
  have hv : ∀ {j : Nat} {v : V}, vs[j]? = some v → (vs.map some)[j]? = some (some v) := fun {j v} e => by rw [List.getElem?_map, e]; rfl
  have hv' : ∀ {j : Nat} {v : V}, (vs.map some)[j]? = some (some v) → vs[j]? = some v := fun {j v} e => by
    rw [List.getElem?_map] at e
    cases q : vs[j]? with
    | none => rw [q] at e; cases e
    | some u => rw [q] at e; cases e; rfl
  have ar : ∀ {j : Nat} {x : Sl}, (as.map (resA s))[j]? = some x → ∃ a, as[j]? = some a ∧ resA s a = x := fun {j x} e => by
    rw [List.getElem?_map] at e
    cases q : as[j]? with
    | none => rw [q] at e; cases e
    | some a => rw [q] at e; cases e; exact ⟨a, rfl, rfl⟩
  have ow_of : ∀ {a : Av} {d : D}, resA s a = .ow d → ∃ i, a = .bor i ∧ s[i]? = some (.ow d) := fun {a d} e => by
    cases a with
    | val x => cases e
    | bor i =>
      refine ⟨i, rfl, ?_⟩
      have e' : (match s[i]? with
        | some x => x
        | none => Sl.no) = .ow d := e
      cases q : s[i]? with
      | none => rw [q] at e'; cases e'
      | some x => rw [q] at e'; exact congrArg some e'
  have S0 : StRep K (restOf B s σ (bors as) H) G (as.map (resA s)) (vs.map some) H := by
    refine ⟨fun b u q => ?_, S.gH, fun b u q => ?_, by rw [List.length_map, List.length_map]; exact ra.length.symm, fun j d e => ?_, fun j d e => ?_, fun j k d e a h1 h2 h3 h4 => ?_⟩
    · rcases restOf_cases q with h | ⟨_, h⟩
      · exact S.bH _ _ h
      · exact h
    · rcases restOf_cases q with h | ⟨⟨i, d, h1, h2, h3⟩, h⟩
      · exact S.dj _ _ h
      · obtain ⟨p, o, y1, y2, _⟩ := S.ow i d h1
        rw [h2] at y1
        cases y1
        exact y2
    · obtain ⟨a, e1, e2⟩ := ar e
      obtain ⟨v, e3, rv⟩ := ra.get e1
      refine ⟨v, hv e3, ?_⟩
      cases a with
      | val x => cases e2; exact rv
      | bor i =>
        have e' : (match s[i]? with
          | some x => x
          | none => Sl.no) = .sh d := e2
        cases q : s[i]? with
        | none => rw [q] at e'; cases e'
        | some x =>
          rw [q] at e'
          have e3 : x = .sh d := e'
          subst e3
          obtain ⟨u, y1, y2⟩ := S.sh i d q
          rw [show σ[i]? = some (some v) from rv] at y1
          cases y1
          exact y2
    · obtain ⟨a, e1, e2⟩ := ar e
      obtain ⟨v, e3, rv⟩ := ra.get e1
      obtain ⟨i, rfl, q⟩ := ow_of e2
      obtain ⟨p, o, y1, y2, y3, y4, y5, y6⟩ := S.ow i d q
      rw [show σ[i]? = some (some v) from rv] at y1
      cases y1
      refine ⟨p, o, hv e3, y2, ?_, y4, y5, y6⟩
      cases z : restOf B s σ (bors as) H p with
      | none => rfl
      | some u =>
        rcases restOf_cases z with h | ⟨⟨i', d', h1, h2, h3⟩, _⟩
        · rw [y3] at h; cases h
        · have ei := S.ap i i' d d' p q h1 rv h2
          subst ei
          exact absurd (bors_mem.mpr ⟨j, e1⟩) h3
    · obtain ⟨a1, e1, e2⟩ := ar h1
      obtain ⟨a2, e3, e4⟩ := ar h2
      obtain ⟨v1, e5, rv1⟩ := ra.get e1
      obtain ⟨v2, e6, rv2⟩ := ra.get e3
      obtain ⟨i1, rfl, q1⟩ := ow_of e2
      obtain ⟨i2, rfl, q2⟩ := ow_of e4
      rw [hv e5] at h3
      rw [hv e6] at h4
      cases h3
      cases h4
      have ei := S.ap i1 i2 d e a q1 q2 rv1 rv2
      subst ei
      exact bors_inj nd e1 e3
  refine ⟨restOf B s σ (bors as) H, G, as.map (resA s), R, S0, hF, fun r args' G' H' v S' sm rr q => ?_⟩
  have la : args'.length = as.length := by rw [S'.len, List.length_map]; exact ra.length
  have inb : ∀ {i : Nat} {x : Sl}, i ∈ bors as → (wback as args' s)[i]? = some x → ∃ (j : Nat) (v : V), as[j]? = some (Av.bor i) ∧ args'[j]? = some x ∧ σ[i]? = some (some v) ∧ (vs.map some)[j]? = some (some v) := fun {i x} hi e => by
    obtain ⟨j, ej⟩ := bors_mem.mp hi
    have hl : i < s.length := by have := getElem?_lt e; rw [wback_len] at this; exact this
    rw [wback_in nd ej la hl] at e
    obtain ⟨v, e3, rv⟩ := ra.get ej
    exact ⟨j, v, ej, e, rv, hv e3⟩
  have outb : ∀ {i : Nat} {d : D}, i ∉ bors as → (wback as args' s)[i]? = some (.ow d) → s[i]? = some (.ow d) ∧ ∃ a o, σ[i]? = some (some (.ref a)) ∧ G a = none ∧ B a = none ∧ H a = some o ∧ Top K G H d (.ref a) ∧ ownable d = true ∧ restOf B s σ (bors as) H a = some o := fun {i d} hi e => by
    rw [wback_out hi] at e
    obtain ⟨a, o, y1, y2, y3, y4, y5, y6⟩ := S.ow i d e
    exact ⟨e, a, o, y1, y2, y3, y4, y5, y6, by rw [restOf_ow y3 e y1 hi]; exact y4⟩
  have SS : StRep K B G' (wback as args' s) σ H' := by
    refine ⟨fun b u z => S'.bH _ _ (restOf_B z), S'.gH, fun b u z => S'.dj _ _ (restOf_B z), by rw [wback_len]; exact S.len, fun i d e => ?_, fun i d e => ?_, fun i i' d e a h1 h2 h3 h4 => ?_⟩
    · by_cases hi : i ∈ bors as
      · obtain ⟨j, v, e1, e2, e3, e4⟩ := inb hi e
        obtain ⟨u, y1, y2⟩ := S'.sh j d e2
        rw [e4] at y1
        cases y1
        exact ⟨v, e3, y2⟩
      · rw [wback_out hi] at e
        obtain ⟨v, y1, y2⟩ := S.sh i d e
        exact ⟨v, y1, Rep.mono sm _ _ y2⟩
    · by_cases hi : i ∈ bors as
      · obtain ⟨j, v, e1, e2, e3, e4⟩ := inb hi e
        obtain ⟨a, o, y1, y2, y3, y4, y5, y6⟩ := S'.ow j d e2
        rw [e4] at y1
        cases y1
        exact ⟨a, o, e3, y2, restOf_none y3, y4, y5, y6⟩
      · obtain ⟨e1, a, o, y1, y2, y3, y4, y5, y6, y7⟩ := outb hi e
        have hA := S'.bH _ _ y7
        refine ⟨a, o, y1, S'.dj _ _ y7, y3, hA, ?_, y6⟩
        cases d with
        | lst xs => obtain ⟨b, ws, z1, z2, z3⟩ := y5; cases z1; rw [y4] at z2; cases z2; exact ⟨a, ws, rfl, hA, Reps.mono sm _ _ z3⟩
        | dic ks xs => obtain ⟨b, ws, z1, z2, z4, z3⟩ := y5; cases z1; rw [y4] at z2; cases z2; exact ⟨a, ws, rfl, hA, z4, Reps.mono sm _ _ z3⟩
        | ins C ns xs => obtain ⟨b, dx, ws, z1, z2, z4, z3⟩ := y5; cases z1; rw [y4] at z2; cases z2; exact ⟨a, dx, ws, rfl, hA, z4, Reps.mono sm _ _ z3⟩
        | _ => cases y6
    · by_cases hi : i ∈ bors as
      · obtain ⟨j, v, e1, e2, e3, e4⟩ := inb hi h1
        rw [h3] at e3
        cases e3
        by_cases hi' : i' ∈ bors as
        · obtain ⟨j', v', f1, f2, f3, f4⟩ := inb hi' h2
          rw [h4] at f3
          cases f3
          have ej := S'.ap j j' d e a e2 f2 e4 f4
          subst ej
          rw [e1] at f1
          cases f1
          rfl
        · obtain ⟨_, a', o, y1, _, _, _, _, _, y7⟩ := outb hi' h2
          rw [h4] at y1
          cases y1
          obtain ⟨p, o2, z1, z2, z3, _⟩ := S'.ow j d e2
          rw [e4] at z1
          cases z1
          rw [y7] at z3
          cases z3
      · by_cases hi' : i' ∈ bors as
        · obtain ⟨j', v', f1, f2, f3, f4⟩ := inb hi' h2
          rw [h4] at f3
          cases f3
          obtain ⟨_, a', o, y1, _, _, _, _, _, y7⟩ := outb hi h1
          rw [h3] at y1
          cases y1
          obtain ⟨p, o2, z1, z2, z3, _⟩ := S'.ow j' e f2
          rw [f4] at z1
          cases z1
          rw [y7] at z3
          cases z3
        · obtain ⟨y1, _⟩ := outb hi h1
          obtain ⟨y2, _⟩ := outb hi' h2
          exact S.ap i i' d e a y1 y2 h3 h4
  refine k r args' G' H' v SS sm ?_ q
  cases r with
  | no => exact rr
  | sh d => exact rr
  | ow d =>
    obtain ⟨p, o, rfl, y2, y3, y4, y5, y6, y7⟩ := rr
    refine ⟨p, o, rfl, y2, restOf_none y3, y4, y5, y6, fun i e h z => ?_⟩
    by_cases hi : i ∈ bors as
    · obtain ⟨j, v, e1, e2, e3, e4⟩ := inb hi h
      rw [z] at e3
      cases e3
      exact y7 j e e2 e4
    · obtain ⟨_, a', o', z1, _, _, _, _, _, z7⟩ := outb hi h
      rw [z] at z1
      cases z1
      rw [y3] at z7
      cases z7
/-! ### the call as an expression -/
abbrev DAv := DSt → (List Av → DSt → Prop) → Prop
def liftAv (K : PySem.W.Frag) (w : DAv) : TA := fun σ H Q => ∃ B G s R, StRep K B G s σ H ∧ w s R ∧ ∀ os s' G' H' vs, StRep K B G' s' σ H' → Same G G' → AReps K G' σ os vs → R os s' → Q vs H'
def wAvNil : DAv := fun s R => R [] s
def wAvVal (a : DE) (b : DAv) : DAv := fun s R => a s fun r s1 => b s1 fun os s2 => R (.val (frz r) :: os) s2
def wAvBor (i : Nat) (b : DAv) : DAv := fun s R => (content s i).isSome = true ∧ b s fun os s2 => R (.bor i :: os) s2
variable {σ : L2.St} {H : Hp}
theorem lift_avNil {Q : List V → Hp → Prop} (h : liftAv K wAvNil σ H Q) : tNil σ H Q := by
  obtain ⟨B, G, s, R, S, hw, k⟩ := h
  exact k [] s G H [] S (.refl _) rfl hw
theorem lift_avVal {a : DE} {b : DAv} {Q : List V → Hp → Prop} (h : liftAv K (wAvVal a b) σ H Q) : tCons (lift K a) (liftAv K b) σ H Q := by
  obtain ⟨B, G, s, R, S, hw, k⟩ := h
  refine ⟨B, G, s, _, S, hw, fun r s1 G1 H1 v S1 sm1 r1 q1 => ?_⟩
  obtain ⟨G2, S2, sm2, rep⟩ := r1.freeze S1
  refine ⟨B, G2, s1, _, S2, q1, fun os s2 G3 H2 vs S3 sm3 o2 q2 => ?_⟩
  exact k (.val (frz r) :: os) s2 G3 H2 _ S3 ((sm1.trans sm2).trans sm3) ⟨v, vs, rfl, Rep.mono sm3 _ _ rep, o2⟩ q2
theorem lift_avBor {i : Nat} {b : DAv} {Q : List V → Hp → Prop} (h : liftAv K (wAvBor i b) σ H Q) : tCons (tVar i) (liftAv K b) σ H Q := by
  obtain ⟨B, G, s, R, S, ⟨hc, hw⟩, k⟩ := h
  cases e : content s i with
  | none => rw [e] at hc; cases hc
  | some d =>
    obtain ⟨v, h1, h2⟩ := S.look e
    refine ⟨v, h1, B, G, s, _, S, hw, fun os s2 G3 H2 vs S3 sm3 o2 q2 => ?_⟩
    exact k (.bor i :: os) s2 G3 H2 _ S3 sm3 ⟨v, vs, rfl, h1, o2⟩ q2
def wCall (F : FS) (w : DAv) : DE := fun s R => w s fun as s1 => (bors as).Nodup ∧ F (as.map (resA s1)) fun r args' => R r (wback as args' s1)
theorem lift_call {F : FS} {w : DAv} {Q : VK} (h : lift K (wCall F w) σ H Q) : (fun (σ : L2.St) (H : Hp) (Q : VK) => liftAv K w σ H fun vs H1 => spOf K F vs H1 Q E0) σ H Q := by
  obtain ⟨B, G, s, R, S, hw, k⟩ := h
  refine ⟨B, G, s, _, S, hw, fun as s1 G1 H1 vs S1 sm1 r1 q1 => ?_⟩
  exact call_sp S1 r1 q1.1 q1.2 fun r args' G' H' v S' sm rr q => k r _ G' H' v S' (sm1.trans sm) rr q
end
end DL

namespace DL
open PySem PySem.Spec PyProof.Rows L2
/-! ### the compact form -/
inductive E where
  | bad | non | bl (b : Bool) | int (i : Int) | str (s : Str)
  | var (i : Nat) | con (k : Nat)
  | bin (o : Operator) (a b : E) | neg (a : E) | nt (a : E) | and (a b : E) | or (a b : E)
  | cmp (o : CmpOp) (a b : E) | chn (o p : CmpOp) (a b c : E)
  | ite (t a b : E)
  | lst (es : List E) | tup (es : List E) | dct (ks vs : List E)
  | idx (a i : E) | slc (a lo hi : E)
  | lc (elt : E) (tg : Tg) (it : E) (ifs : List E) (own : List Nat)
  | rng (es : List E) | zip (es : List E) | enm (a : E)
  | call (k : Nat) (es kes : List E) | bor (i : Nat)
  | bi (k : Nat) (es : List E)
  | isi (a : E) (cs : List String)
  | mut (m : Str) (i : Nat) (es : List E)
  | meth (m : Str) (o : E) (es : List E)
  | cmeth (k : Nat) (m : Str) (o : E) (es kes : List E)
  | attr (o : E) (f : Str)
inductive S where
  | bad | pass | expr (e : E) | ret (e : E) | retv (i : Nat) | retN
  | set (i : Nat) (e : E) | unp (t : Tg) (e : E) | par (i j : Nat) (a b : E)
  | sti (i : Nat) (ix e : E) | stf (i : Nat) (f : Str) (e : E)
  | ifs (t : E) (a b : List S) | for (t : Tg) (it : E) (b : List S) | whl (t : E) (b : List S) | brk | cnt
/-! ### its meaning -/
structure Sem where
  fs : Nat → FS
  bs : Nat → BS
  cv : Nat → D
  ms : Nat → Str → Option FS
  at_ : Str → Str → Bool
  kp : List Nat
def opd (e : E) (w : DE) : DO := match e with
  | .var i => varOp i
  | _ => asOp w
def muD (m : Str) (n : Nat) : MU := if m = "append" then mAppend else if m = "insert" then mInsert else if m = "pop" then (if n = 0 then mPop else mPopAt) else fun _ _ _ => False
def strsOf : List D → Option (List Str)
  | [] => some []
  | .str b :: ds => (strsOf ds).map (b :: ·)
  | _ :: _ => none
def joinD : D → List D → (Sl → Prop) → Prop
  | .str a, [d], R => (match (seqOf d).bind strsOf with
    | some ys => (ys.map (·.length)).sum + ys.length * a.length ≤ 16777216 ∧ R (.sh (.str (Txt.join a ys)))
    | none => False)
  | _, _, _ => False
def methD (m : Str) : D → List D → (Sl → Prop) → Prop := if m = "join" then joinD else fun _ _ _ => False
def wMeth (m : Str) (o : DE) (wos : DSt → (List D → DSt → Prop) → Prop) : DE := fun s R => o s fun r s1 => match frz r with
  | .str z => wos s1 fun ds s2 => methD m (.str z) ds fun r' => R r' s2
  | _ => False
def wCall2 (n : Nat) (F : FS) (w1 w2 : DAv) : DE := fun s R => w1 s fun as s1 => as.length = n ∧ w2 s1 fun bs s2 => (bors (as ++ bs)).Nodup ∧ F ((as ++ bs).map (resA s2)) fun r args' => R r (wback (as ++ bs) args' s2)
def wCMeth (ms : Str → Option FS) (m : Str) (o : DE) (w1 w2 : DAv) : DE := fun s R => o s fun r s0 => match frz r with
  | .ins C ns vs => (match ms C with
    | some F => fldD m ns vs = none ∧ w1 s0 fun as s1 => w2 s1 fun bs s2 => (bors (as ++ bs)).Nodup ∧ F (.sh (.ins C ns vs) :: (as ++ bs).map (resA s2)) fun r args' => R r (wback (as ++ bs) (args'.drop 1) s2)
    | none => False)
  | _ => False
def wBad : DE := fun _ _ => False
/-- a slice's part -/
def partE (e : E) (w : DO) : DSt → (Option Int → DSt → Prop) → Prop := match e with
  | .bad => fun s R => R none s
  | _ => fun s R => w s fun o s1 => match resO s1 o with
    | some (.int i) => R (some i) s1
    | _ => False
def wSlc (a : DO) (lo hi : DSt → (Option Int → DSt → Prop) → Prop) : DE := fun s R => a s fun o s1 => lo s1 fun l s2 => hi s2 fun u s3 => match resO s3 o with
  | some d => slcD d l u fun r => R r s3
  | none => False
def wChn (f g : B2) (a b c : DO) : DE := fun s R => a s fun o1 s1 => b s1 fun o2 s2 => match resO s2 o1, resO s2 o2 with
  | some d1, some d2 => f d1 d2 fun r => (match r with
    | .sh (.bl k) => if k = true then c s2 fun o3 s3 => (match resO s3 o2, resO s3 o3 with
        | some d2', some d3 => g d2' d3 fun r' => R r' s3
        | _, _ => False) else R (.sh (.bl false)) s2
    | _ => False)
  | _, _ => False
/-- a display's keys and values, pair by pair -/
def keysOf : List D → Option (List Key)
  | [] => some []
  | d :: ds => match keyD d, keysOf ds with
    | some k, some ks => some (k :: ks)
    | _, _ => none
/-- a dict display's values, key by key -/
def pairD : List D → Option (List (Key × D))
  | [] => some []
  | k :: v :: r => (match keyD k, pairD r with
    | some k, some ps => some ((k, v) :: ps)
    | _, _ => none)
  | [_] => none
def wDct (w : DSt → (List D → DSt → Prop) → Prop) : DE := fun s R => w s fun ds s1 => match pairD ds with
  | some ps => (ps.length ≤ 15 ∧ (ps.map (·.1)).Nodup) ∧ R (.ow (.dic (ps.map (·.1)) (ps.map (·.2)))) s1
  | none => False
structure W3 where
  e : DE
  t : DT
  i : DI
def mk3 (x : E) (w : DE) : W3 := ⟨w, wTru (opd x w), wSeq' w⟩
def mkT (w : DE) (t : DT) : W3 := ⟨w, t, wSeq' w⟩
def mkI (i : DI) : W3 := ⟨wBad, fun _ _ => False, i⟩
mutual
def wX (M : Sem) : E → W3
  | .bad => mk3 .bad wBad
  | .non => mk3 .non (wC .non)
  | .bl b => mk3 (.bl b) (wC (.bl b))
  | .int i => mk3 (.int i) (wC (.int i))
  | .str s => mk3 (.str s) (wC (.str s))
  | .var i => mk3 (.var i) (wVar i)
  | .con k => mk3 (.con k) (wC (M.cv k))
  | .bin o a b => mk3 .bad (wOp (binD o) (opd a (wX M a).e) (opd b (wX M b).e))
  | .neg a => mk3 .bad (wUn negD (opd a (wX M a).e))
  | .nt a => mkT (wNotV (wX M a).e) (wNot (wX M a).t)
  | .and a b => mkT (wAndV (wX M a).e (wX M b).e) (wAnd (wX M a).t (wX M b).t)
  | .or a b => mkT (wOrV (wX M a).e (wX M b).e) (wOr (wX M a).t (wX M b).t)
  | .cmp o a b => mkT (wOp (cmpB o) (opd a (wX M a).e) (opd b (wX M b).e)) (wBool (wOp (cmpB o) (opd a (wX M a).e) (opd b (wX M b).e)))
  | .chn o p a b c => mkT (wChn (cmpB o) (cmpB p) (opd a (wX M a).e) (opd b (wX M b).e) (opd c (wX M c).e)) (wBool (wChn (cmpB o) (cmpB p) (opd a (wX M a).e) (opd b (wX M b).e) (opd c (wX M c).e)))
  | .ite t a b => mkT (wIte (wX M t).t (wX M a).e (wX M b).e) (fun _ _ => False)
  | .lst es => mk3 .bad (wLst (wVl M es))
  | .tup es => mk3 .bad (wTup (wVl M es))
  | .dct es _ => mk3 .bad (wDct (wVl M es))
  | .idx a i => mk3 .bad (wOp idxD (opd a (wX M a).e) (opd i (wX M i).e))
  | .slc a lo hi => mk3 .bad (wSlc (opd a (wX M a).e) (partE lo (opd lo (wX M lo).e)) (partE hi (opd hi (wX M hi).e)))
  | .lc elt tg it ifs own => mk3 .bad (match ifs with
    | [] => wLc (wX M it).i tg own (fun s Q => Q true s) (wX M elt).e
    | [c] => wLc (wX M it).i tg own (wX M c).t (wX M elt).e
    | _ => wBad)
  | .rng es => mkI (match es with
    | [a] => wRng1 (wCons (opd a (wX M a).e) wNil)
    | [a, b] => wRng2 (wCons (opd a (wX M a).e) (wCons (opd b (wX M b).e) wNil))
    | _ => fun _ _ => False)
  | .zip es => mkI (wZip (wVl M es))
  | .enm _ => mk3 .bad wBad
  | .call k es kes => mk3 .bad (wCall2 es.length (M.fs k) (wAv M es) (wAv M kes))
  | .bor _ => mk3 .bad wBad
  | .bi k es => mk3 .bad (wFn (M.bs k) (wOl M es))
  | .isi a cs => mk3 .bad (wUn (isiD cs) (opd a (wX M a).e))
  | .mut m i es => mk3 .bad (wMut i (muD m es.length) (wVl M es))
  | .meth m o es => mk3 .bad (wMeth m (wX M o).e (wVl M es))
  | .cmeth k m o es kes => mk3 .bad (wCMeth (M.ms k) m (wX M o).e (wAv M es) (wAv M kes))
  | .attr o f => mk3 .bad (wUn (attrD M.at_ f) (opd o (wX M o).e))
def wVl (M : Sem) : List E → DSt → (List D → DSt → Prop) → Prop
  | [] => wVNil
  | e :: es => wVCons (wX M e).e (wVl M es)
def wOl (M : Sem) : List E → DA
  | [] => wNil
  | e :: es => wCons (opd e (wX M e).e) (wOl M es)
def wAv (M : Sem) : List E → DAv
  | [] => wAvNil
  | e :: es => (match e with
    | .bor i => wAvBor i (wAv M es)
    | _ => wAvVal (wX M e).e (wAv M es))
end
abbrev wE (M : Sem) (e : E) : DE := (wX M e).e
abbrev wT (M : Sem) (e : E) : DT := (wX M e).t
abbrev wI (M : Sem) (e : E) : DI := (wX M e).i
example (M : Sem) (a b : E) : wE M (.lst [a, .int 3]) = wLst (wVCons (wE M a) (wVCons (wC (.int 3)) wVNil)) := rfl
mutual
def wS (M : Sem) : S → DS
  | .bad => fun _ _ => False
  | .pass => wNext
  | .expr e => wDrop (wE M e)
  | .ret e => wRet (wE M e)
  | .retv i => wRetV M.kp i
  | .retN => wRetN
  | .set i e => wSet i (wE M e)
  | .unp t e => wUnp t (wE M e)
  | .par i j a b => wPar i j (wE M a) (wE M b)
  | .sti i ix e => wSti i (opd ix (wE M ix)) (wE M e)
  | .stf i f e => wStf M.at_ i f (wE M e)
  | .ifs t a b => wIf (wT M t) (wSs M a) (wSs M b)
  | .for t it b => wFor (wI M it) t (wSs M b)
  | .whl t b => wWhile (wT M t) (wSs M b)
  | .brk => wBrk
  | .cnt => wCnt
def wSs (M : Sem) : List S → DS
  | [] => wNext
  | st :: sts => wSq (wS M st) (wSs M sts)
end
end DL

namespace DL
open PySem PySem.Spec PyProof.Rows L2
/-! ### the conversion -/
structure CC where
  N : List Str
  sc : Scope
  fsc : Option Scope := none
  lv : Nat
  kp : List Nat := []
  brw : List Nat := []
  calls : List (Str × Nat × List Str) := []
  bis : List (Str × Nat) := []
  cons : List Str := []
  meths : List (Str × Nat × List Str) := []
  fr : List Str := []
def ixP {α : Type} (p : α → Bool) : List α → Option Nat
  | [] => none
  | x :: xs => if p x then some 0 else (ixP p xs).map (· + 1)
theorem ixP_ok {α : Type} {p : α → Bool} : ∀ {l : List α} {i : Nat}, ixP p l = some i → ∃ x, l[i]? = some x ∧ p x = true
  | [], i, h => by cases h
  | x :: xs, i, h => by
    unfold ixP at h
    by_cases c : p x = true
    · rw [if_pos c] at h; cases h; exact ⟨x, rfl, c⟩
    · rw [if_neg c] at h
      obtain ⟨j, e, rfl⟩ := map_some h
      obtain ⟨y, h1, h2⟩ := ixP_ok e
      exact ⟨y, by simpa using h1, h2⟩
def notStar : Expr → Bool
  | .Starred _ _ => false
  | _ => true
def isComp : Expr → Bool
  | .ListComp _ _ _ _ => true
  | .SetComp _ _ _ _ => true
  | .DictComp _ _ _ _ _ => true
  | _ => false
def isLC : Expr → Bool
  | .ListComp _ [⟨_, _, _, 0⟩] _ _ => true
  | _ => false
def isSet : Expr → Bool
  | .Set _ _ _ => true
  | _ => false
def isSlice : Expr → Bool
  | .Slice _ _ _ _ => true
  | _ => false
def baseOk : Expr → Bool
  | .Call (.Name id _) [] [] _ => !(id == ("super" : Str))
  | _ => true
def okName (x : Str) : Bool := !(x == ("__debug__" : Str)) && !(x == ("__classdict__" : Str)) && !(x == ("__name__" : Str))
def visB (sc : Scope) (x : Str) : Bool := match sc.names.lookup x with
  | some .local => true
  | some .cell => true
  | some .free => true
  | _ => false
def locB (sc : Scope) (x : Str) : Bool := match sc.names.lookup x with
  | some .local => true
  | some .cell => true
  | _ => false
def slot (C : CC) (x : Str) : Option Nat := if visB C.sc x && okName x then ixP (fun y => decide (y = x)) C.N else none
def glB (C : CC) (x : Str) : Bool := decide (C.sc.names.lookup x = some .globalImplicit) && okName x
def canSt (C : CC) (x : Str) : Bool := locB C.sc x && (match C.fsc with
  | none => true
  | some s => decide (s.names.lookup x = some .cell) || decide (C.sc.names.lookup x = some .local))
def slotSt (C : CC) (x : Str) : Option Nat := if canSt C x then ixP (fun y => decide (y = x)) C.N else none
def cConst : Const → E
  | .none => .non
  | .bool b => .bl b
  | .int i => .int i
  | .str s => .str s
  | _ => .bad
def cName (C : CC) (x : Str) : E := match slot C x with
  | some i => .var i
  | none => if glB C x then (match ixP (fun y => decide (y = x)) C.cons with
    | some k => .con k
    | none => .bad) else .bad
def andE : List E → E
  | [] => .bad
  | [a] => a
  | a :: as => .and a (andE as)
def orE : List E → E
  | [] => .bad
  | [a] => a
  | a :: as => .or a (orE as)
def isBad : E → Bool
  | .bad => true
  | _ => false
def slcE (a : E) (lo hi : Option E) : E := match lo, hi with
  | none, none => .slc a .bad .bad
  | some l, none => if isBad l then .bad else .slc a l .bad
  | none, some h => if isBad h then .bad else .slc a .bad h
  | some l, some h => if isBad l || isBad h then .bad else .slc a l h
/-- names of built-in types -/
def tyName (C : CC) : Expr → Option String
  | .Name x _ => if glB C x && decide (x ∈ C.fr) then (if x = "list" then some "list" else if x = "tuple" then some "tuple" else if x = "dict" then some "dict" else if x = "int" then some "int" else if x = "bool" then some "bool" else if x = "str" then some "str" else none) else none
  | _ => none
def tyNames (C : CC) : List Expr → Option (List String)
  | [] => some []
  | e :: es => match tyName C e, tyNames C es with
    | some t, some ts => some (t :: ts)
    | _, _ => none
def tyArg (C : CC) : Expr → Option (List String)
  | .Tuple es _ _ => if decide (es.length ≤ 1000) then tyNames C es else none
  | e => (tyName C e).map fun t => [t]
mutual
def cTg (C : CC) : Expr → Option Tg
  | .Name x _ => (slotSt C x).map .nm
  | .Tuple es _ _ => (cTgs C es).map .tp
  | _ => none
def cTgs (C : CC) : List Expr → Option (List Tg)
  | [] => some []
  | e :: es => match cTg C e, cTgs C es with
    | some t, some ts => some (t :: ts)
    | _, _ => none
end
def ownOf (N : List Str) (scope : Scope) : List (Str × Nat) := scope.names.filterMap fun y => match y.2 with
  | .local => (ixP (fun z => decide (z = y.1)) N).map fun i => (y.1, i)
  | .cell => (ixP (fun z => decide (z = y.1)) N).map fun i => (y.1, i)
  | _ => none
def isTup : Expr → Bool
  | .Tuple _ _ _ => true
  | _ => false
/-- the context of a comprehension's block -/
def CC.blk (C : CC) (scope : Scope) : CC := { C with sc := relS scope C.sc, fsc := some scope }
def muName (m : Str) (n : Nat) : Bool := (decide (m = "append") && decide (n = 1)) || (decide (m = "insert") && decide (n = 2)) || (decide (m = "pop") && decide (n ≤ 1))
def kwNames (kws : List Keyword) : Option (List Str) := match kws with
  | [] => some []
  | k :: ks => match k.arg, kwNames ks with
    | some x, some xs => some (x :: xs)
    | _, _ => none
def lineOk (apos pos : Pos) : Bool := apos.endLine == pos.line
def cArg (r : Expr → E) (C : CC) (e : Expr) : E := match e with
  | .Name x p => (match slot C x with
    | some i => if decide (i ∈ C.brw) then .bor i else r (.Name x p)
    | none => r (.Name x p))
  | e => r e
def cIt (r : Expr → E) (C : CC) (tup : Bool) (e : Expr) : E := match e with
  | .Call (.Name x p) args [] pos => if glB C x && (decide (x ∈ C.fr) && args.all notStar) then (if x = "range" then (if decide (args.length = 1) || decide (args.length = 2) then .rng (args.map r) else .bad)
      else if x = "zip" then (if tup && decide (args.length = 2) then .zip (args.map r) else .bad)
      else r (.Call (.Name x p) args [] pos)) else r (.Call (.Name x p) args [] pos)
  | e => r e
def cMeth (r : Expr → E) (m : Str) (o : Expr) (args : List Expr) : E := match args with
  | [a] => if m = "join" then .meth m (r o) [r a] else .bad
  | _ => .bad
def dctE (r : Expr → E) : List (Option Expr) → List Expr → Option (List E)
  | [], [] => some []
  | some k :: ks, v :: vs => (dctE r ks vs).map fun l => r k :: r v :: l
  | _, _ => none
def cE : Nat → CC → Expr → E
  | 0, _, _ => .bad
  | n + 1, C, e => match e with
    | .Constant c _ _ => cConst c
    | .Name x _ => cName C x
    | .BinOp a o b _ => .bin o (cE n C a) (cE n C b)
    | .UnaryOp .USub a _ => .neg (cE n C a)
    | .UnaryOp .Not a _ => .nt (cE n C a)
    | .BoolOp .And (a :: b :: es) _ => .and (cE n C a) (andE ((b :: es).map (cE n C)))
    | .BoolOp .Or (a :: b :: es) _ => .or (cE n C a) (orE ((b :: es).map (cE n C)))
    | .IfExp t a b _ => .ite (cE n C t) (cE n C a) (cE n C b)
    | .Compare a [o] [b] _ => if behindInMarks o b then .bad else .cmp o (cE n C a) (cE n C b)
    | .Compare a [o, p] [b, c] _ => if behindInMarks p c then .bad else .chn o p (cE n C a) (cE n C b) (cE n C c)
    | .List es _ => if es.all notStar then .lst (es.map (cE n C)) else .bad
    | .Tuple es _ _ => if es.all notStar then .tup (es.map (cE n C)) else .bad
    | .Dict ks vs _ => (match dctE (cE n C) ks vs with
      | some es => if decide (ks.length ≤ 15) then .dct es [] else .bad
      | none => .bad)
    | .Subscript a i _ => (match i with
      | .Slice lo hi none _ => slcE (cE n C a) (lo.map (cE n C)) (hi.map (cE n C))
      | .Slice _ _ _ _ => .bad
      | i => .idx (cE n C a) (cE n C i))
    | .ListComp elt [⟨tg, it, ifs, 0⟩] scope _ => (match cTg (C.blk scope) tg with
      | some t => if (blkC C.N C.sc scope (ownOf C.N scope) && (slotsTg t).all fun j => decide (j ∈ (ownOf C.N scope).map (·.2))) && (!isSet it && decide (ifs.length ≤ 1)) then
          .lc (cE n (C.blk scope) elt) t (cIt (cE n C) C (isTup tg) it) (ifs.map (cE n (C.blk scope))) ((ownOf C.N scope).map (·.2)) else .bad
      | none => .bad)
    | .Call f args kws pos => if args.all notStar then (match f with
      | .Name x _ => if glB C x then (match kwNames kws with
          | some ks => if x = "isinstance" then (match args, ks with
              | [a, t], [] => if decide (x ∈ C.fr) then (match tyArg C t with
                | some ts => .isi (cE n C a) ts
                | none => .bad) else .bad
              | _, _ => .bad)
            else (match ixP (fun y => decide (y = (x, args.length, ks))) C.calls with
            | some k => .call k (args.map (cArg (cE n C) C)) (kws.map fun kw => cArg (cE n C) C kw.value)
            | none => (match args, ks, ixP (fun y => decide (y = (x, args.length))) C.bis with
              | a :: as, [], some k => .bi k ((a :: as).map (cE n C))
              | _, _, _ => .bad))
          | none => .bad) else .bad
      | .Attribute o m apos => if baseOk o && lineOk apos pos then (match kwNames kws with
          | some ks => (match ixP (fun y => decide (y = (m, args.length, ks))) C.meths with
            | some k => if decide (args.length + kws.length < 25) then .cmeth k m (cE n C o) (args.map (cArg (cE n C) C)) (kws.map fun kw => cArg (cE n C) C kw.value) else .bad
            | none => if ks = [] then (match o with
                | .Name x _ => (match slot C x with
                  | some i => if muName m args.length then .mut m i (args.map (cE n C)) else cMeth (cE n C) m o args
                  | none => cMeth (cE n C) m o args)
                | _ => cMeth (cE n C) m o args) else .bad)
          | none => .bad) else .bad
      | _ => .bad) else .bad
    | .Attribute o f _ => if baseOk o then .attr (cE n C o) f else .bad
    | _ => .bad
/-! statements -/
def disj (l k : List Nat) : Bool := l.all fun j => decide (j ∉ k)
/-- the names that are stored from the right -/
def swapQ (sc : Scope) (ts vs : List Expr) : Option (Option (List Str)) :=
  if !(ts.length == 2 || ts.length == 3) || vs.length != ts.length then some none
  else if vs.any (fun | .Starred .. => true | _ => false) then some none
  else
    let line := (ts.head?.map (·.pos.line)).getD 0
    let names := ts.filterMap fun
      | .Name id pos => if sc.names.lookup id == some .local && pos.line == line then some id else none
      | _ => none
    if names.length != ts.length || names.eraseDups.length != names.length then some none
    else if vs.all (foldedForSure 8) then some none
    else if vs.all (constantsAlone 8) then none
    else some (some names)
def cS : Nat → CC → Stmt → S
  | 0, _, _ => .bad
  | n + 1, C, st => match st with
    | .Expr e _ => (match e with
      | .Constant (.str _) _ _ => .pass
      | e => if isComp e then .bad else .expr (cE n C e))
    | .Return (some e) _ => (match cE n C e with
      | .var i => .retv i
      | c => .ret c)
    | .Return none _ => .retN
    | .Pass _ => .pass
    | .Break _ => .brk
    | .Continue _ => .cnt
    | .If c a b _ => .ifs (cE n C c) (a.map (cS n C)) (b.map (cS n C))
    | .For tg it body [] _ => (match cTg C tg with
      | some t => if disj (slotsTg t) C.kp && !isSet it then .for t (cIt (cE n C) C (isTup tg) it) (body.map (cS n C)) else .bad
      | none => .bad)
    | .While c body [] _ => .whl (cE n C c) (body.map (cS n C))
    | .Assign [tg] v _ => (match tg with
      | .Name x _ => (match slotSt C x with
        | some i => if disj [i] C.kp && (!isComp v || isLC v) then .set i (cE n C v) else .bad
        | none => .bad)
      | .Tuple ts k p => (match v with
        | .Tuple vs _ _ => (match swapQ C.sc ts vs with
          | some none => (match cTg C (.Tuple ts k p) with
            | some t => if disj (slotsTg t) C.kp then .unp t (cE n C v) else .bad
            | none => .bad)
          | some (some ns) => (match ts, vs with
            | [.Name x _, .Name y _], [a, b] => (match slotSt C x, slotSt C y with
              | some i, some j => if (disj [i, j] C.kp && decide (i ≠ j)) && ((notStar a && notStar b) && (decide (ns = [x, y]) && (decide (C.sc.names.lookup x = some .local) && decide (C.sc.names.lookup y = some .local)))) then .par i j (cE n C a) (cE n C b) else .bad
              | _, _ => .bad)
            | _, _ => .bad)
          | none => .bad)
        | v => (match cTg C (.Tuple ts k p) with
          | some t => if disj (slotsTg t) C.kp then .unp t (cE n C v) else .bad
          | none => .bad))
      | .Subscript (.Name x _) i _ => (match slot C x with
        | some j => if !isSlice i then .sti j (cE n C i) (cE n C v) else .bad
        | none => .bad)
      | .Attribute (.Name x _) f _ => (match slot C x with
        | some j => .stf j f (cE n C v)
        | none => .bad)
      | _ => .bad)
    | _ => .bad
end DL

namespace DL
open PySem PySem.Spec PyProof.Rows L2
/-! ### what a context promises -/
def CallJ (P : Program) (w : World) (K : PySem.W.Frag) (mg : Str → Option Value) (base : Heap) (lv : Nat) (x : Str) (n : Nat) (ks : List Str) (F : FS) : Prop :=
  ∀ X : Cx, X.prog = P → X.w = w → X.K = K → X.mg = mg → X.base = base → X.calm = true → Room lv X.A → Gl X x → okName x = true → ∀ (es : List Expr) (kws : List Keyword) (p pos : Pos) (w1 w2 : DAv), es.length = n → kwNames kws = some ks → es.all notStar = true →
    (es = [] → w1 = wAvNil) → (kws = [] → w2 = wAvNil) → PA X es (liftAv K w1) → PK X kws (liftAv K w2) → PE X (.Call (.Name x p) es kws pos) (lift K (wCall2 n F w1 w2))
def BiJ (P : Program) (w : World) (K : PySem.W.Frag) (mg : Str → Option Value) (base : Heap) (lv : Nat) (x : Str) (n : Nat) (f : BS) : Prop :=
  ∃ r, BOk K r f ∧ ∀ X : Cx, X.prog = P → X.w = w → X.K = K → X.mg = mg → X.base = base → X.calm = true → Room lv X.A → Gl X x → ∀ (e : Expr) (es : List Expr) (p pos : Pos) (t : TA), (e :: es).length = n → (e :: es).all notStar = true →
    PA X (e :: es) t → PE X (.Call (.Name x p) (e :: es) [] pos) (tCB r t)
def MethJ (P : Program) (w : World) (K : PySem.W.Frag) (mg : Str → Option Value) (base : Heap) (lv : Nat) (m : Str) (n : Nat) (ks : List Str) (ms : Str → Option FS) : Prop :=
  ∀ X : Cx, X.prog = P → X.w = w → X.K = K → X.mg = mg → X.base = base → X.calm = true → Room lv X.A → ∀ (o : Expr) (es : List Expr) (kws : List Keyword) (apos pos : Pos) (wo : DE) (w1 w2 : DAv), baseOk o = true → lineOk apos pos = true → es.length = n → kwNames kws = some ks →
    es.length + kws.length < 25 → es.all notStar = true → (es = [] → w1 = wAvNil) → (kws = [] → w2 = wAvNil) → PE X o (lift K wo) → PA X es (liftAv K w1) → PK X kws (liftAv K w2) →
    PE X (.Call (.Attribute o m apos) es kws pos) (lift K (wCMeth ms m wo w1 w2))
structure Tab (P : Program) (w : World) (K : PySem.W.Frag) (mg : Str → Option Value) (base : Heap) (C : CC) (M : Sem) : Prop where
  call : ∀ k x n ks, C.calls[k]? = some (x, n, ks) → CallJ P w K mg base C.lv x n ks (M.fs k)
  bi : ∀ k x n, C.bis[k]? = some (x, n) → BiJ P w K mg base C.lv x n (M.bs k)
  con : ∀ k x, C.cons[k]? = some x → ∃ u v, mg x = some u ∧ RelV v u ∧ ∀ G, Rep K G (M.cv k) v
  meth : ∀ k m n ks, C.meths[k]? = some (m, n, ks) → MethJ P w K mg base C.lv m n ks (M.ms k)
  attr : AttrOk K M.at_
  fr : ∀ x ∈ C.fr, mg x = none
structure XOk (C : CC) (M : Sem) (X : Cx) : Prop where
  sc : X.env.scope = C.sc
  N : X.N = C.N
  nd : C.N.Nodup
  calm : X.calm = true
  xe : X.xe = fun _ _ => False
  room : Room C.lv X.A
  fn : ∀ x, canSt C x = true → X.fn x = true ∨ X.env.scope.names.lookup x = some .local
  tab : Tab X.prog X.w X.K X.mg X.base C M
  kp : M.kp = C.kp
  fk : C.sc.kind = .function
/-! ### small facts -/
theorem starEach_cons {e : Expr} {es : List Expr} {env : Env} (h : notStar e = true) : starEach (e :: es) env = (false, eval e env) :: starEach es env := by
  cases e <;> first | rfl | cases h
theorem assignEach_cons {e : Expr} {es : List Expr} {env : Env} (h : notStar e = true) : assignEach (e :: es) env = (false, assign e env) :: assignEach es env := by
  cases e <;> first | rfl | cases h
theorem starEach_none {env : Env} {pos : Pos} : ∀ {es : List Expr}, es.all notStar = true → (backTo pos (starEach es env)).any (·.1) = false
  | [], _ => rfl
  | e :: es, h => by
    rw [List.all_cons, Bool.and_eq_true] at h
    rw [starEach_cons h.1]
    show (false || (backTo pos (starEach es env)).any (·.1)) = false
    rw [Bool.false_or]
    exact starEach_none h.2
theorem starEach_len {env : Env} : ∀ {es : List Expr}, es.all notStar = true → (starEach es env).length = es.length
  | [], _ => rfl
  | e :: es, h => by
    rw [List.all_cons, Bool.and_eq_true] at h
    rw [starEach_cons h.1]
    exact congrArg Nat.succ (starEach_len h.2)
theorem base_ok {o : Expr} {f : Str} {env : Env} (h : baseOk o = true) : attributeBase o f env (eval o env) = eval o env := by
  have st : ∀ id pos, baseOk (.Call (.Name id pos) [] [] pos) = !(id == ("super" : Str)) := fun _ _ => rfl
  cases o with
  | Call g args kws pos =>
    cases g with
    | Name id p =>
      cases args with
      | nil =>
        cases kws with
        | nil =>
          have h1 : (!(id == ("super" : Str))) = true := h
          have h2 : (id == ("super" : Str)) = false := by simpa using h1
          unfold attributeBase
          show (if (id != ("super" : Str) || f == ("__class__" : Str) || env.kindOf "super" != some .globalImplicit || env.kindOf "__class__" != some .free) = true then _ else _) = _
          have h3 : (id != ("super" : Str)) = true := by simp [bne, h2]
          rw [h3, Bool.true_or, Bool.true_or, Bool.true_or, if_pos rfl]
        | cons k ks => rfl
      | cons a as => rfl
    | _ => rfl
  | _ => rfl

theorem okName_ok {x : Str} (h : okName x = true) : (x == ("__debug__" : Str)) = false ∧ (x == ("__classdict__" : Str)) = false ∧ x ≠ ("__name__" : Str) := by
  unfold okName at h
  rw [Bool.and_eq_true, Bool.and_eq_true] at h
  obtain ⟨⟨h1, h2⟩, h3⟩ := h
  refine ⟨by simpa using h1, by simpa using h2, fun e => ?_⟩
  have h4 : (x == ("__name__" : Str)) = false := by simpa using h3
  rw [e] at h4
  simp at h4
theorem vis_of {sc : Scope} {x : Str} (h : visB sc x = true) : Vis sc x := by
  unfold visB at h
  split at h
  · rename_i e; exact .inl e
  · rename_i e; exact .inr (.inl e)
  · rename_i e; exact .inr (.inr e)
  · cases h
theorem loc_of {sc : Scope} {x : Str} (h : locB sc x = true) : Loc sc x := by
  unfold locB at h
  split at h
  · rename_i e; exact .inl e
  · rename_i e; exact .inr e
  · cases h
section
variable {C : CC} {M : Sem} {X : Cx}
theorem XOk.slot (ok : XOk C M X) {x : Str} {i : Nat} (h : DL.slot C x = some i) : X.N[i]? = some x ∧ Vis X.env.scope x ∧ okName x = true := by
  unfold DL.slot at h
  by_cases c : (visB C.sc x && okName x) = true
  · rw [if_pos c] at h
    rw [Bool.and_eq_true] at c
    obtain ⟨y, e1, e2⟩ := ixP_ok h
    have e3 : y = x := of_decide_eq_true e2
    subst e3
    exact ⟨by rw [ok.N]; exact e1, by rw [ok.sc]; exact vis_of c.1, c.2⟩
  · rw [if_neg c] at h; cases h
theorem pe_slot (ok : XOk C M X) {x : Str} {i : Nat} {p : Pos} (h : slot C x = some i) : PE X (.Name x p) (tVar i) := by
  obtain ⟨h1, h2, h3⟩ := ok.slot h
  obtain ⟨n1, n2, _⟩ := okName_ok h3
  exact pe_var h1 h2 n1 n2
theorem XOk.gl (ok : XOk C M X) {x : Str} (h : glB C x = true) : Gl X x ∧ okName x = true := by
  unfold glB at h
  rw [Bool.and_eq_true] at h
  refine ⟨?_, h.2⟩
  show X.env.scope.names.lookup x = some .globalImplicit
  rw [ok.sc]
  exact of_decide_eq_true h.1
theorem XOk.slotSt (ok : XOk C M X) {x : Str} {i : Nat} (h : DL.slotSt C x = some i) : X.N[i]? = some x ∧ Loc X.env.scope x ∧ (X.fn x = true ∨ X.env.scope.names.lookup x = some .local) := by
  unfold DL.slotSt at h
  by_cases c : canSt C x = true
  · rw [if_pos c] at h
    obtain ⟨y, e1, e2⟩ := ixP_ok h
    have e3 : y = x := of_decide_eq_true e2
    subst e3
    refine ⟨by rw [ok.N]; exact e1, ?_, ok.fn y c⟩
    unfold canSt at c
    rw [Bool.and_eq_true] at c
    rw [ok.sc]
    exact loc_of c.1
  · rw [if_neg c] at h; cases h
theorem XOk.nd' (ok : XOk C M X) : X.N.Nodup := by rw [ok.N]; exact ok.nd
theorem XOk.units (ok : XOk C M X) : X.A.units + 65 < cLine := by have := ok.room.un; omega
theorem XOk.own (ok : XOk C M X) : PassesOwn (model X.prog X.w) X.A X.env X.xe := by rw [ok.xe]; exact PassesOwn.never
end
/-! ### heads -/
theorem slcE_head (a : E) (lo hi : Option E) : (∀ i, slcE a lo hi ≠ .bor i) ∧ ∀ i, slcE a lo hi ≠ .var i := by
  unfold slcE
  split
  · exact ⟨(fun i h => (nomatch h)), (fun i h => (nomatch h))⟩
  all_goals (split <;> exact ⟨(fun i h => (nomatch h)), (fun i h => (nomatch h))⟩)
theorem cMeth_head (r : Expr → E) (m : Str) (o : Expr) (args : List Expr) : (∀ i, cMeth r m o args ≠ .bor i) ∧ ∀ i, cMeth r m o args ≠ .var i := by
  unfold cMeth
  split
  · split <;> exact ⟨(fun i h => (nomatch h)), (fun i h => (nomatch h))⟩
  · exact ⟨(fun i h => (nomatch h)), (fun i h => (nomatch h))⟩
theorem cConst_head (c : Const) : (∀ i, cConst c ≠ .bor i) ∧ ∀ i, cConst c ≠ .var i := by
  cases c <;> exact ⟨(fun i h => (nomatch h)), (fun i h => (nomatch h))⟩
theorem cName_head (C : CC) (x : Str) : (∀ i, cName C x ≠ .bor i) ∧ ∀ i, cName C x = .var i → slot C x = some i := by
  unfold cName
  split
  · rename_i i e
    exact ⟨(fun i h => (nomatch h)), (fun j h => by cases h; exact e)⟩
  · refine ⟨fun i h => ?_, fun i h => ?_⟩ <;> (repeat' (split at h)) <;> cases h
theorem cE_head : ∀ (n : Nat) (C : CC) (e : Expr), (∀ i, cE n C e ≠ .bor i) ∧ ∀ i, cE n C e = .var i → ∃ x p, e = .Name x p ∧ slot C x = some i
  | 0, C, e => ⟨(fun i h => (nomatch h)), (fun i h => (nomatch h))⟩
  | n + 1, C, e => by
    have bad : ∀ {z : E}, (∀ i, z ≠ .bor i) → (∀ i, z ≠ .var i) → (∀ i, z ≠ .bor i) ∧ ∀ i, z = .var i → ∃ x p, e = .Name x p ∧ slot C x = some i := fun a b => ⟨a, fun i h => absurd h (b i)⟩
    cases e with
    | Constant c k p => exact bad (cConst_head c).1 (cConst_head c).2
    | Name x p => exact ⟨(cName_head C x).1, fun i h => ⟨x, p, rfl, (cName_head C x).2 i h⟩⟩
    | _ =>
      unfold cE
      refine bad (fun i h => ?_) (fun i h => ?_)
      all_goals (simp only at h)
      all_goals (repeat' (split at h))
      all_goals first
        | cases h
        | exact absurd h ((slcE_head _ _ _).1 _)
        | exact absurd h ((slcE_head _ _ _).2 _)
        | exact absurd h ((cMeth_head _ _ _ _).1 _)
        | exact absurd h ((cMeth_head _ _ _ _).2 _)
        | exact absurd h ((cConst_head _).1 _)
        | exact absurd h ((cConst_head _).2 _)
        | contradiction
theorem cConst_it (c : Const) : (∀ i, cConst c ≠ .rng i) ∧ ∀ i, cConst c ≠ .zip i := by
  cases c <;> exact ⟨(fun i h => (nomatch h)), (fun i h => (nomatch h))⟩
theorem cName_it (C : CC) (x : Str) : (∀ i, cName C x ≠ .rng i) ∧ ∀ i, cName C x ≠ .zip i := by
  unfold cName
  refine ⟨fun i h => ?_, fun i h => ?_⟩ <;> (repeat' (split at h)) <;> cases h
theorem slcE_it (a : E) (lo hi : Option E) : (∀ i, slcE a lo hi ≠ .rng i) ∧ ∀ i, slcE a lo hi ≠ .zip i := by
  unfold slcE
  split
  · exact ⟨(fun i h => (nomatch h)), (fun i h => (nomatch h))⟩
  all_goals (split <;> exact ⟨(fun i h => (nomatch h)), (fun i h => (nomatch h))⟩)
theorem cMeth_it (r : Expr → E) (m : Str) (o : Expr) (args : List Expr) : (∀ i, cMeth r m o args ≠ .rng i) ∧ ∀ i, cMeth r m o args ≠ .zip i := by
  unfold cMeth
  split
  · split <;> exact ⟨(fun i h => (nomatch h)), (fun i h => (nomatch h))⟩
  · exact ⟨(fun i h => (nomatch h)), (fun i h => (nomatch h))⟩
theorem cE_it : ∀ (n : Nat) (C : CC) (e : Expr), (∀ i, cE n C e ≠ .rng i) ∧ ∀ i, cE n C e ≠ .zip i
  | 0, C, e => ⟨(fun i h => (nomatch h)), (fun i h => (nomatch h))⟩
  | n + 1, C, e => by
    cases e with
    | Constant c k p => exact cConst_it c
    | Name x p => exact cName_it C x
    | _ =>
      unfold cE
      refine ⟨fun i h => ?_, fun i h => ?_⟩
      all_goals (simp only at h)
      all_goals (repeat' (split at h))
      all_goals first
        | cases h
        | exact absurd h ((slcE_it _ _ _).1 _)
        | exact absurd h ((slcE_it _ _ _).2 _)
        | exact absurd h ((cMeth_it _ _ _ _).1 _)
        | exact absurd h ((cMeth_it _ _ _ _).2 _)
        | exact absurd h ((cConst_it _).1 _)
        | exact absurd h ((cConst_it _).2 _)
        | contradiction
end DL

namespace DL
open PySem PySem.Spec PyProof.Rows L2
/-! ### an expression and its compact form -/
section
variable {X : Cx} {M : Sem}
theorem pe_no {e : Expr} {t : TE} (h : ∀ σ H Q, ¬ t σ H Q) : PE X e t := ⟨fun pins s σ H Q I q => absurd q (h σ H Q)⟩
theorem pt_no {e : Expr} {t : TT} (h : ∀ σ H Q, ¬ t σ H Q) : PT X e t := ⟨fun pins s σ H Q I q => absurd q (h σ H Q)⟩
theorem pi_no {tg e : Expr} {t : TI} (h : ∀ σ H Q, ¬ t σ H Q) : PI X tg e t := ⟨fun pins s σ H Q I q => absurd q (h σ H Q)⟩
theorem pw_no {e : Expr} {t : TT} (h : ∀ σ H Q, ¬ t σ H Q) : PW X e t := ⟨fun wh pins s σ H Q I q => absurd q (h σ H Q)⟩
theorem lift_noE {K : PySem.W.Frag} {w : DE} (h : ∀ s R, ¬ w s R) : ∀ σ H Q, ¬ lift K w σ H Q := fun σ H Q ⟨B, G, s, R, S, a, k⟩ => h s R a
theorem lift_noT {K : PySem.W.Frag} {w : DT} (h : ∀ s R, ¬ w s R) : ∀ σ H Q, ¬ liftT K w σ H Q := fun σ H Q ⟨B, G, s, R, S, a, k⟩ => h s R a
theorem lift_noI {K : PySem.W.Frag} {w : DI} (h : ∀ s R, ¬ w s R) : ∀ σ H Q, ¬ liftI K w σ H Q := fun σ H Q ⟨B, G, s, R, S, a, k⟩ => h s R a
structure GE (X : Cx) (M : Sem) (e : Expr) (c : E) : Prop where
  v : PE X e (lift X.K (wX M c).e)
  t : PT X e (liftT X.K (wX M c).t)
theorem ge_bad {e : Expr} : GE X M e .bad := ⟨pe_no (lift_noE fun _ _ h => h), pt_no (lift_noT fun _ _ h => h)⟩
/-- what a truth test of a value asks -/
abbrev Plain (X : Cx) (e : Expr) : Prop := ∀ whole, isTrue e X.env whole = (do let v ← whole; standAt e.pos; holding [v] (truthy v))
theorem ge_val {e : Expr} {c : E} {w : DE} (hc : wX M c = ⟨w, wTru (asOp w), wSeq' w⟩) (h : PE X e (lift X.K w)) (ht : Plain X e) : GE X M e c := by
  refine ⟨by rw [hc]; exact h, ?_⟩
  rw [hc]
  exact pt_mono (pt_truth (pe_mono (t' := liftO X.K (asOp w)) h fun σ H Q => lift_asOp) ht) fun σ H Q l => lift_tru l
theorem ge_op {n : Nat} {C : CC} (ok : XOk C M X) {e : Expr} (h : GE X M e (cE n C e)) : PE X e (liftO X.K (opd (cE n C e) (wX M (cE n C e)).e)) := by
  by_cases v : ∃ i, cE n C e = .var i
  · obtain ⟨i, v⟩ := v
    obtain ⟨x, p, rfl, hs⟩ := (cE_head n C e).2 i v
    rw [v]
    exact pe_mono (pe_slot ok hs) fun σ H Q => lift_varOp
  · have eq : ∀ c : E, (∀ i, c ≠ .var i) → opd c (wX M c).e = asOp (wX M c).e := fun c hc => by
      cases c <;> first | rfl | exact absurd rfl (hc _)
    rw [eq _ fun i hi => v ⟨i, hi⟩]
    exact pe_mono h.v fun σ H Q => lift_asOp
theorem ge_const {n : Nat} {C : CC} {c : Const} {k : Nat} {p : Pos} : GE X M (.Constant c k p) (cConst c) := by
  cases c with
  | none => exact ge_val rfl (pe_mono pe_non fun σ H Q => lift_c (d := .non) (v := .non) fun G => rfl) fun _ => rfl
  | bool b => exact ge_val rfl (pe_mono pe_bl fun σ H Q => lift_c (d := .bl b) (v := .bl b) fun G => rfl) fun _ => rfl
  | int b => exact ge_val rfl (pe_mono pe_int fun σ H Q => lift_c (d := .int b) (v := .int b) fun G => rfl) fun _ => rfl
  | str b => exact ge_val rfl (pe_mono pe_str fun σ H Q => lift_c (d := .str b) (v := .str b) fun G => rfl) fun _ => rfl
  | _ => exact ge_bad
theorem ge_name {C : CC} (ok : XOk C M X) {x : Str} {p : Pos} : GE X M (.Name x p) (cName C x) := by
  unfold cName
  cases hs : slot C x with
  | some i =>
    have h := pe_slot (p := p) ok hs
    refine ⟨pe_mono h fun σ H Q => lift_var, ?_⟩
    exact pt_mono (pt_truth (pe_mono (t' := liftO X.K (varOp i)) h fun σ H Q => lift_varOp) fun _ => rfl) fun σ H Q l => lift_tru l
  | none =>
    show GE X M _ (if glB C x then _ else E.bad)
    split
    · rename_i g
      obtain ⟨hg, hn⟩ := ok.gl g
      split
      · rename_i k hk
        obtain ⟨y, h1, h2⟩ := ixP_ok hk
        have e3 : y = x := of_decide_eq_true h2
        subst e3
        obtain ⟨u, v, hm, r, hv⟩ := ok.tab.con k y h1
        exact ge_val (w := wC (M.cv k)) rfl (pe_mono (pe_glob hg hm r (okName_ok hn).1) fun σ H Q => lift_c hv) fun _ => rfl
      · exact ge_bad
    · exact ge_bad
theorem ge_bin {a b : Expr} {ca cb : E} {o : Operator} {p : Pos} (ha : PE X a (liftO X.K (opd ca (wX M ca).e))) (hb : PE X b (liftO X.K (opd cb (wX M cb).e))) : GE X M (.BinOp a o b p) (.bin o ca cb) := by
  obtain ⟨r, h1, h2⟩ := binD_ok X o
  exact ge_val rfl (pe_mono (pe_op h1 ha hb) fun σ H Q => lift_op h2) fun _ => rfl
theorem ge_neg {a : Expr} {ca : E} {p : Pos} (ha : PE X a (liftO X.K (opd ca (wX M ca).e))) : GE X M (.UnaryOp .USub a p) (.neg ca) :=
  ge_val rfl (pe_mono (pe_un un_neg ha) fun σ H Q => lift_un negD_ok) fun _ => rfl
theorem ge_nt {a : Expr} {ca : E} {p : Pos} (ha : GE X M a ca) : GE X M (.UnaryOp .Not a p) (.nt ca) :=
  ⟨pe_mono (pe_notT ha.v) fun σ H Q => lift_notV, pt_mono (pt_not ha.t) fun σ H Q => lift_not⟩
/-! ### chains of and, or -/
theorem ge_ands {p : Pos} {f : Expr → E} : ∀ (b : Expr) (es : List Expr), (∀ e ∈ b :: es, GE X M e (f e)) → PE X (.BoolOp .And (b :: es) p) (lift X.K (wX M (andE ((b :: es).map f))).e) ∧ PW X (.BoolOp .And (b :: es) p) (liftT X.K (wX M (andE ((b :: es).map f))).t)
  | b, [], h => ⟨pe_one (h b (.head _)).v, pw_and1 (h b (.head _)).t⟩
  | b, c :: es, h => by
    have ih := ge_ands (p := p) c es fun e m => h e (.tail _ m)
    exact ⟨pe_mono (pe_andT (h b (.head _)).v ih.1) fun σ H Q => lift_andV, pw_mono (pw_and (h b (.head _)).t ih.2) fun σ H Q => lift_and⟩
theorem ge_ors {p : Pos} {f : Expr → E} : ∀ (b : Expr) (es : List Expr), (∀ e ∈ b :: es, GE X M e (f e)) → PE X (.BoolOp .Or (b :: es) p) (lift X.K (wX M (orE ((b :: es).map f))).e) ∧ PW X (.BoolOp .Or (b :: es) p) (liftT X.K (wX M (orE ((b :: es).map f))).t)
  | b, [], h => ⟨pe_one (h b (.head _)).v, pw_or1 (h b (.head _)).t⟩
  | b, c :: es, h => by
    have ih := ge_ors (p := p) c es fun e m => h e (.tail _ m)
    exact ⟨pe_mono (pe_orT (h b (.head _)).v ih.1) fun σ H Q => lift_orV, pw_mono (pw_or (h b (.head _)).t ih.2) fun σ H Q => lift_or⟩
theorem ge_and {p : Pos} {f : Expr → E} {a b : Expr} {es : List Expr} (h : ∀ e, GE X M e (f e)) : GE X M (.BoolOp .And (a :: b :: es) p) (.and (f a) (andE ((b :: es).map f))) := by
  have ih := ge_ands (p := p) b es fun e _ => h e
  exact ⟨pe_mono (pe_andT (h a).v ih.1) fun σ H Q => lift_andV, pt_mono (pw_and (h a).t ih.2).pt fun σ H Q => lift_and⟩
theorem ge_or {p : Pos} {f : Expr → E} {a b : Expr} {es : List Expr} (h : ∀ e, GE X M e (f e)) : GE X M (.BoolOp .Or (a :: b :: es) p) (.or (f a) (orE ((b :: es).map f))) := by
  have ih := ge_ors (p := p) b es fun e _ => h e
  exact ⟨pe_mono (pe_orT (h a).v ih.1) fun σ H Q => lift_orV, pt_mono (pw_or (h a).t ih.2).pt fun σ H Q => lift_or⟩
theorem ge_ite {t a b : Expr} {ct ca cb : E} {p : Pos} (ht : GE X M t ct) (ha : GE X M a ca) (hb : GE X M b cb) : GE X M (.IfExp t a b p) (.ite ct ca cb) :=
  ⟨pe_mono (pe_ifExp ht.t ha.v hb.v) fun σ H Q => lift_ite, pt_no (lift_noT fun _ _ h => h)⟩
/-! ### comparisons -/
theorem tTest_bool {K : PySem.W.Frag} {w : DE} {t : TE} (h : ∀ σ H Q, lift K w σ H Q → t σ H Q) : ∀ σ H Q, liftT K (wBool w) σ H Q → tTest t σ H Q := fun σ H Q l => h _ _ _ (by
  obtain ⟨B, G, s, R, S, a, k⟩ := l
  refine ⟨B, G, s, _, S, a, fun r s' G' H' v S' e n q => ?_⟩
  cases r with
  | sh d =>
    cases d with
    | bl b =>
      have hv : v = .bl b := n
      exact ⟨b, hv, k b s' G' H' S' e q⟩
    | _ => cases q
  | _ => cases q)
theorem ge_cmp {a b : Expr} {ca cb : E} {o : CmpOp} {p : Pos} (hu : X.A.units + 65 < cLine) (ha : PE X a (liftO X.K (opd ca (wX M ca).e))) (hb : PE X b (liftO X.K (opd cb (wX M cb).e))) (hm : behindInMarks o b = false) : GE X M (.Compare a [o] [b] p) (.cmp o ca cb) := by
  obtain ⟨r, h1, h2⟩ := cmpD_ok X hu o
  exact ⟨pe_mono (pe_cmpR h1 ha hb hm) fun σ H Q => lift_op h2.op, pt_mono (pt_cmpR h1 ha hb hm) (tTest_bool fun σ H Q => lift_op h2.op)⟩
theorem lift_chn {K : PySem.W.Frag} {r r' : R2} {f g : D → D → (Bool → Prop) → Prop} (hf : BlOk K r f) (hg : BlOk K r' g) {a b c : DO} {σ : L2.St} {H : Hp} {Q : VK}
    (h : lift K (wChn (fun d e R => f d e fun b => R (.sh (.bl b))) (fun d e R => g d e fun b => R (.sh (.bl b))) a b c) σ H Q) : tChain r r' (liftO K a) (liftO K b) (liftO K c) σ H Q := by
  obtain ⟨B, G, s, R, S, w, k⟩ := h
  refine ⟨B, G, s, _, S, w, fun o1 s1 G1 H1 x S1 e1 r1 w1 => ?_⟩
  refine ⟨B, G1, s1, _, S1, w1, fun o2 s2 G2 H2 y S2 e2 r2 w2 => ?_⟩
  split at w2
  · rename_i d1 d2 q1 q2
    refine hf G2 H2 d1 d2 x y _ _ S2.gH ((r1.mono e2).top S2 q1) (r2.top S2 q2) w2 fun b hb => ⟨b, rfl, ?_⟩
    cases b with
    | true =>
      rw [if_pos rfl]
      have hb' : c s2 _ := hb
      refine ⟨B, G2, s2, _, S2, hb', fun o3 s3 G3 H3 z S3 e3 r3 w3 => ?_⟩
      split at w3
      · rename_i d2' d3 q3 q4
        exact hg G3 H3 d2' d3 y z _ _ S3.gH ((r2.mono e3).top S3 q3) (r3.top S3 q4) w3 fun b hb => k (.sh (.bl b)) s3 G3 H3 (.bl b) S3 ((e1.trans e2).trans e3) rfl hb
      · cases w3
    | false =>
      rw [if_neg (fun h => by cases h)]
      exact k (.sh (.bl false)) s2 G2 H2 (.bl false) S2 (e1.trans e2) rfl hb
  · cases w2
theorem ge_chn {a b c : Expr} {ca cb cc : E} {o o2 : CmpOp} {p : Pos} (hu : X.A.units + 65 < cLine) (ha : PE X a (liftO X.K (opd ca (wX M ca).e))) (hb : PE X b (liftO X.K (opd cb (wX M cb).e))) (hc : PE X c (liftO X.K (opd cc (wX M cc).e))) (hm : behindInMarks o2 c = false) : GE X M (.Compare a [o, o2] [b, c] p) (.chn o o2 ca cb cc) := by
  obtain ⟨r, h1, h2⟩ := cmpD_ok X hu o
  obtain ⟨r', h1', h2'⟩ := cmpD_ok X hu o2
  exact ⟨pe_mono (pe_chain h1 h1' ha hb hc hm) fun σ H Q => lift_chn h2 h2', pt_mono (pt_chain h1 h1' ha hb hc hm) (tTest_bool fun σ H Q => lift_chn h2 h2')⟩
/-! ### lists of expressions -/
theorem ga_vl {f : Expr → E} (h : ∀ e, GE X M e (f e)) : ∀ (es : List Expr), es.all notStar = true → PA X es (liftV X.K (wVl M (es.map f)))
  | [], _ => pa_mono pa_nil fun σ H Q => lift_vnil
  | e :: es, hs => by
    rw [List.all_cons, Bool.and_eq_true] at hs
    exact pa_mono (pa_cons (h e).v (ga_vl h es hs.2) (starEach_cons hs.1)) fun σ H Q => lift_vcons
theorem ga_ol {n : Nat} {C : CC} (ok : XOk C M X) (h : ∀ e, GE X M e (cE n C e)) : ∀ (es : List Expr), es.all notStar = true → PA X es (liftA X.K (wOl M (es.map (cE n C))))
  | [], _ => pa_mono pa_nil fun σ H Q => lift_nil
  | e :: es, hs => by
    rw [List.all_cons, Bool.and_eq_true] at hs
    exact pa_mono (pa_cons (ge_op ok (h e)) (ga_ol ok h es hs.2) (starEach_cons hs.1)) fun σ H Q => lift_cons
theorem cArg_cases {n : Nat} {C : CC} (e : Expr) : cArg (cE n C) C e = cE n C e ∨ ∃ x p i, e = .Name x p ∧ slot C x = some i ∧ cArg (cE n C) C e = .bor i := by
  cases e with
  | Name x p =>
    show (match slot C x with
    | some i => if decide (i ∈ C.brw) then E.bor i else cE n C (.Name x p)
    | none => cE n C (.Name x p)) = _ ∨ ∃ y q i, _ ∧ _ ∧ (match slot C x with
    | some i => if decide (i ∈ C.brw) then E.bor i else cE n C (.Name x p)
    | none => cE n C (.Name x p)) = _
    cases hs : slot C x with
    | none => exact .inl rfl
    | some i =>
      by_cases hb : decide (i ∈ C.brw) = true
      · exact .inr ⟨x, p, i, rfl, hs, by show (if _ then _ else _) = _; rw [if_pos hb]⟩
      · exact .inl (by show (if _ then _ else _) = _; rw [if_neg hb])
  | _ => exact .inl rfl
theorem ga_av1 {n : Nat} {C : CC} (ok : XOk C M X) (h : ∀ e, GE X M e (cE n C e)) (e : Expr) (es : List E) : ∃ te, PE X e te ∧ ∀ σ H Q, liftAv X.K (wAv M (cArg (cE n C) C e :: es)) σ H Q → tCons te (liftAv X.K (wAv M es)) σ H Q := by
  rcases cArg_cases (n := n) (C := C) e with q | ⟨x, p, i, rfl, hs, q⟩
  · rw [q]
    have eq : ∀ c : E, (∀ i, c ≠ .bor i) → wAv M (c :: es) = wAvVal (wX M c).e (wAv M es) := fun c hc => by
      cases c <;> first | rfl | exact absurd rfl (hc _)
    refine ⟨_, (h e).v, fun σ H Q w => ?_⟩
    rw [eq _ (cE_head n C e).1] at w
    exact lift_avVal w
  · rw [q]
    exact ⟨_, pe_slot ok hs, fun σ H Q w => lift_avBor w⟩
theorem ga_av {n : Nat} {C : CC} (ok : XOk C M X) (h : ∀ e, GE X M e (cE n C e)) : ∀ (es : List Expr), es.all notStar = true → PA X es (liftAv X.K (wAv M (es.map (cArg (cE n C) C))))
  | [], _ => pa_mono pa_nil fun σ H Q => lift_avNil
  | e :: es, hs => by
    rw [List.all_cons, Bool.and_eq_true] at hs
    obtain ⟨te, h1, h2⟩ := ga_av1 ok h e (es.map (cArg (cE n C) C))
    exact pa_mono (pa_cons h1 (ga_av ok h es hs.2) (starEach_cons hs.1)) h2
theorem gk_av {n : Nat} {C : CC} (ok : XOk C M X) (h : ∀ e, GE X M e (cE n C e)) : ∀ (kws : List Keyword), PK X kws (liftAv X.K (wAv M (kws.map fun kw => cArg (cE n C) C kw.value)))
  | [] => pk_mono pk_nil fun σ H Q => lift_avNil
  | ⟨nm, e, kp⟩ :: es => by
    obtain ⟨te, h1, h2⟩ := ga_av1 ok h e (es.map fun kw => cArg (cE n C) C kw.value)
    exact pk_mono (pk_cons h1 (gk_av ok h es)) h2
theorem ge_list {f : Expr → E} (h : ∀ e, GE X M e (f e)) {es : List Expr} {p : Pos} (hs : es.all notStar = true) : GE X M (.List es p) (.lst (es.map f)) :=
  ge_val rfl (pe_mono (pe_lst (ga_vl h es hs)) fun σ H Q => lift_lst) fun _ => rfl
theorem ge_tuple {f : Expr → E} (h : ∀ e, GE X M e (f e)) {es : List Expr} {k : Nat} {p : Pos} (hs : es.all notStar = true) : GE X M (.Tuple es k p) (.tup (es.map f)) :=
  ge_val rfl (pe_mono (pe_tup (ga_vl h es hs)) fun σ H Q => lift_tup) fun _ => rfl
/-! ### items and slices -/
theorem ge_idx {a b : Expr} {ca cb : E} {p : Pos} (ha : PE X a (liftO X.K (opd ca (wX M ca).e))) (hb : PE X b (liftO X.K (opd cb (wX M cb).e))) (hp : PlainIx b) : GE X M (.Subscript a b p) (.idx ca cb) :=
  ge_val rfl (pe_mono (pe_ix ix_seq ha hb hp) fun σ H Q => lift_op idxD_ok) fun _ => rfl
def liftP (K : PySem.W.Frag) (w : DSt → (Option Int → DSt → Prop) → Prop) : TO := fun σ H Q => ∃ B G s R, StRep K B G s σ H ∧ w s R ∧ ∀ o s' G' H', StRep K B G' s' σ H' → Same G G' → R o s' → Q o H'
theorem lift_part {K : PySem.W.Frag} {w : DO} {σ : L2.St} {H : Hp} {Q : Option Int → Hp → Prop} (h : liftP K (fun s R => w s fun o s1 => match resO s1 o with
    | some (.int i) => R (some i) s1
    | _ => False) σ H Q) : tPart (liftO K w) σ H Q := by
  obtain ⟨B, G, s, R, S, w, k⟩ := h
  refine ⟨B, G, s, _, S, w, fun o s1 G1 H1 x S1 e1 r1 w1 => ?_⟩
  split at w1
  · rename_i i q
    have t : x = .int i := r1.top S1 q
    exact ⟨i, t, k _ s1 G1 H1 S1 e1 w1⟩
  · cases w1
theorem po_bad {w : DO} : PO X none (liftP X.K (partE .bad w)) := po_mono po_none fun σ H Q ⟨B, G, s, R, S, a, k⟩ => k none s G H S (Same.refl _) a
theorem po_e {e : Expr} {c : E} (hb : c ≠ .bad) (he : PE X e (liftO X.K (opd c (wX M c).e))) : PO X (some e) (liftP X.K (partE c (opd c (wX M c).e))) := by
  have eq : ∀ c : E, c ≠ .bad → ∀ w, partE c w = fun s R => w s fun o s1 => match resO s1 o with
    | some (.int i) => R (some i) s1
    | _ => False := fun c hc w => by
      cases c <;> first | rfl | exact absurd rfl hc
  rw [eq c hb]
  exact po_mono (po_some he) fun σ H Q => lift_part
theorem lift_slc {K : PySem.W.Frag} {a : DO} {lo hi : DSt → (Option Int → DSt → Prop) → Prop} {σ : L2.St} {H : Hp} {Q : VK} (h : lift K (wSlc a lo hi) σ H Q) : tSl (rSlAll K) (liftO K a) (liftP K lo) (liftP K hi) σ H Q := by
  obtain ⟨B, G, s, R, S, w, k⟩ := h
  refine ⟨B, G, s, _, S, w, fun o s1 G1 H1 x S1 e1 r1 w1 => ?_⟩
  refine ⟨B, G1, s1, _, S1, w1, fun l s2 G2 H2 S2 e2 w2 => ?_⟩
  refine ⟨B, G2, s2, _, S2, w2, fun u s3 G3 H3 S3 e3 w3 => ?_⟩
  split at w3
  · rename_i d q
    refine slcD_ok S3.gH ((r1.mono (e2.trans e3)).top S3 q) w3 fun res v G' H' gr nr q => ?_
    exact k res s3 G' H' v (S3.grow gr) ((e1.trans e2).trans (e3.trans gr.g)) (S3.res gr nr) q
  · cases w3
theorem ge_slc {n : Nat} {C : CC} (ok : XOk C M X) (h : ∀ e, GE X M e (cE n C e)) {a : Expr} {lo hi : Option Expr} {p p2 : Pos} : GE X M (.Subscript a (.Slice lo hi none p2) p) (slcE (cE n C a) (lo.map (cE n C)) (hi.map (cE n C))) := by
  have nb : ∀ c : E, isBad c = false → c ≠ .bad := fun c hc e => by rw [e] at hc; cases hc
  have go : ∀ (cl ch : E), PO X lo (liftP X.K (partE cl (opd cl (wX M cl).e))) → PO X hi (liftP X.K (partE ch (opd ch (wX M ch).e))) → GE X M (.Subscript a (.Slice lo hi none p2) p) (.slc (cE n C a) cl ch) := fun cl ch hl hh =>
    ge_val rfl (pe_mono (pe_slice sl_all (ge_op ok (h a)) hl hh) fun σ H Q => lift_slc) fun _ => rfl
  cases lo with
  | none =>
    cases hi with
    | none => exact go .bad .bad po_bad po_bad
    | some u =>
      show GE X M _ (if isBad (cE n C u) then .bad else _)
      split
      · exact ge_bad
      · rename_i q
        exact go _ _ po_bad (po_e (nb _ (by simpa using q)) (ge_op ok (h u)))
  | some l =>
    cases hi with
    | none =>
      show GE X M _ (if isBad (cE n C l) then .bad else _)
      split
      · exact ge_bad
      · rename_i q
        exact go _ _ (po_e (nb _ (by simpa using q)) (ge_op ok (h l))) po_bad
    | some u =>
      show GE X M _ (if isBad (cE n C l) || isBad (cE n C u) then .bad else _)
      split
      · exact ge_bad
      · rename_i q
        rw [Bool.not_eq_true, Bool.or_eq_false_iff] at q
        exact go _ _ (po_e (nb _ q.1) (ge_op ok (h l))) (po_e (nb _ q.2) (ge_op ok (h u)))
end
end DL

namespace DL
open PySem PySem.Spec PyProof.Rows L2
section
variable {K : PySem.W.Frag}
theorem wback_val {d : D} {as : List Av} {args : List Sl} {s : DSt} : wback (.val d :: as) args s = wback as (args.drop 1) s := by
  cases args with
  | nil => cases as with
    | nil => rfl
    | cons a as => cases a <;> rfl
  | cons a args => rfl
theorem AReps.app {G : Hp} {σ : L2.St} : ∀ {as bs : List Av} {vs us : List V}, AReps K G σ as vs → AReps K G σ bs us → AReps K G σ (as ++ bs) (vs ++ us)
  | [], bs, vs, us, h, h2 => by rw [show vs = [] from h]; exact h2
  | a :: as, bs, vs, us, h, h2 => by
    obtain ⟨v, r, rfl, h3, h4⟩ := h
    exact ⟨v, r ++ us, rfl, h3, AReps.app h4 h2⟩
theorem lift_call2 {n : Nat} {F : FS} {w1 w2 : DAv} {σ : L2.St} {H : Hp} {Q : VK} (h : lift K (wCall2 n F w1 w2) σ H Q) : (fun (σ : L2.St) (H : Hp) (Q : VK) => liftAv K w1 σ H fun vs H1 => vs.length = n ∧ liftAv K w2 σ H1 fun zs H2 => spOf K F (vs ++ zs) H2 Q E0) σ H Q := by
  obtain ⟨B, G, s, R, S, hw, k⟩ := h
  refine ⟨B, G, s, _, S, hw, fun as s1 G1 H1 vs S1 sm1 r1 q1 => ?_⟩
  refine ⟨by rw [r1.length]; exact q1.1, B, G1, s1, _, S1, q1.2, fun bs s2 G2 H2 us S2 sm2 r2 q2 => ?_⟩
  exact call_sp S2 ((r1.mono sm2).app r2) q2.1 q2.2 fun r args' G' H' v S' sm rr q => k r _ G' H' v S' ((sm1.trans sm2).trans sm) rr q
theorem fld_none {f : Str} : ∀ {ns : List Str} {ds : List D} {fs : List (Str × V)} {G : Hp}, fs.map (·.1) = ns → Reps K G ds (fs.map (·.2)) → fldD f ns ds = none → fs.lookup f = none
  | [], ds, fs, G, e, r, h => by
    cases fs with
    | nil => rfl
    | cons q fs => cases e
  | n :: ns, [], fs, G, e, r, h => by
    cases fs with
    | nil => rfl
    | cons q fs => cases r
  | n :: ns, x :: ds, fs, G, e, r, h => by
    cases fs with
    | nil => rfl
    | cons q fs =>
      obtain ⟨m, v⟩ := q
      obtain ⟨v', r', e1, r1, r2⟩ := r
      cases e1
      have e1 : m = n := (List.cons.inj e).1
      have e2 : fs.map (·.1) = ns := (List.cons.inj e).2
      subst e1
      unfold fldD at h
      by_cases c : f = m
      · rw [if_pos c] at h; cases h
      · rw [if_neg c] at h
        have ih := fld_none e2 r2 h
        rw [List.lookup_cons]
        have : (f == m) = false := by simpa using c
        rw [this]
        exact ih
theorem lift_cmeth {ms : Str → Option FS} {m : Str} {o : DE} {w1 w2 : DAv} {σ : L2.St} {H : Hp} {Q : VK} (h : lift K (wCMeth ms m o w1 w2) σ H Q) :
    (fun (σ : L2.St) (H : Hp) (Q : VK) => lift K o σ H fun x H0 => ∃ C a dx fs F, x = .ref a ∧ H0 a = some (.ins (He.ga K C) dx fs) ∧ fs.lookup m = none ∧ ms C = some F ∧ liftAv K w1 σ H0 fun vs H1 => liftAv K w2 σ H1 fun zs H2 => spOf K F (x :: (vs ++ zs)) H2 Q E0) σ H Q := by
  obtain ⟨B, G, s, R, S, hw, k⟩ := h
  refine ⟨B, G, s, _, S, hw, fun r s0 G0 H0 x S0 sm0 r0 q0 => ?_⟩
  obtain ⟨G0', S0', smf, rf⟩ := RRep.freeze S0 r0
  split at q0
  · rename_i C ns vs hr
    rw [hr] at rf
    split at q0
    · rename_i F hF
      obtain ⟨a, dx, fs, e1, e2, e3, e4⟩ := rf
      refine ⟨C, a, dx, fs, F, e1, S0'.gH _ _ e2, fld_none e3 e4 q0.1, hF, ?_⟩
      refine ⟨B, G0', s0, _, S0', q0.2, fun as s1 G1 H1 vs S1 sm1 r1 q1 => ?_⟩
      refine ⟨B, G1, s1, _, S1, q1, fun bs s2 G2 H2 us S2 sm2 r2 q2 => ?_⟩
      have rx : Rep K G2 (.ins C ns _) x := Rep.mono (sm1.trans sm2) _ _ (show Rep K G0' (.ins C ns _) x from ⟨a, dx, fs, e1, e2, e3, e4⟩)
      refine call_sp (as := .val (.ins C ns _) :: (as ++ bs)) S2 ⟨x, vs ++ us, rfl, rx, (r1.mono sm2).app r2⟩ q2.1 q2.2 fun r args' G' H' v S' sm rr q => ?_
      rw [wback_val] at S' rr
      exact k r _ G' H' v S' (((sm0.trans smf).trans (sm1.trans sm2)).trans sm) rr q
    · cases q0
  · cases q0
theorem strsOf_ok : ∀ {ds : List D} {bs : List Str}, strsOf ds = some bs → ds = bs.map .str
  | [], bs, h => by cases h; rfl
  | d :: ds, bs, h => by
    cases d with
    | str b =>
      obtain ⟨ys, e, rfl⟩ := map_some (show (strsOf ds).map (b :: ·) = some bs from h)
      rw [strsOf_ok e]
      rfl
    | _ => cases h
theorem strsOf_map : ∀ (bs : List Str), strsOf (bs.map .str) = some bs
  | [] => rfl
  | b :: bs => by show (strsOf (bs.map .str)).map (b :: ·) = _; rw [strsOf_map bs]; rfl
theorem lift_join {o a : DE} {σ : L2.St} {H : Hp} {Q : VK} (h : lift K (wMeth "join" o (wVCons a wVNil)) σ H Q) : tM1 (fun x xs H Q => ∃ a p ys, x = V.str a ∧ xs = [V.ref p] ∧ (SqL K H p (List.map V.str ys) ∨ SqT K H p (List.map V.str ys)) ∧ List.sum (List.map (fun x => Str.length x) ys) + List.length ys * Str.length a ≤ 16777216 ∧ Q (V.str (Txt.join a ys)) H) (lift K o) (lift K a) σ H Q := by
  obtain ⟨B, G, s, R, S, hw, k⟩ := h
  refine ⟨B, G, s, _, S, hw, fun r s0 G0 H0 x S0 sm0 r0 q0 => ?_⟩
  obtain ⟨G0', S0', smf, rf⟩ := RRep.freeze S0 r0
  split at q0
  · rename_i z hr
    rw [hr] at rf
    refine ⟨⟨z, rf⟩, B, G0', s0, _, S0', q0, fun r1 s1 G1 H1 y S1 sm1 rr1 q1 => ?_⟩
    obtain ⟨G1', S1', smf1, rf1⟩ := RRep.freeze S1 rr1
    have q2 : (match (seqOf (frz r1)).bind strsOf with
      | some ys => (ys.map (·.length)).sum + ys.length * z.length ≤ 16777216 ∧ R (.sh (.str (Txt.join z ys))) s1
      | none => False) := q1
    split at q2
    · rename_i ys hys
      rw [Option.bind_eq_some_iff] at hys
      obtain ⟨ds, e1, e2⟩ := hys
      obtain ⟨p, vs, e3, e4, e5⟩ := seqOf_ok S1'.gH e1 (Rep.top S1'.gH rf1)
      rw [strsOf_ok e2] at e5
      have e6 : vs = ys.map V.str := by
        have : ∀ {ys : List Str} {vs : List V}, Reps K G1' (ys.map D.str) vs → vs = ys.map V.str := fun {ys} => by
          induction ys with
          | nil => intro vs h; exact h
          | cons y ys ih => intro vs h; obtain ⟨v, r, rfl, h1, h2⟩ := h; rw [ih h2, show v = V.str y from h1]; rfl
        exact this e5
      refine ⟨z, p, ys, rf, by rw [e3], by rw [← e6]; exact e4, q2.1, ?_⟩
      exact k (.sh (.str (Txt.join z ys))) s1 G1' H1 _ S1' ((sm0.trans smf).trans (sm1.trans smf1)) (show Rep K G1' (.str (Txt.join z ys)) _ from rfl) q2.2
    · cases q2
  · cases q0
end
section
variable {X : Cx} {M : Sem}
/-! ### method calls on a list, on a text, on an object -/
theorem liftO_mono {K : PySem.W.Frag} {w : DO} {σ : L2.St} {H : Hp} {Q Q' : VK} (h : liftO K w σ H Q) (m : ∀ v H, Q v H → Q' v H) : liftO K w σ H Q' := by
  obtain ⟨B, G, s, R, S, a, k⟩ := h
  exact ⟨B, G, s, R, S, a, fun o s' G' H' v S' e r q => m _ _ (k o s' G' H' v S' e r q)⟩
theorem any_nil {env : Env} {pos : Pos} {es : List Expr} (h : es.all notStar = true) : (backTo pos (starEach es env)).any (·.1) = false := starEach_none h
theorem all_not {env : Env} {pos : Pos} : ∀ {es : List Expr}, es.all notStar = true → (backTo pos (starEach es env)).all (fun x => !x.1) = true
  | [], _ => rfl
  | e :: es, h => by
    rw [List.all_cons, Bool.and_eq_true] at h
    rw [starEach_cons h.1]
    show (true && (backTo pos (starEach es env)).all (fun x => !x.1)) = true
    rw [Bool.true_and]
    exact all_not h.2
theorem few_ok {env : Env} {pos : Pos} {e : Expr} {es : List Expr} (h : (e :: es).all notStar = true) (hl : es.length < 20) : ((((backTo pos (starEach (e :: es) env)).all fun x => !x.1) && (backToKw pos (keywordEach [] env)).all fun x => x.1.isSome) && decide ((e :: es).length + ([] : List Keyword).length + (if ([] : List Keyword).isEmpty = true then 0 else 1) < 30)) = true := by
  rw [all_not h]
  show (true && true && decide ((e :: es).length + 0 + 0 < 30)) = true
  rw [List.length_cons]
  have : es.length + 1 + 0 + 0 < 30 := by omega
  simp [this]
theorem bm0_of {K : PySem.W.Frag} {T : String} {r : V → List V → Hp → VK → Prop} {to : TE} (hto : ∀ σ H (Q Q' : VK), (∀ v H, Q v H → Q' v H) → to σ H Q → to σ H Q') {σ : L2.St} {H : Hp} {Q : VK} (h : tBM K T r to (liftV K wVNil) σ H Q) : tBM0 K T r to σ H Q :=
  hto _ _ _ _ (fun v H h => ⟨h.1, by have := lift_vnil h.2; exact this⟩) h
theorem ge_mutL {C : CC} (ok : XOk C M X) {f : Expr → E} (h : ∀ e, GE X M e (f e)) {x m : Str} {i : Nat} {p apos pos : Pos} {es : List Expr} (hs : slot C x = some i) (hl : lineOk apos pos = true) (hm : muName m es.length = true) (hn : es.all notStar = true) : GE X M (.Call (.Attribute (.Name x p) m apos) es [] pos) (.mut m i (es.map f)) := by
  refine ge_val rfl ?_ fun _ => rfl
  have hx := pe_slot (p := p) ok hs
  rw [List.length_map]
  have hv := ga_vl h es hn
  have c : (m = "append" ∧ es.length = 1) ∨ ((m = "insert" ∧ es.length = 2) ∨ (m = "pop" ∧ es.length ≤ 1)) := by
    unfold muName at hm
    rw [Bool.or_eq_true, Bool.or_eq_true, Bool.and_eq_true, Bool.and_eq_true, Bool.and_eq_true] at hm
    simp only [decide_eq_true_eq] at hm
    exact or_assoc.mp hm
  rcases c with ⟨rfl, hc⟩ | ⟨rfl, hc⟩ | ⟨rfl, hc⟩
  · match es, hc with
    | [e], _ => exact pe_mono (pe_bm F.plainAttrs_list F.slot_list_append F.type_list_append mt_append hx hv rfl (few_ok hn (by show 0 < 20; decide)) hl (starEach_cons (by rw [List.all_cons, Bool.and_eq_true] at hn; exact hn.1)) rfl) fun σ H Q => lift_mut mAppend_ok
  · match es, hc with
    | [e, e2], _ =>
      have hn' := hn
      rw [List.all_cons, Bool.and_eq_true] at hn'
      exact pe_mono (pe_bm F.plainAttrs_list F.slot_list_insert F.type_list_insert mt_insert hx hv rfl (few_ok hn (by show 1 < 20; decide)) hl (starEach_cons hn'.1) (any_nil hn'.2)) fun σ H Q => lift_mut mInsert_ok
  · match es, hc with
    | [], _ => exact pe_mono (pe_bm0 F.plainAttrs_list F.slot_list_pop F.type_list_pop mt_pop hx rfl hl) fun σ H Q l => bm0_of (fun σ H Q Q' m ⟨v, e, q⟩ => ⟨v, e, m _ _ q⟩) (lift_mut mPop_ok l)
    | [e], _ => exact pe_mono (pe_bm F.plainAttrs_list F.slot_list_pop F.type_list_pop mt_popAt hx hv rfl (few_ok hn (by show 0 < 20; decide)) hl (starEach_cons (by rw [List.all_cons, Bool.and_eq_true] at hn; exact hn.1)) rfl) fun σ H Q => lift_mut mPopAt_ok
theorem ge_cMeth {f : Expr → E} (h : ∀ e, GE X M e (f e)) {o : Expr} {m : Str} {apos pos : Pos} {es : List Expr} (hb : baseOk o = true) (hl : lineOk apos pos = true) (hn : es.all notStar = true) : GE X M (.Call (.Attribute o m apos) es [] pos) (cMeth f m o es) := by
  unfold cMeth
  split
  · rename_i a
    split
    · rename_i e
      subst e
      rw [List.all_cons, Bool.and_eq_true] at hn
      exact ge_val rfl (pe_mono (pe_join (h o).v (h a).v (starEach_cons hn.1) (base_ok hb) hl) fun σ H Q => lift_join) fun _ => rfl
    · exact ge_bad
  · exact ge_bad
/-! ### type names -/
theorem ty_pe {C : CC} (ok : XOk C M X) {e : Expr} {b : String} (h : tyName C e = some b) : PE X e (tC (.ty b)) ∧ tyKnown b = true ∧ notStar e = true ∧ ∃ x p, e = .Name x p := by
  cases e with
  | Name x p =>
    change (if (glB C x && decide (x ∈ C.fr)) = true then _ else none) = some b at h
    by_cases c : (glB C x && decide (x ∈ C.fr)) = true
    · rw [if_pos c] at h
      rw [Bool.and_eq_true] at c
      obtain ⟨hg, hn⟩ := ok.gl c.1
      have hm : X.mg x = none := ok.tab.fr x (of_decide_eq_true c.2)
      have go : ∀ {n : String}, bootBuiltins x = some (.type n) → PE X (.Name x p) (tC (.ty n)) := fun hv => pe_bltn hg hm hv rfl (okName_ok hn).2.2 (okName_ok hn).1
      by_cases c1 : x = "list"
      · subst c1; rw [if_pos rfl] at h; cases h; exact ⟨go rfl, rfl, rfl, _, _, rfl⟩
      rw [if_neg c1] at h
      by_cases c1 : x = "tuple"
      · subst c1; rw [if_pos rfl] at h; cases h; exact ⟨go rfl, rfl, rfl, _, _, rfl⟩
      rw [if_neg c1] at h
      by_cases c1 : x = "dict"
      · subst c1; rw [if_pos rfl] at h; cases h; exact ⟨go rfl, rfl, rfl, _, _, rfl⟩
      rw [if_neg c1] at h
      by_cases c1 : x = "int"
      · subst c1; rw [if_pos rfl] at h; cases h; exact ⟨go rfl, rfl, rfl, _, _, rfl⟩
      rw [if_neg c1] at h
      by_cases c1 : x = "bool"
      · subst c1; rw [if_pos rfl] at h; cases h; exact ⟨go rfl, rfl, rfl, _, _, rfl⟩
      rw [if_neg c1] at h
      by_cases c1 : x = "str"
      · subst c1; rw [if_pos rfl] at h; cases h; exact ⟨go rfl, rfl, rfl, _, _, rfl⟩
      rw [if_neg c1] at h
      cases h
    · rw [if_neg c] at h; cases h
  | _ => cases h
def tTys : List String → TA
  | [] => tNil
  | b :: bs => tCons (tC (.ty b)) (tTys bs)
theorem tTys_eq : ∀ (bs : List String) (σ : L2.St) (H : Hp) (Q : List V → Hp → Prop), Q (bs.map V.ty) H → tTys bs σ H Q
  | [], σ, H, Q, q => q
  | b :: bs, σ, H, Q, q => tTys_eq bs σ H (fun vs H2 => Q (V.ty b :: vs) H2) q
theorem tys_pa {C : CC} (ok : XOk C M X) : ∀ {es : List Expr} {bs : List String}, tyNames C es = some bs → PA X es (tTys bs) ∧ bs.all tyKnown = true
  | [], bs, h => by cases h; exact ⟨pa_nil, rfl⟩
  | e :: es, bs, h => by
    unfold tyNames at h
    split at h
    · rename_i t ts h1 h2
      cases h
      obtain ⟨a1, a2, a3, _⟩ := ty_pe ok h1
      obtain ⟨b1, b2⟩ := tys_pa ok h2
      exact ⟨pa_cons a1 b1 (starEach_cons a3), by rw [List.all_cons, a2, b2]; rfl⟩
    · cases h
theorem tys_len {C : CC} : ∀ {es : List Expr} {bs : List String}, tyNames C es = some bs → es.length = bs.length
  | [], bs, h => by cases h; rfl
  | e :: es, bs, h => by
    unfold tyNames at h
    split at h
    · rename_i t ts h1 h2
      cases h
      exact congrArg Nat.succ (tys_len h2)
    · cases h
theorem ge_isi {C : CC} (ok : XOk C M X) {a t : Expr} {ca : E} {ts : List String} {p pos : Pos} (hg : Gl X "isinstance") (hm : X.mg "isinstance" = none) (ha : PE X a (liftO X.K (opd ca (wX M ca).e))) (hn : [a, t].all notStar = true) (ht : tyArg C t = some ts) : GE X M (.Call (.Name "isinstance" p) [a, t] [] pos) (.isi ca ts) := by
  have hn' := hn
  rw [List.all_cons, Bool.and_eq_true] at hn'
  have hn2 := hn'.2
  rw [List.all_cons, Bool.and_eq_true] at hn2
  refine ge_val rfl ?_ fun _ => rfl
  have one : ∀ {b : String}, tyName C t = some b → PE X (.Call (.Name "isinstance" p) [a, t] [] pos) (lift X.K (wUn (isiD [b]) (opd ca (wX M ca).e))) := fun hb => by
    obtain ⟨b1, b2, _⟩ := ty_pe ok hb
    refine pe_mono (pe_callB call_isi hg hm rfl (pa_cons ha (pa_cons b1 pa_nil (starEach_cons hn2.1)) (starEach_cons hn'.1)) (by decide) (by decide) (starEach_cons hn'.1) (any_nil hn'.2)) fun σ H Q l => ?_
    exact lift_un (isiD_ok1 b2) l
  cases t with
  | Tuple es k tp =>
    have ht' : (if decide (es.length ≤ 1000) = true then tyNames C es else none) = some ts := ht
    by_cases hle : decide (es.length ≤ 1000) = true
    rotate_left
    · rw [if_neg hle] at ht'; cases ht'
    rw [if_pos hle] at ht'
    have hl : ts.length ≤ 1000 := by rw [← tys_len ht']; exact of_decide_eq_true hle
    obtain ⟨b1, b2⟩ := tys_pa ok ht'
    refine pe_mono (pe_callB call_isiT hg hm rfl (pa_cons ha (pa_cons (pe_tup b1) pa_nil (starEach_cons hn2.1)) (starEach_cons hn'.1)) (by decide) (by decide) (starEach_cons hn'.1) (any_nil hn'.2)) fun σ H Q l => ?_
    have sl : ts.length ≤ sizeLine := by have : (1000 : Nat) ≤ sizeLine := by decide
                                         omega
    have l2 := lift_un (isiD_okT b2 sl) l
    exact liftO_mono l2 fun x H1 h => tTys_eq ts σ H1 _ ⟨h.1, fun q n => h.2 q n⟩
  | Name x q =>
    obtain ⟨b, e, rfl⟩ := map_some (show (tyName C (.Name x q)).map (fun t => [t]) = some ts from ht)
    exact one e
  | _ => cases ht
end
end DL

namespace DL
open PySem PySem.Spec PyProof.Rows L2
section
variable {X : Cx} {M : Sem} {C : CC}
/-! ### targets -/
theorem assign_len {env : Env} : ∀ {es : List Expr}, es.all notStar = true → (assignEach es env).length = es.length
  | [], _ => rfl
  | e :: es, h => by
    rw [List.all_cons, Bool.and_eq_true] at h
    rw [assignEach_cons h.1]
    exact congrArg Nat.succ (assign_len h.2)
theorem assign_find {env : Env} : ∀ {es : List Expr}, es.all notStar = true → (assignEach es env).findIdx? (·.1) = none
  | [], _ => rfl
  | e :: es, h => by
    rw [List.all_cons, Bool.and_eq_true] at h
    rw [assignEach_cons h.1, List.findIdx?_cons]
    show (if false = true then _ else _) = _
    rw [if_neg (fun h => by cases h), assign_find h.2]
    rfl
theorem assign_map {env : Env} {e : Expr} {es : List Expr} (h : notStar e = true) : (assignEach (e :: es) env).map (·.2) = assign e env :: (assignEach es env).map (·.2) := by
  rw [assignEach_cons h]
  rfl
theorem tg_ok (ok : XOk C M X) : ∀ (n : Nat) (e : Expr) (t : Tg), sizeOf e < n → cTg C e = some t → PG X e (gT X.K t) ∧ notStar e = true
  | 0, e, t, hs, h => absurd hs (Nat.not_lt_zero _)
  | n + 1, e, t, hs, h => by
    have tgs : ∀ (es : List Expr) (ts : List Tg), sizeOf es < n → cTgs C es = some ts → PGs X es (gTs X.K ts) ∧ es.all notStar = true ∧ es.length = ts.length := fun es => by
      induction es with
      | nil => intro ts _ h; cases h; exact ⟨pgs_nil, rfl, rfl⟩
      | cons e es ih =>
        intro ts hs h
        have hs' : 1 + sizeOf e + sizeOf es < n := hs
        change (match cTg C e, cTgs C es with
          | some t, some ts => some (t :: ts)
          | _, _ => none) = some ts at h
        split at h
        · rename_i t ts' h1 h2
          cases h
          obtain ⟨a1, a2⟩ := tg_ok ok n e t (by omega) h1
          obtain ⟨b1, b2, b3⟩ := ih ts' (by omega) h2
          exact ⟨pgs_cons a1 b1 (assign_map a2), by rw [List.all_cons, a2, b2]; rfl, congrArg Nat.succ b3⟩
        · cases h
    cases e with
    | Name x p =>
      obtain ⟨i, e1, rfl⟩ := map_some (show (slotSt C x).map Tg.nm = some t from h)
      obtain ⟨h1, h2, h3⟩ := ok.slotSt e1
      exact ⟨pg_name ok.nd' h1 h2 h3, rfl⟩
    | Tuple es k p =>
      obtain ⟨ts, e1, rfl⟩ := map_some (show (cTgs C es).map Tg.tp = some t from h)
      have hs' := hs
      simp only [Expr.Tuple.sizeOf_spec] at hs'
      obtain ⟨b1, b2, b3⟩ := tgs es ts (by omega) e1
      exact ⟨pg_tup (n := ts.length) ok.calm b1 (by rw [assign_len b2, b3]) (assign_find b2), rfl⟩
    | _ => cases h
theorem pg_tg (ok : XOk C M X) {e : Expr} {t : Tg} (h : cTg C e = some t) : PG X e (gT X.K t) := (tg_ok ok _ e t (Nat.lt_succ_self _) h).1
/-! ### what is iterated -/
theorem it_seq {c : E} (h1 : ∀ es, c ≠ .rng es) (h2 : ∀ es, c ≠ .zip es) : (wX M c).i = wSeq' (wX M c).e := by
  cases c with
  | lc elt tg it ifs own =>
    match ifs with
    | [] => rfl
    | [c] => rfl
    | a :: b :: l => rfl
  | rng es => exact absurd rfl (h1 _)
  | zip es => exact absurd rfl (h2 _)
  | _ => rfl
theorem lc_eq {elt it : E} {tg : Tg} {ifs : List E} {own : List Nat} : wX M (.lc elt tg it ifs own) = ⟨(wX M (.lc elt tg it ifs own)).e, wTru (asOp (wX M (.lc elt tg it ifs own)).e), wSeq' (wX M (.lc elt tg it ifs own)).e⟩ := by
  match ifs with
  | [] => rfl
  | [c] => rfl
  | a :: b :: l => rfl
theorem gi_ok {n : Nat} (ok : XOk C M X) (h : ∀ e, GE X M e (cE n C e)) {tg : Expr} (e : Expr) : PI X tg e (liftI X.K (wX M (cIt (cE n C) C (isTup tg) e)).i) := by
  have seq : ∀ e, PI X tg e (liftI X.K (wX M (cE n C e)).i) := fun e => by
    rw [it_seq (cE_it n C e).1 (cE_it n C e).2]
    exact pi_mono (pi_seq (h e).v) fun σ H Q => lift_seq
  have no : PI X tg e (liftI X.K (wX M .bad).i) := pi_no (lift_noI fun s R w => w)
  unfold cIt
  split
  · rename_i x p args pos
    split
    · rename_i c
      rw [Bool.and_eq_true, Bool.and_eq_true] at c
      obtain ⟨hg, hn⟩ := ok.gl c.1
      have hm : X.mg x = none := ok.tab.fr x (of_decide_eq_true c.2.1)
      split
      · rename_i ex
        subst ex
        split
        · rename_i cl
          match args, c.2.2, cl with
          | [], _, cl => cases cl
          | [a], hs, _ =>
            exact pi_mono (pi_range1 hg hm (ga_ol ok h [a] hs) (starEach_cons (by rw [List.all_cons, Bool.and_eq_true] at hs; exact hs.1))) fun σ H Q l => lift_rng1 (wos := wOl M (List.map (cE n C) [a])) l
          | [a, b], hs, _ =>
            have hs' := hs
            rw [List.all_cons, Bool.and_eq_true] at hs'
            have hs2 := hs'.2
            rw [List.all_cons, Bool.and_eq_true] at hs2
            exact pi_mono (pi_range2 hg hm (ga_ol ok h [a, b] hs) (by rw [starEach_cons hs'.1, starEach_cons hs2.1]; rfl) (starEach_cons hs2.1)) fun σ H Q l => lift_rng2 (wos := wOl M (List.map (cE n C) [a, b])) l
          | a :: b :: d :: es, _, cl =>
            have : ¬ ((decide ((a :: b :: d :: es).length = 1) || decide ((a :: b :: d :: es).length = 2)) = true) := by simp
            exact absurd cl this
        · exact no
      · split
        · rename_i ex
          subst ex
          split
          · rename_i cl
            rw [Bool.and_eq_true] at cl
            have l2 : args.length = 2 := of_decide_eq_true cl.2
            match args, c.2.2, l2 with
            | [a, b], hs, _ =>
              have hs' := hs
              rw [List.all_cons, Bool.and_eq_true] at hs'
              cases tg with
              | Tuple es k tp => exact pi_mono (RZ.pi_zipA hg hm (ga_vl h [a, b] hs) (starEach_cons hs'.1) (any_nil hs'.2)) fun σ H Q l => lift_zip (w := wVl M (List.map (cE n C) [a, b])) l
              | _ => cases cl.1
          · exact no
        · exact seq _
    · exact seq _
  · exact seq _
/-! ### comprehensions -/
theorem fold_ok {e : Expr} {env : Env} (h : isSet e = false) : ∀ x, foldedSetIterable e env x = pure x := by
  cases e <;> first | (intro x; rfl) | cases h
theorem relabel_eq (scope : Scope) (env : Env) : relabel scope env = relS scope env.scope := rfl
theorem blk_ok (ok : XOk C M X) {scope : Scope} {own : List (Str × Nat)} (hk : BlkOk C.N C.sc scope own) (s : Shared) (H : Hp) (Cc : Addr) (cl : List (Str × Addr)) (fp : List Addr) : XOk (C.blk scope) M (X.blk s H scope (compEnvC scope cl Cc X.env) fp) where
  sc := by
    show relabel scope X.env = relS scope C.sc
    rw [relabel_eq, ok.sc]
  N := ok.N
  nd := ok.nd
  calm := ok.calm
  xe := rfl
  room := ok.room
  fn := fun x h => by
    unfold canSt at h
    rw [Bool.and_eq_true] at h
    have h2 : (decide (scope.names.lookup x = some .cell) || decide ((relS scope C.sc).names.lookup x = some .local)) = true := h.2
    rw [Bool.or_eq_true] at h2
    rcases h2 with h2 | h2
    · left
      show (scope.names.lookup x == some .cell) = true
      rw [of_decide_eq_true h2]
      rfl
    · right
      show (relabel scope X.env).names.lookup x = some .local
      rw [relabel_eq, ok.sc]
      exact of_decide_eq_true h2
  tab := ⟨ok.tab.call, ok.tab.bi, ok.tab.con, ok.tab.meth, ok.tab.attr, ok.tab.fr⟩
  kp := ok.kp
  fk := hk.kind
theorem pts_mono {es : List Expr} {t t' : TT} (h : PTs X es t) (m : ∀ σ H Q, t' σ H Q → t σ H Q) : PTs X es t' := ⟨fun pins s σ H Q I q => h.run pins s σ H Q I (m σ H Q q)⟩
structure LcOk (n : Nat) (C : CC) (M : Sem) (X : Cx) (elt tg it : Expr) (ifs : List Expr) (scope : Scope) (t : Tg) (tt : DT) : Prop where
  pi : PI X tg it (liftI X.K (wX M (cIt (cE n C) C (isTup tg) it)).i)
  blk : BlkOk X.N X.env.scope scope (ownOf C.N scope)
  pg : ∀ (s : Shared) (H : Hp) (Cc : Addr) (cl : List (Str × Addr)) (fp : List Addr), PG (X.blk s H scope (compEnvC scope cl Cc X.env) fp) tg (gT X.K t)
  pt : ∀ (s : Shared) (H : Hp) (Cc : Addr) (cl : List (Str × Addr)) (fp : List Addr), PTs (X.blk s H scope (compEnvC scope cl Cc X.env) fp) ifs (liftT X.K tt)
  pe : ∀ (s : Shared) (H : Hp) (Cc : Addr) (cl : List (Str × Addr)) (fp : List Addr), PE (X.blk s H scope (compEnvC scope cl Cc X.env) fp) elt (lift X.K (wX M (cE n (C.blk scope) elt)).e)
  fold : ∀ x, foldedSetIterable it X.env x = pure x
  own : ∀ j ∈ slotsTg t, j ∈ (ownOf C.N scope).map (·.2)
  eq : (wX M (.lc (cE n (C.blk scope) elt) t (cIt (cE n C) C (isTup tg) it) (ifs.map (cE n (C.blk scope))) ((ownOf C.N scope).map (·.2)))).e = wLc (wX M (cIt (cE n C) C (isTup tg) it)).i t ((ownOf C.N scope).map (·.2)) tt (wX M (cE n (C.blk scope) elt)).e
theorem lc_ok {n : Nat} (ih : ∀ C M X, XOk C M X → ∀ e, GE X M e (cE n C e)) (ok : XOk C M X) {elt tg it : Expr} {ifs : List Expr} {scope : Scope} {t : Tg} (ht : cTg (C.blk scope) tg = some t)
    (hc : ((blkC C.N C.sc scope (ownOf C.N scope) && (slotsTg t).all fun j => decide (j ∈ (ownOf C.N scope).map (·.2))) && (!isSet it && decide (ifs.length ≤ 1))) = true) : ∃ tt, LcOk n C M X elt tg it ifs scope t tt := by
  rw [Bool.and_eq_true, Bool.and_eq_true, Bool.and_eq_true] at hc
  obtain ⟨⟨hb, hsl⟩, hset, hl⟩ := hc
  have hl := of_decide_eq_true hl
  have bo : BlkOk C.N C.sc scope (ownOf C.N scope) := blkOk_by hb
  have bx : ∀ (s : Shared) (H : Hp) (Cc : Addr) (cl : List (Str × Addr)) (fp : List Addr), XOk (C.blk scope) M (X.blk s H scope (compEnvC scope cl Cc X.env) fp) := fun s H Cc cl fp => blk_ok ok bo s H Cc cl fp
  have base : ∀ tt, (∀ (s : Shared) (H : Hp) (Cc : Addr) (cl : List (Str × Addr)) (fp : List Addr), PTs (X.blk s H scope (compEnvC scope cl Cc X.env) fp) ifs (liftT X.K tt)) → (wX M (.lc (cE n (C.blk scope) elt) t (cIt (cE n C) C (isTup tg) it) (ifs.map (cE n (C.blk scope))) ((ownOf C.N scope).map (·.2)))).e = wLc (wX M (cIt (cE n C) C (isTup tg) it)).i t ((ownOf C.N scope).map (·.2)) tt (wX M (cE n (C.blk scope) elt)).e → LcOk n C M X elt tg it ifs scope t tt := fun tt hpt heq =>
    { pi := gi_ok ok (ih C M X ok) it, blk := by rw [ok.N, ok.sc]; exact bo, pg := fun s H Cc cl fp => pg_tg (bx s H Cc cl fp) ht, pt := hpt, pe := fun s H Cc cl fp => (ih _ M _ (bx s H Cc cl fp) elt).v
      fold := fold_ok (by simpa using hset)
      own := fun j hj => of_decide_eq_true (List.all_eq_true.mp hsl j hj)
      eq := heq }
  match ifs, hl, base with
  | [], _, base => exact ⟨_, base (fun s Q => Q true s) (fun s H Cc cl fp => pts_mono pts_nil fun σ H Q ⟨B, G, s, R, S, a, k⟩ => k true s G H S (.refl _) a) rfl⟩
  | [c], _, base => exact ⟨_, base _ (fun s H Cc cl fp => pts_one (ih _ M _ (bx s H Cc cl fp) c).t) rfl⟩
  | a :: b :: l, hl, _ => exact absurd hl (by simp)
theorem LcOk.pe' {n : Nat} (ok : XOk C M X) {elt tg it : Expr} {ifs : List Expr} {scope : Scope} {t : Tg} {tt : DT} {p : Pos} (h : LcOk n C M X elt tg it ifs scope t tt) : PE X (.ListComp elt [⟨tg, it, ifs, 0⟩] scope p) (lift X.K (wX M (.lc (cE n (C.blk scope) elt) t (cIt (cE n C) C (isTup tg) it) (ifs.map (cE n (C.blk scope))) ((ownOf C.N scope).map (·.2)))).e) := by
  rw [h.eq]
  exact pe_mono (pe_lc ok.calm ok.nd' h.pi h.blk h.pg h.pt h.pe h.fold) fun σ H Q => lift_lc h.own
/-! ### calls -/
theorem ge_call {n : Nat} (ok : XOk C M X) (h : ∀ e, GE X M e (cE n C e)) {x : Str} {k : Nat} {p pos : Pos} {es : List Expr} {kws : List Keyword} {ks : List Str} (hg : Gl X x) (hok : okName x = true) (hn : es.all notStar = true) (hks : kwNames kws = some ks)
    (hk : C.calls[k]? = some (x, es.length, ks)) : GE X M (.Call (.Name x p) es kws pos) (.call k (es.map (cArg (cE n C) C)) (kws.map fun kw => cArg (cE n C) C kw.value)) :=
  ge_val (w := wCall2 (es.map (cArg (cE n C) C)).length (M.fs k) (wAv M (es.map (cArg (cE n C) C))) (wAv M (kws.map fun kw => cArg (cE n C) C kw.value))) rfl (by rw [List.length_map]; exact ok.tab.call k x _ ks hk X rfl rfl rfl rfl rfl ok.calm ok.room hg hok es kws p pos _ _ rfl hks hn (fun e => by rw [e]; rfl) (fun e => by rw [e]; rfl) (ga_av ok h es hn) (gk_av ok h kws)) fun _ => rfl
theorem ge_bi {n : Nat} (ok : XOk C M X) (h : ∀ e, GE X M e (cE n C e)) {x : Str} {k : Nat} {p pos : Pos} {e : Expr} {es : List Expr} (hg : Gl X x) (hn : (e :: es).all notStar = true)
    (hk : C.bis[k]? = some (x, (e :: es).length)) : GE X M (.Call (.Name x p) (e :: es) [] pos) (.bi k ((e :: es).map (cE n C))) := by
  obtain ⟨r, h1, h2⟩ := ok.tab.bi k x _ hk
  exact ge_val rfl (pe_mono (h2 X rfl rfl rfl rfl rfl ok.calm ok.room hg e es p pos _ rfl hn (ga_ol ok h (e :: es) hn)) fun σ H Q => lift_fn h1) fun _ => rfl
theorem ge_cm {n : Nat} (ok : XOk C M X) (h : ∀ e, GE X M e (cE n C e)) {m : Str} {k : Nat} {apos pos : Pos} {o : Expr} {es : List Expr} {kws : List Keyword} {ks : List Str} (hb : baseOk o = true) (hl : lineOk apos pos = true) (hn : es.all notStar = true) (hks : kwNames kws = some ks)
    (hk : C.meths[k]? = some (m, es.length, ks)) (hf : es.length + kws.length < 25) : GE X M (.Call (.Attribute o m apos) es kws pos) (.cmeth k m (cE n C o) (es.map (cArg (cE n C) C)) (kws.map fun kw => cArg (cE n C) C kw.value)) :=
  ge_val rfl (ok.tab.meth k m _ ks hk X rfl rfl rfl rfl rfl ok.calm ok.room o es kws apos pos _ _ _ hb hl rfl hks hf hn (fun e => by rw [e]; rfl) (fun e => by rw [e]; rfl) (h o).v (ga_av ok h es hn) (gk_av ok h kws)) fun _ => rfl
theorem ge_attr {o : Expr} {co : E} {f : Str} {p : Pos} (ok : XOk C M X) (hb : baseOk o = true) (ho : PE X o (liftO X.K (opd co (wX M co).e))) : GE X M (.Attribute o f p) (.attr co f) :=
  ge_val rfl (pe_mono (pe_fld ho (base_ok hb)) fun σ H Q => lift_un (attrD_ok ok.tab.attr f)) fun _ => rfl
theorem ge_callX {n : Nat} (ok : XOk C M X) (h : ∀ e, GE X M e (cE n C e)) {f : Expr} {args : List Expr} {kws : List Keyword} {pos : Pos} : GE X M (.Call f args kws pos) (cE (n + 1) C (.Call f args kws pos)) := by
  unfold cE
  simp only
  split
  · rename_i hn
    split
    · rename_i x p
      split
      · rename_i g
        obtain ⟨hg, hok⟩ := ok.gl g
        split
        · rename_i ks hks
          split
          · rename_i ex
            subst ex
            split
            · rename_i a t
              split
              · rename_i hf
                have hm := ok.tab.fr _ (of_decide_eq_true hf)
                have hk0 : kws = [] := by
                  cases kws with
                  | nil => rfl
                  | cons k ks =>
                    unfold kwNames at hks
                    split at hks <;> cases hks
                subst hk0
                split
                · rename_i ts ht
                  exact ge_isi ok hg hm (ge_op ok (h a)) hn ht
                · exact ge_bad
              · exact ge_bad
            · exact ge_bad
          · split
            · rename_i k hk
              obtain ⟨y, h1, h2⟩ := ixP_ok hk
              have e3 := of_decide_eq_true h2
              subst e3
              exact ge_call ok h hg hok hn hks h1
            · split
              · rename_i a as k hk hnone
                have hk0 : kws = [] := by
                  cases kws with
                  | nil => rfl
                  | cons k ks =>
                    unfold kwNames at hks
                    split at hks <;> cases hks
                subst hk0
                obtain ⟨y, h1, h2⟩ := ixP_ok hk
                have e3 := of_decide_eq_true h2
                subst e3
                exact ge_bi ok h hg hn h1
              · exact ge_bad
        · exact ge_bad
      · exact ge_bad
    · rename_i o m apos
      split
      · rename_i c
        rw [Bool.and_eq_true] at c
        split
        · rename_i ks hks
          split
          · rename_i k hk
            obtain ⟨y, h1, h2⟩ := ixP_ok hk
            have e3 := of_decide_eq_true h2
            subst e3
            split
            · rename_i hf
              exact ge_cm ok h c.1 c.2 hn hks h1 (of_decide_eq_true hf)
            · exact ge_bad
          · split
            · rename_i e0
              subst e0
              have hk0 : kws = [] := by
                cases kws with
                | nil => rfl
                | cons k ks =>
                  unfold kwNames at hks
                  split at hks <;> cases hks
              subst hk0
              split
              · rename_i x p
                split
                · rename_i i hs
                  split
                  · rename_i hm
                    exact ge_mutL ok h hs c.2 hm hn
                  · exact ge_cMeth h c.1 c.2 hn
                · exact ge_cMeth h c.1 c.2 hn
              · exact ge_cMeth h c.1 c.2 hn
            · exact ge_bad
        · exact ge_bad
      · exact ge_bad
    · exact ge_bad
  · exact ge_bad
/-! ### dict displays -/
theorem lift_mono {K : PySem.W.Frag} {w : DE} {σ : L2.St} {H : Hp} {Q Q' : VK} (h : lift K w σ H Q) (m : ∀ v H, Q v H → Q' v H) : lift K w σ H Q' := by
  obtain ⟨B, G, s, R, S, a, k⟩ := h
  exact ⟨B, G, s, R, S, a, fun o s' G' H' v S' e r q => m _ _ (k o s' G' H' v S' e r q)⟩
def trsOf (K : PySem.W.Frag) (M : Sem) : List E → List (TE × TE)
  | k :: v :: r => (lift K (wX M k).e, lift K (wX M v).e) :: trsOf K M r
  | _ => []
def flatV2 : List (V × V) → List V
  | [] => []
  | p :: ps => p.1 :: p.2 :: flatV2 ps
theorem lift_pairs {K : PySem.W.Frag} {M : Sem} {σ : L2.St} : ∀ {f : Expr → E} {ks : List (Option Expr)} {vs : List Expr} {es : List E} {H : Hp} {Q : List V → Hp → Prop}, dctE f ks vs = some es → liftV K (wVl M es) σ H Q → tPairs (trsOf K M es) σ H fun ps H2 => Q (flatV2 ps) H2
  | f, [], [], es, H, Q, h, l => by cases h; exact lift_vnil l
  | f, some k :: ks, v :: vs, es, H, Q, h, l => by
    obtain ⟨es', h1, rfl⟩ := map_some (show (dctE f ks vs).map (fun l => f k :: f v :: l) = some es from h)
    have l1 := lift_vcons (a := (wX M (f k)).e) (b := wVl M (f v :: es')) l
    refine lift_mono l1 fun x H1 l2 => ?_
    have l3 := lift_vcons (a := (wX M (f v)).e) (b := wVl M es') l2
    refine lift_mono l3 fun y H2 l4 => ?_
    exact lift_pairs h1 l4
  | f, none :: ks, vs, es, H, Q, h, l => by cases vs <;> cases h
  | f, [], v :: vs, es, H, Q, h, l => by cases h
  | f, some k :: ks, [], es, H, Q, h, l => by cases h
theorem trs_mono {K : PySem.W.Frag} {M : Sem} : ∀ {es : List E} {σ : L2.St} {H : Hp} {Q Q' : List (V × V) → Hp → Prop}, tPairs (trsOf K M es) σ H Q → (∀ ps H, Q ps H → Q' ps H) → tPairs (trsOf K M es) σ H Q'
  | [], σ, H, Q, Q', h, m => m _ _ h
  | [e], σ, H, Q, Q', h, m => m _ _ h
  | k :: v :: r, σ, H, Q, Q', h, m => lift_mono h fun x H1 h1 => lift_mono h1 fun y H2 h2 => trs_mono (es := r) h2 fun ps H3 q => m _ _ q
theorem pps_ok {M : Sem} {X : Cx} {f : Expr → E} (h : ∀ e, GE X M e (f e)) {pos : Pos} : ∀ {ks : List (Option Expr)} {vs : List Expr} {es : List E}, dctE f ks vs = some es → PPs X pos ks vs (trsOf X.K M es) ∧ ks.all (·.isSome) = true ∧ ks.length = vs.length
  | [], [], es, q => by cases q; exact ⟨pps_nil, rfl, rfl⟩
  | some k :: ks, v :: vs, es, q => by
    obtain ⟨es', h1, rfl⟩ := map_some (show (dctE f ks vs).map (fun l => f k :: f v :: l) = some es from q)
    obtain ⟨a, b, c⟩ := pps_ok h h1
    exact ⟨pps_cons (h k).v (h v).v a, by rw [List.all_cons, b]; rfl, congrArg Nat.succ c⟩
  | none :: ks, vs, es, q => by cases vs <;> cases q
  | [], v :: vs, es, q => by cases q
  | some k :: ks, [], es, q => by cases q
theorem keyD_ok {K : PySem.W.Frag} {G : Hp} {d : D} {k : Key} {v : V} (h : keyD d = some k) (r : Rep K G d v) : v = kV k := by
  unfold keyD at h
  split at h
  · cases h; exact r
  · cases h; exact r
  · cases h
theorem pairD_ok {K : PySem.W.Frag} {G : Hp} : ∀ {ps : List (V × V)} {ds : List D} {qs : List (Key × D)}, Reps K G ds (flatV2 ps) → pairD ds = some qs → ∃ kvs : List (Key × V), ps = kvs.map (fun kv => (kV kv.1, kv.2)) ∧ kvs.map (·.1) = qs.map (·.1) ∧ Reps K G (qs.map (·.2)) (kvs.map (·.2))
  | [], ds, qs, r, h => by
    cases ds with
    | nil => cases h; exact ⟨[], rfl, rfl, rfl⟩
    | cons d ds => obtain ⟨v, r', e, _⟩ := r; cases e
  | p :: ps, ds, qs, r, h => by
    cases ds with
    | nil => cases r
    | cons d ds =>
      cases ds with
      | nil => cases h
      | cons d2 ds =>
        obtain ⟨v, r', e, r1, v2, r2', e2, r2, r3⟩ := r
        cases e
        cases e2
        change (match keyD d, pairD ds with
          | some k, some ps => some ((k, d2) :: ps)
          | _, _ => none) = some qs at h
        split at h
        · rename_i k qs' hk hq
          cases h
          obtain ⟨kvs, rfl, e4, e5⟩ := pairD_ok r3 hq
          exact ⟨(k, p.2) :: kvs, by rw [List.map_cons, ← keyD_ok hk r1], by rw [List.map_cons, List.map_cons, e4], ⟨p.2, _, rfl, r2, e5⟩⟩
        · cases h
theorem putK_new {k : Key} {v : V} {kvs : List (Key × V)} (h : k ∉ kvs.map (·.1)) : putK kvs k v = kvs ++ [(k, v)] := by
  unfold putK
  rw [if_neg]
  intro q
  rw [List.any_eq_true] at q
  obtain ⟨p, h1, h2⟩ := q
  exact h (List.mem_map.mpr ⟨p, h1, of_decide_eq_true h2⟩)
theorem mergeK_new : ∀ {more kvs : List (Key × V)}, ((kvs ++ more).map (·.1)).Nodup → mergeK kvs more = kvs ++ more
  | [], kvs, h => by rw [List.append_nil]; rfl
  | p :: more, kvs, h => by
    have e : kvs ++ p :: more = (kvs ++ [p]) ++ more := by rw [List.append_assoc]; rfl
    show mergeK (putK kvs p.1 p.2) more = _
    have hp : p.1 ∉ kvs.map (·.1) := by
      rw [List.map_append, List.map_cons] at h
      intro hm
      exact (List.nodup_append.mp h).2.2 _ hm _ (.head _) rfl
    rw [putK_new hp, e]
    rw [e] at h
    exact mergeK_new h
theorem lift_dct {K : PySem.W.Frag} {M : Sem} {f : Expr → E} {ks : List (Option Expr)} {vs : List Expr} {es : List E} (hd : dctE f ks vs = some es) {σ : L2.St} {H : Hp} {Q : VK} (h : lift K (wDct (wVl M es)) σ H Q) : tDisp (trsOf K M es) σ H Q := by
  intro p hp
  obtain ⟨B, G, s, R, S, w, k⟩ := h
  have hB : B p = none := by
    cases q : B p with
    | none => rfl
    | some o => rw [S.bH _ _ q] at hp; cases hp
  have l : liftV K (wVl M es) σ (upd H p (.dK [])) fun us H2 => ∀ ps, us = flatV2 ps → H2 p = some (.dK []) ∧ ∃ kvs : List (Key × V), ps = kvs.map (fun kv => (kV kv.1, kv.2)) ∧ kvs.length ≤ 15 ∧ Q (.ref p) (upd H2 p (.dK (mergeK [] kvs))) := by
    refine ⟨_, G, s, _, S.guard (o := .dK []) hp, w, fun ds s1 G1 H1 us S1 sm r q ps e => ?_⟩
    subst e
    have hH : H1 p = some (.dK []) := S1.bH _ _ upd_same
    split at q
    · rename_i qs hq
      obtain ⟨kvs, rfl, e1, e2⟩ := pairD_ok r hq
      have ln : kvs.length = qs.length := by have := congrArg List.length e1; rwa [List.length_map, List.length_map] at this
      have nd : (kvs.map (·.1)).Nodup := by rw [e1]; exact q.1.2
      have mk : mergeK [] kvs = kvs := (mergeK_new (kvs := []) (by rw [List.nil_append]; exact nd)).trans (List.nil_append _)
      refine ⟨hH, kvs, rfl, by rw [ln]; exact q.1.1, ?_⟩
      rw [mk]
      have S2 := (S1.bupd (o' := .dK kvs))
      have S3 := S2.unguard hB
      refine k (.ow (.dic (qs.map (·.1)) (qs.map (·.2)))) s1 G1 _ (.ref p) S3 sm ⟨p, .dK kvs, rfl, S1.dj p _ upd_same, hB, upd_same, ⟨p, kvs, rfl, upd_same, e1, e2⟩, rfl, fun i e hi he => ?_⟩ q.2
      obtain ⟨a, o, h1, h2, h3, _⟩ := S2.ow i e hi
      rw [he] at h1
      cases h1
      rw [upd_same] at h3
      cases h3
    · cases q
  have l2 := lift_pairs hd l
  exact trs_mono l2 fun ps H2 q => q ps rfl
theorem lift_dct0 {K : PySem.W.Frag} {M : Sem} {σ : L2.St} {H : Hp} {Q : VK} (h : lift K (wDct (wVl M [])) σ H Q) : tDNewK σ H Q := by
  intro p hp
  obtain ⟨B, G, s, R, S, w, k⟩ := h
  have hB : B p = none := by
    cases q : B p with
    | none => rfl
    | some o => rw [S.bH _ _ q] at hp; cases hp
  have hw : R (.ow (.dic [] [])) s := w.2
  have g : Gr G H G (upd H p (.dK [])) := Gr.laid S.gH hp
  exact k _ s G _ (.ref p) (S.grow g) (.refl _) (S.res g (show NRep K G (upd H p (.dK [])) H (.ow (.dic [] [])) (.ref p) from ⟨p, .dK [], rfl, hp, free_of S.gH hp, upd_same, ⟨p, [], rfl, upd_same, rfl, rfl⟩, rfl⟩)) hw
theorem ge_dct {M : Sem} {X : Cx} {f : Expr → E} (h : ∀ e, GE X M e (f e)) {ks : List (Option Expr)} {vs : List Expr} {es : List E} {p : Pos} (he : dctE f ks vs = some es) (hl : ks.length ≤ 15) : GE X M (.Dict ks vs p) (.dct es []) := by
  obtain ⟨a, b, c⟩ := pps_ok h (pos := p) he
  cases ks with
  | nil =>
    cases vs with
    | nil => cases he; exact ge_val rfl (pe_mono pe_dnewK fun σ H Q => lift_dct0) fun _ => rfl
    | cons v vs => cases c
  | cons k ks => exact ge_val rfl (pe_mono (pe_disp a b c (fun e => by cases e) hl) fun σ H Q => lift_dct he) fun _ => rfl
theorem plainIx {b : Expr} (h : isSlice b = false) : PlainIx b := by
  cases b <;> first | (intro o i; rfl) | cases h
end
/-- an expression does what its compact form says -/
theorem soundE : ∀ (n : Nat) (C : CC) (M : Sem) (X : Cx), XOk C M X → ∀ e, GE X M e (cE n C e)
  | 0, C, M, X, ok, e => ge_bad
  | n + 1, C, M, X, ok, e => by
    have ih := soundE n
    have h := ih C M X ok
    cases e with
    | Constant c k p => exact ge_const (n := n) (C := C)
    | Name x p => exact ge_name ok
    | BinOp a o b p => exact ge_bin (ge_op ok (h a)) (ge_op ok (h b))
    | UnaryOp o a p =>
      cases o with
      | USub => exact ge_neg (ge_op ok (h a))
      | Not => exact ge_nt (h a)
      | _ => exact ge_bad
    | BoolOp o es p =>
      match o, es with
      | .And, [] => exact ge_bad
      | .And, [_] => exact ge_bad
      | .And, a :: b :: es => exact ge_and h
      | .Or, [] => exact ge_bad
      | .Or, [_] => exact ge_bad
      | .Or, a :: b :: es => exact ge_or h
    | IfExp t a b p => exact ge_ite (h t) (h a) (h b)
    | Compare a os bs p =>
      unfold cE
      split
      all_goals try (exact ge_bad)
      all_goals (rename_i heq; cases heq)
      · split
        · exact ge_bad
        · rename_i hm
          exact ge_cmp ok.units (ge_op ok (h _)) (ge_op ok (h _)) (by simpa using hm)
      · split
        · exact ge_bad
        · rename_i hm
          exact ge_chn ok.units (ge_op ok (h _)) (ge_op ok (h _)) (ge_op ok (h _)) (by simpa using hm)
    | List es p =>
      show GE X M _ (if es.all notStar then _ else _)
      split
      · rename_i hs; exact ge_list h hs
      · exact ge_bad
    | Tuple es k p =>
      show GE X M _ (if es.all notStar then _ else _)
      split
      · rename_i hs; exact ge_tuple h hs
      · exact ge_bad
    | Dict ks vs p =>
      show GE X M _ (match dctE (cE n C) ks vs with
        | some es => if decide (ks.length ≤ 15) then .dct es [] else .bad
        | none => .bad)
      split
      · rename_i es he
        split
        · rename_i hl
          exact ge_dct h he (of_decide_eq_true hl)
        · exact ge_bad
      · exact ge_bad
    | Subscript a i p =>
      by_cases hi : isSlice i = true
      · cases i with
        | Slice lo hi st p2 =>
          cases st with
          | none => exact ge_slc ok h
          | some s => exact ge_bad
        | _ => cases hi
      · have hi' : isSlice i = false := by simpa using hi
        have eq : cE (n + 1) C (.Subscript a i p) = .idx (cE n C a) (cE n C i) := by
          cases i <;> first | rfl | cases hi'
        rw [eq]
        exact ge_idx (ge_op ok (h a)) (ge_op ok (h i)) (plainIx hi')
    | ListComp elt gs scope p =>
      unfold cE
      split
      all_goals try (exact ge_bad)
      all_goals (rename_i heq; cases heq)
      split
      · rename_i t ht
        split
        · rename_i hc
          obtain ⟨tt, hl⟩ := lc_ok ih ok (elt := elt) ht hc
          exact ge_val lc_eq (hl.pe' ok) fun _ => rfl
        · exact ge_bad
      · exact ge_bad
    | Call f args kws pos => exact ge_callX ok h
    | Attribute o f p =>
      show GE X M _ (if baseOk o then _ else _)
      split
      · rename_i hb; exact ge_attr ok hb (ge_op ok (h o))
      · exact ge_bad
    | _ => exact ge_bad
end DL

namespace DL
open PySem PySem.Spec PyProof.Rows L2
section
variable {X : Cx} {M : Sem} {C : CC}
theorem ps_bad {st : Stmt} : PS X st (liftS X.K C.kp (wS M .bad)) := ⟨fun pins s σ H D I q => by obtain ⟨B, G, s, N, pn, S, a, b, w, k⟩ := q; cases w⟩
theorem disj_ok {l k : List Nat} (h : disj l k = true) : ∀ j ∈ l, j ∉ k := fun j hj => of_decide_eq_true (List.all_eq_true.mp h j hj)
theorem swap_ok {env : Env} {ts vs : List Expr} {k k2 : Nat} {p p2 : Pos} {r : Option (List Str)} (bk : env.blockKind = .function) (h : swapQ env.scope ts vs = some r) : swappedStores [.Tuple ts k p] (.Tuple vs k2 p2) env = pure r := by
  unfold swapQ at h
  unfold swappedStores
  have b0 : (env.blockKind != .function) = false := by rw [bk]; rfl
  dsimp only at h ⊢
  rw [b0, Bool.or_false]
  by_cases c1 : (!(ts.length == 2 || ts.length == 3) || vs.length != ts.length) = true
  · rw [if_pos c1] at h ⊢; cases h; rfl
  rw [if_neg c1] at h ⊢
  split at h
  · rename_i c2; cases h; exact if_pos c2
  · rename_i c2
    refine (if_neg c2).trans ?_
    split at h
    · rename_i c3
      cases h
      exact if_pos c3
    · rename_i c3
      refine (if_neg c3).trans ?_
      split at h
      · rename_i c4; cases h; exact if_pos c4
      · rename_i c4
        refine (if_neg c4).trans ?_
        split at h
        · cases h
        · rename_i c5
          cases h
          exact if_neg c5
theorem sw_set {v : Expr} {t : Option Expr} {l : Nat} {env : Env} (h : isComp v = false) : swapsWith v t l env = pure false := by
  cases v <;> first | rfl | cases h
theorem sw_tup {v : Expr} {ts : List Expr} {k : Nat} {p : Pos} {l : Nat} {env : Env} : swapsWithSole [.Tuple ts k p] v l env = pure false := by
  cases v <;> rfl
theorem sw_sub {v o i : Expr} {p : Pos} {l : Nat} {env : Env} : swapsWithSole [.Subscript o i p] v l env = pure false := by
  cases v <;> rfl
theorem ss_sub {v o i : Expr} {p : Pos} {env : Env} : swappedStores [.Subscript o i p] v env = pure none := by
  cases v <;> rfl
theorem as_sub {o i : Expr} {p : Pos} {env : Env} (h : isSlice i = false) : ∀ v, assign (Expr.Subscript o i p) env v = (do let ov ← holding [v] (eval o env); let iv ← holding [v, ov] (eval i env); standAt p; holding [v, ov, iv] (setItem ov iv v); PySem.release [v, ov, iv] []) := by
  cases i <;> first | (intro v; rfl) | cases h
theorem XOk.bk (ok : XOk C M X) : X.env.blockKind = .function := by
  unfold Env.blockKind
  rw [ok.sc, ok.fk]
  rfl
/-- a name is stored -/
theorem gs_set {n : Nat} (ok : XOk C M X) {x : Str} {px pos : Pos} {v : Expr} {i : Nat} (hs : slotSt C x = some i) (hd : disj [i] C.kp = true)
    (hv : (!isComp v || isLC v) = true) : PS X (.Assign [.Name x px] v pos) (liftS X.K C.kp (wS M (.set i (cE (n + 1) C v)))) := by
  obtain ⟨h1, h2, h3⟩ := ok.slotSt hs
  have hi := disj_ok hd i (.head _)
  have hE := (soundE (n + 1) C M X ok v).v
  by_cases hc : isComp v = true
  · rw [hc] at hv
    have hv' : isLC v = true := hv
    unfold isLC at hv'
    split at hv'
    · rename_i elt tg it ifs scope lp
      cases hb : (X.env.blockKind == .function && X.env.kindOf x == some .local && px.line == lp.line && !scope.names.any fun (n, k) => n == x && (k == .local || k == .cell)) with
      | false =>
        have e : swapsWith (.ListComp elt [⟨tg, it, ifs, 0⟩] scope lp) (some (.Name x px)) pos.line X.env = pure false := by
          rw [← hb]; rfl
        exact ps_mono (ps_set ok.nd' h1 h2 hE e h3) fun D σ H => lift_set hi
      | true =>
        have e : swapsWith (.ListComp elt [⟨tg, it, ifs, 0⟩] scope lp) (some (.Name x px)) pos.line X.env = pure true := by
          rw [← hb]; rfl
        have hl : X.env.scope.names.lookup x = some .local := by
          rw [Bool.and_eq_true, Bool.and_eq_true, Bool.and_eq_true] at hb
          have := hb.1.1.2
          exact eq_of_beq this
        show PS X _ (liftS X.K C.kp (wSet i (wX M (cE (n + 1) C (.ListComp elt [⟨tg, it, ifs, 0⟩] scope lp))).e))
        have eq : ∀ ce, cE (n + 1) C (.ListComp elt [⟨tg, it, ifs, 0⟩] scope lp) = ce → PS X (.Assign [.Name x px] (.ListComp elt [⟨tg, it, ifs, 0⟩] scope lp) pos) (liftS X.K C.kp (wSet i (wX M ce).e)) := fun ce hce => by
          unfold cE at hce
          simp only at hce
          split at hce
          · rename_i t ht
            split at hce
            · rename_i hcc
              subst hce
              obtain ⟨tt, L⟩ := lc_ok (fun C M X ok => soundE n C M X ok) ok (elt := elt) ht hcc
              rw [L.eq]
              exact ps_mono (ps_setLc ok.calm ok.nd' h1 hl e L.pi L.blk L.pg L.pt L.pe L.fold) fun D σ H l => lift_lc L.own (lift_set hi l)
            · subst hce
              exact ⟨fun pins s σ H D I q => by obtain ⟨B, G, s, N, pn, S, a, b, w, k⟩ := q; cases w⟩
          · subst hce
            exact ⟨fun pins s σ H D I q => by obtain ⟨B, G, s, N, pn, S, a, b, w, k⟩ := q; cases w⟩
        exact eq _ rfl
    · cases hv'
  · have hc' : isComp v = false := by simpa using hc
    exact ps_mono (ps_set ok.nd' h1 h2 hE (sw_set hc') h3) fun D σ H => lift_set hi
end
theorem pss_map {X : Cx} {M : Sem} {C : CC} {f : Stmt → S} (h : ∀ st, PS X st (liftS X.K C.kp (wS M (f st)))) : ∀ (b : List Stmt), PSs X b (liftS X.K C.kp (wSs M (b.map f)))
  | [] => pss_mono pss_nil fun D σ H => lift_next
  | st :: b => pss_mono (pss_cons (h st) (pss_map h b)) fun D σ H => lift_sq
/-- a statement does what its compact form says -/
theorem soundS : ∀ (n : Nat) (C : CC) (M : Sem) (X : Cx), XOk C M X → ∀ st, PS X st (liftS X.K C.kp (wS M (cS n C st)))
  | 0, C, M, X, ok, st => ps_bad
  | n + 1, C, M, X, ok, st => by
    have ih := soundS n C M X ok
    have h := soundE n C M X ok
    cases st with
    | Expr e p =>
      have gen : ∀ e, PS X (.Expr e p) (liftS X.K C.kp (wS M (if isComp e then .bad else .expr (cE n C e)))) := fun e => by
        split
        · exact ps_bad
        · rename_i hc
          exact ps_mono (ps_expr (h e).v (sw_set (by simpa using hc))) fun D σ H => lift_drop
      unfold cS
      simp only
      split
      · exact ps_mono ps_doc fun D σ H => lift_next
      · exact gen e
    | Return e p =>
      cases e with
      | none => exact ps_mono ps_retN fun D σ H => lift_retN
      | some e =>
        unfold cS
        simp only
        split
        · rename_i i hi
          obtain ⟨x, q, rfl, hs⟩ := (cE_head n C e).2 i hi
          refine ps_mono (ps_ret (pe_slot ok hs)) fun D σ H l => lift_retV (K := X.K) (kp := C.kp) ?_
          rw [← ok.kp]
          rw [← ok.kp] at l
          exact l
        · exact ps_mono (ps_ret (h e).v) fun D σ H => lift_ret
    | Pass p => exact ps_mono ps_pass fun D σ H => lift_next
    | Break p => exact ps_mono ps_break fun D σ H => lift_brk
    | Continue p => exact ps_mono ps_continue fun D σ H => lift_cnt
    | If c a b p => exact ps_mono (ps_if (h c).t (pss_map ih a) (pss_map ih b)) fun D σ H => lift_if
    | For tg it body oe p =>
      cases oe with
      | cons a l => exact ps_bad
      | nil =>
        unfold cS
        simp only
        split
        · rename_i t ht
          split
          · rename_i hc
            rw [Bool.and_eq_true] at hc
            exact ps_mono (ps_for ok.own ok.calm (gi_ok ok h it) (pg_tg ok ht) (pss_map ih body) (fold_ok (by simpa using hc.2))) fun D σ H => lift_for (disj_ok hc.1)
          · exact ps_bad
        · exact ps_bad
    | While c body oe p =>
      cases oe with
      | cons a l => exact ps_bad
      | nil => exact ps_mono (ps_while ok.own (h c).t (pss_map ih body)) fun D σ H => lift_while
    | Assign tgs v p =>
      match tgs with
      | [] => exact ps_bad
      | a :: b :: l => exact ps_bad
      | [tg] =>
        have unp : ∀ {ts : List Expr} {k : Nat} {tp : Pos} {t : Tg}, cTg C (.Tuple ts k tp) = some t → disj (slotsTg t) C.kp = true → swappedStores [.Tuple ts k tp] v X.env = pure none → PS X (.Assign [.Tuple ts k tp] v p) (liftS X.K C.kp (wS M (.unp t (cE n C v)))) := fun ht hd hsw =>
          ps_mono (ps_asg (h v).v (pg_tg ok ht) sw_tup hsw rfl) fun D σ H => lift_unp (disj_ok hd)
        cases tg with
        | Name x px =>
          unfold cS
          simp only
          split
          · rename_i i hs
            split
            · rename_i hc
              rw [Bool.and_eq_true] at hc
              cases n with
              | zero => exact ps_mono (ps_never) fun D σ H l => by obtain ⟨B, G, s, N, pn, S, a, b, w, k⟩ := l; cases w
              | succ n => exact gs_set ok hs hc.1 hc.2
            · exact ps_bad
          · exact ps_bad
        | Tuple ts k tp =>
          unfold cS
          simp only
          split
          · rename_i vs k2 vp
            split
            · rename_i hq
              have sw : swappedStores [.Tuple ts k tp] (.Tuple vs k2 vp) X.env = pure none := swap_ok ok.bk (by rw [ok.sc]; exact hq)
              split
              · rename_i t ht
                split
                · rename_i hd; exact unp ht hd sw
                · exact ps_bad
              · exact ps_bad
            · rename_i ns hq
              split
              · rename_i x px y py a b
                split
                · rename_i i j hi hj
                  split
                  · rename_i hc
                    simp only [Bool.and_eq_true, decide_eq_true_eq] at hc
                    obtain ⟨⟨hd, hij⟩, ⟨na, nb⟩, hns, lx, ly⟩ := hc
                    subst hns
                    obtain ⟨a1, a2, a3⟩ := ok.slotSt hi
                    obtain ⟨b1, b2, b3⟩ := ok.slotSt hj
                    have dj := disj_ok hd
                    refine ps_mono (ps_par ok.calm ok.nd' a1 b1 hij (by rw [ok.sc]; exact lx) (by rw [ok.sc]; exact ly) (pa_cons (h a).v (pa_cons (h b).v pa_nil (starEach_cons nb)) (starEach_cons na)) (swap_ok ok.bk (by rw [ok.sc]; exact hq)) sw_tup) fun D σ H => lift_par (dj i (.head _)) (dj j (.tail _ (.head _)))
                  · exact ps_bad
                · exact ps_bad
              · exact ps_bad
            · exact ps_bad
          · rename_i hnt
            have sw : swappedStores [.Tuple ts k tp] v X.env = pure none := by
              cases v <;> first | rfl | exact absurd rfl (hnt _ _ _)
            split
            · rename_i t ht
              split
              · rename_i hd; exact unp ht hd sw
              · exact ps_bad
            · exact ps_bad
        | Subscript o i sp =>
          cases o with
          | Name x px =>
            show PS X _ (liftS X.K C.kp (wS M (match slot C x with
              | some j => if !isSlice i then .sti j (cE n C i) (cE n C v) else .bad
              | none => .bad)))
            split
            · rename_i j hs
              split
              · rename_i hi
                exact ps_mono (ps_asg (h v).v (pg_sub (pe_slot ok hs) (ge_op ok (h i)) set_list (as_sub (by simpa using hi))) sw_sub ss_sub rfl) fun D σ H => lift_sti
              · exact ps_bad
            · exact ps_bad
          | _ => exact ps_bad
        | Attribute o f ap =>
          cases o with
          | Name x px =>
            show PS X _ (liftS X.K C.kp (wS M (match slot C x with
              | some j => .stf j f (cE n C v)
              | none => .bad)))
            split
            · rename_i j hs
              exact ps_mono (ps_fld (pe_slot ok hs) (h v).v (by cases v <;> rfl)) fun D σ H => lift_stf ok.tab.attr
            · exact ps_bad
          | _ => exact ps_bad
        | _ => exact ps_bad
    | _ => exact ps_bad
end DL

namespace DL
open PySem PySem.Spec PyProof.Rows L2
/-! ### a def -/
def entry (nN : Nat) (args : List Sl) : DSt := args ++ List.replicate (nN - args.length) .no
def outA (kp : List Nat) (n : Nat) (s : DSt) : List Sl := (List.range n).map fun i => if i ∈ kp then (s[i]?).getD .no else .no
def runF (kp : List Nat) (n nN : Nat) (body : DS) : FS := fun args R => args.length = n ∧ body { nx := fun s => R (.sh .non) (outA kp n s), rt := fun r s => R r (outA kp n s), bk := fun _ => False, ct := fun _ => False } (entry nN args)
section
variable {K : PySem.W.Frag} {B G H : Hp}
theorem entry_get {nN : Nat} {args : List Sl} {i : Nat} {x : Sl} (h : (entry nN args)[i]? = some x) (hx : x ≠ .no) : args[i]? = some x := by
  unfold entry at h
  by_cases c : i < args.length
  · rwa [List.getElem?_append_left c] at h
  · rw [List.getElem?_append_right (by omega), List.getElem?_replicate] at h
    split at h
    · cases h; exact absurd rfl hx
    · cases h
theorem start_get {N : List Str} {vs : List V} {i : Nat} {v : V} (h : (vs.map some)[i]? = some (some v)) : (L2.start N vs)[i]? = some (some v) := by
  unfold L2.start
  rw [List.getElem?_append_left]
  · exact h
  · by_cases c : i < (vs.map some).length
    · exact c
    · rw [List.getElem?_eq_none (by omega)] at h; cases h
theorem StRep.start {args : List Sl} {vs : List V} {N : List Str} (S : StRep K B G args (vs.map some) H) (hl : vs.length ≤ N.length) : StRep K B G (entry N.length args) (L2.start N vs) H where
  bH := S.bH
  gH := S.gH
  dj := S.dj
  len := by
    have h := S.len
    rw [List.length_map] at h
    unfold entry L2.start
    rw [List.length_append, List.length_append, List.length_replicate, List.length_replicate, List.length_map, h]
  sh := fun i d h => by
    obtain ⟨v, h1, h2⟩ := S.sh i d (entry_get h (fun e => by cases e))
    exact ⟨v, start_get h1, h2⟩
  ow := fun i d h => by
    obtain ⟨a, o, h1, h2⟩ := S.ow i d (entry_get h (fun e => by cases e))
    exact ⟨a, o, start_get h1, h2⟩
  ap := fun i j d e a h1 h2 h3 h4 => by
    have g1 := entry_get h1 (fun e => by cases e)
    have g2 := entry_get h2 (fun e => by cases e)
    obtain ⟨a1, o1, p1, _⟩ := S.ow i d g1
    obtain ⟨a2, o2, p2, _⟩ := S.ow j e g2
    have q1 := start_get (N := N) p1
    have q2 := start_get (N := N) p2
    rw [h3] at q1; rw [h4] at q2
    cases q1; cases q2
    exact S.ap i j d e a g1 g2 p1 p2
def pnOf (kp : List Nat) (vs : List V) : List (Nat × V) := kp.filterMap fun i => (vs[i]?).map fun v => (i, v)
theorem pnOf_mem {kp : List Nat} {vs : List V} {q : Nat × V} (h : q ∈ pnOf kp vs) : q.1 ∈ kp ∧ vs[q.1]? = some q.2 := by
  unfold pnOf at h
  rw [List.mem_filterMap] at h
  obtain ⟨i, h1, h2⟩ := h
  obtain ⟨v, h3, rfl⟩ := map_some h2
  exact ⟨h1, h3⟩
theorem pnOf_in {kp : List Nat} {vs : List V} {i : Nat} {v : V} (h : i ∈ kp) (hv : vs[i]? = some v) : (i, v) ∈ pnOf kp vs := by
  unfold pnOf
  rw [List.mem_filterMap]
  exact ⟨i, h, by rw [hv]; rfl⟩
theorem outA_get {kp : List Nat} {n i : Nat} {s : DSt} {x : Sl} (h : (outA kp n s)[i]? = some x) (hx : x ≠ .no) : i < n ∧ i ∈ kp ∧ s[i]? = some x := by
  unfold outA at h
  rw [List.getElem?_map] at h
  by_cases c : i < n
  · rw [List.getElem?_range c] at h
    have h' : (if i ∈ kp then (s[i]?).getD .no else .no) = x := by cases h; rfl
    by_cases k : i ∈ kp
    · rw [if_pos k] at h'
      refine ⟨c, k, ?_⟩
      cases q : s[i]? with
      | none => rw [q] at h'; exact absurd h'.symm hx
      | some y => rw [q] at h'; exact congrArg some h'
    · rw [if_neg k] at h'; exact absurd h'.symm hx
  · rw [List.getElem?_eq_none (by rw [List.length_range]; omega)] at h; cases h
theorem StRep.outs {kp : List Nat} {s : DSt} {σ : L2.St} {vs : List V} (S : StRep K B G s σ H) (p : Pn (pnOf kp vs) σ) : StRep K B G (outA kp vs.length s) (vs.map some) H := by
  have at_ : ∀ {i : Nat} {v : V}, i < vs.length → i ∈ kp → σ[i]? = some (some v) → (vs.map some)[i]? = some (some v) := fun {i v} c k e => by
    have q := p _ (pnOf_in k (List.getElem?_eq_getElem c))
    rw [show σ[i]? = some (some vs[i]) from q] at e
    cases e
    rw [List.getElem?_map, List.getElem?_eq_getElem c]
    rfl
  exact {
    bH := S.bH
    gH := S.gH
    dj := S.dj
    len := by unfold outA; rw [List.length_map, List.length_map, List.length_range]
    sh := fun i d h => by
      obtain ⟨c, k, e⟩ := outA_get h (fun e => by cases e)
      obtain ⟨v, h1, h2⟩ := S.sh i d e
      exact ⟨v, at_ c k h1, h2⟩
    ow := fun i d h => by
      obtain ⟨c, k, e⟩ := outA_get h (fun e => by cases e)
      obtain ⟨a, o, h1, h2⟩ := S.ow i d e
      exact ⟨a, o, at_ c k h1, h2⟩
    ap := fun i j d e a h1 h2 h3 h4 => by
      obtain ⟨c1, k1, e1⟩ := outA_get h1 (fun e => by cases e)
      obtain ⟨c2, k2, e2⟩ := outA_get h2 (fun e => by cases e)
      obtain ⟨a1, o1, p1, _⟩ := S.ow i d e1
      obtain ⟨a2, o2, p2, _⟩ := S.ow j e e2
      have q1 := at_ c1 k1 p1
      have q2 := at_ c2 k2 p2
      rw [h3] at q1; rw [h4] at q2
      cases q1; cases q2
      exact S.ap i j d e a e1 e2 p1 p2 }
theorem RRep.outs {kp : List Nat} {s : DSt} {σ : L2.St} {vs : List V} (S : StRep K B G s σ H) (p : Pn (pnOf kp vs) σ) {r : Sl} {v : V} (h : RRep K B G H s σ r v) : RRep K B G H (outA kp vs.length s) (vs.map some) r v := by
  cases r with
  | no => exact h
  | sh d => exact h
  | ow d =>
    obtain ⟨q, o, h1, h2, h3, h4, h5, h6, h7⟩ := h
    refine ⟨q, o, h1, h2, h3, h4, h5, h6, fun i e hi he => ?_⟩
    obtain ⟨c, k, e1⟩ := outA_get hi (fun e => by cases e)
    refine h7 i e e1 ?_
    have q' := p _ (pnOf_in k (List.getElem?_eq_getElem c))
    rw [List.getElem?_map, List.getElem?_eq_getElem c] at he
    have e2 : vs[i] = V.ref q := Option.some.inj (Option.some.inj he)
    rw [← e2]
    exact q'
end
/-- what is checked of a def's text -/
structure DefC (C : CC) (ps : List Str) (params : Arguments) (body : List Stmt) (scope : Scope) (b : List S) : Prop where
  sc : FnScope C.N ps scope
  e : C.sc = scope
  f : C.fsc = none
  kp : ∀ i ∈ C.kp, i < ps.length
  b : body.map (cS 60 C) = b
theorem DefC.start {C : CC} {ps : List Str} {params : Arguments} {body : List Stmt} {scope : Scope} {b : List S} (d : DefC C ps params body scope b) : ps.length ≤ C.N.length := by
  have h := congrArg List.length d.sc.pre
  rw [List.length_take] at h
  omega
/-- a def keeps the promise that its compact body keeps -/
theorem fn_ok {P : Program} {w : World} {K : PySem.W.Frag} {mg : Str → Option Value} {base : Heap} {x qual : Str} {params : Arguments} {body : List Stmt} {scope : Scope} {dvs : List V} {kws : List (Str × V)} {f : Addr} {fd : FuncData} {C : CC} {M : Sem} {ps : List Str} {b : List S} {F : FS}
    (Fd : FunD K x qual params body scope dvs kws f fd) (d : DefC C ps params body scope b) (T : Tab P w K mg base C M) (hk : M.kp = C.kp) (hF : ∀ args R, F args R → runF C.kp ps.length C.N.length (wSs M b) args R) : FnOk P w K mg base CX0 (C.lv + 1) f fd ps (spOf K F) := by
  have hlen : ∀ (vs : List V) (H : Hp) (Q : VK) (E : XK), spOf K F vs H Q E → vs.length = ps.length := fun vs H Q E ⟨B, G, args, R, S, h, _⟩ => by
    have l := S.len
    rw [List.length_map] at l
    rw [← l]
    exact (hF args R h).1
  refine Fd.ok d.sc hlen fun cdv A outer s H vs Q E hr h => ⟨liftS K C.kp (wSs M b), PSs.nox ?_, ?t⟩
  case t =>
    have hl := hlen vs H Q E h
    obtain ⟨B, G, args, R, S, h1, k⟩ := h
    have h2 := (hF args R h1).2
    refine ⟨B, G, entry C.N.length args, _, pnOf C.kp vs, S.start (by rw [hl]; exact d.start), fun q hq => (pnOf_mem hq).1, fun q hq => ?_, h2, ?_⟩
    · obtain ⟨a1, a2⟩ := pnOf_mem hq
      refine start_get ?_
      rw [List.getElem?_map, a2]
      rfl
    · exact {
        nx := fun s' G' σ' H' S' e p q => by
          rw [← hl] at q
          exact k (.sh .non) _ G' H' .non (S'.outs p) e rfl q
        bk := fun s' G' σ' H' S' e p q => q.elim
        ct := fun s' G' σ' H' S' e p q => q.elim
        rt := fun r s' G' σ' H' v S' e p rr q => by
          rw [← hl] at q
          exact k r _ G' H' v (S'.outs p) e (rr.outs S' p) q }
  · rw [← d.b]
    refine pss_map (C := C) (fun st => soundS 60 C M _ ?_ st) body
    exact {
      sc := d.e.symm
      N := rfl
      nd := d.sc.nd
      calm := rfl
      xe := rfl
      room := hr
      fn := fun y hy => .inl rfl
      tab := T
      kp := hk
      fk := by rw [d.e]; exact d.sc.kind }
end DL

namespace DL
open PySem PySem.Spec PyProof.Rows L2
section
variable {P : Program} {w : World} {K : PySem.W.Frag} {mg : Str → Option Value} {base : Heap} {lv k : Nat} {x : Str} {f : Addr} {fd : FuncData} {ps : List Str}
theorem kw_nil {kws : List Keyword} (h : kwNames kws = some []) : kws = [] := by
  cases kws with
  | nil => rfl
  | cons k ks =>
    unfold kwNames at h
    split at h <;> cases h
theorem kw_all {env : Env} {pos : Pos} : ∀ {kws : List Keyword} {ks : List Str}, kwNames kws = some ks → (backToKw pos (keywordEach kws env)).all (·.1.isSome) = true ∧ (backToKw pos (keywordEach kws env)).filterMap (·.1) = ks ∧ (backToKw pos (keywordEach kws env)).any (·.1.isNone) = false
  | [], ks, h => by cases h; exact ⟨rfl, rfl, rfl⟩
  | ⟨nm, e, kp⟩ :: kws, ks, h => by
    unfold kwNames at h
    split at h
    · rename_i y ys h1 h2
      cases h
      have h1 : nm = some y := h1
      subst h1
      obtain ⟨a, b, c⟩ := kw_all (env := env) (pos := pos) h2
      refine ⟨?_, ?_, ?_⟩
      · show (true && (backToKw pos (keywordEach kws env)).all (·.1.isSome)) = true
        rw [a]; rfl
      · show y :: (backToKw pos (keywordEach kws env)).filterMap (·.1) = _
        rw [b]
      · show (false || (backToKw pos (keywordEach kws env)).any (·.1.isNone)) = false
        rw [c]; rfl
    · cases h
theorem kw_len : ∀ {kws : List Keyword} {ks : List Str}, kwNames kws = some ks → kws.length = ks.length
  | [], ks, h => by cases h; rfl
  | k :: kws, ks, h => by
    unfold kwNames at h
    split at h
    · rename_i y ys h1 h2
      cases h
      exact congrArg Nat.succ (kw_len h2)
    · cases h
theorem liftAv_mono {w : DAv} {σ : L2.St} {H : Hp} {Q Q' : List V → Hp → Prop} (h : liftAv K w σ H Q) (m : ∀ vs H, Q vs H → Q' vs H) : liftAv K w σ H Q' := by
  obtain ⟨B, G, s, R, S, a, k⟩ := h
  exact ⟨B, G, s, R, S, a, fun o s' G' H' v S' e r q => m _ _ (k o s' G' H' v S' e r q)⟩
/-- a call with the last parameters' defaults -/
def dflF (dl : List D) (F : FS) : FS := fun args R => F (args ++ dl.map .sh) fun r out => R r (out.take args.length)
theorem Reps.len {G : Hp} : ∀ {ds : List D} {vs : List V}, Reps K G ds vs → vs.length = ds.length
  | [], vs, h => by rw [show vs = [] from h]; rfl
  | d :: ds, vs, h => by obtain ⟨v, r, rfl, _, h⟩ := h; exact congrArg Nat.succ (Reps.len h)
theorem Reps.nth {G : Hp} : ∀ {ds : List D} {vs : List V} {i : Nat} {d : D}, Reps K G ds vs → ds[i]? = some d → ∃ v, vs[i]? = some v ∧ Rep K G d v
  | [], vs, i, d, h, e => by cases e
  | d :: ds, vs, 0, d', h, e => by obtain ⟨v, r, rfl, h1, _⟩ := h; cases e; exact ⟨v, rfl, h1⟩
  | d :: ds, vs, i + 1, d', h, e => by obtain ⟨v, r, rfl, h1, h2⟩ := h; exact Reps.nth (i := i) h2 e
theorem StRep.app {B G H : Hp} {args : List Sl} {vs us : List V} {dl : List D} (S : StRep K B G args (vs.map some) H) (r : Reps K G dl us) : StRep K B G (args ++ dl.map .sh) ((vs ++ us).map some) H := by
  have hl : args.length = vs.length := by have := S.len; rwa [List.length_map] at this
  have old : ∀ {i : Nat} {y : Sl}, (args ++ dl.map .sh)[i]? = some y → i < args.length → args[i]? = some y ∧ ((vs ++ us).map some)[i]? = (vs.map some)[i]? := fun {i y} h c => by
    rw [List.getElem?_append_left c] at h
    refine ⟨h, ?_⟩
    rw [List.map_append, List.getElem?_append_left (by rw [List.length_map]; omega)]
  have new : ∀ {i : Nat} {y : Sl}, (args ++ dl.map .sh)[i]? = some y → ¬ i < args.length → ∃ d, y = .sh d ∧ dl[i - args.length]? = some d := fun {i y} h c => by
    rw [List.getElem?_append_right (by omega), List.getElem?_map] at h
    cases q : dl[i - args.length]? with
    | none => rw [q] at h; cases h
    | some d => rw [q] at h; cases h; exact ⟨d, rfl, rfl⟩
  exact {
    bH := S.bH
    gH := S.gH
    dj := S.dj
    len := by rw [List.length_append, List.length_map, List.length_map, List.length_append, hl, r.len]
    sh := fun i d h => by
      by_cases c : i < args.length
      · obtain ⟨a, b⟩ := old h c
        rw [b]
        exact S.sh i d a
      · obtain ⟨d', e, q⟩ := new h c
        cases e
        obtain ⟨v, h1, h2⟩ := r.nth q
        refine ⟨v, ?_, h2⟩
        rw [List.map_append, List.getElem?_append_right (by rw [List.length_map]; omega), List.length_map, ← hl, List.getElem?_map, h1]
        rfl
    ow := fun i d h => by
      by_cases c : i < args.length
      · obtain ⟨a, b⟩ := old h c
        rw [b]
        exact S.ow i d a
      · obtain ⟨d', e, q⟩ := new h c
        cases e
    ap := fun i j d e a h1 h2 h3 h4 => by
      by_cases c : i < args.length
      · by_cases c2 : j < args.length
        · obtain ⟨a1, b1⟩ := old h1 c
          obtain ⟨a2, b2⟩ := old h2 c2
          rw [b1] at h3; rw [b2] at h4
          exact S.ap i j d e a a1 a2 h3 h4
        · obtain ⟨d', e', q⟩ := new h2 c2
          cases e'
      · obtain ⟨d', e', q⟩ := new h1 c
        cases e' }
theorem StRep.cut {B G H : Hp} {args : List Sl} {vs us : List V} (S : StRep K B G args ((vs ++ us).map some) H) : StRep K B G (args.take vs.length) (vs.map some) H := by
  have hl : args.length = vs.length + us.length := by have := S.len; rwa [List.length_map, List.length_append] at this
  have g : ∀ {i : Nat} {y : Sl}, (args.take vs.length)[i]? = some y → args[i]? = some y ∧ (vs.map some)[i]? = ((vs ++ us).map some)[i]? := fun {i y} h => by
    rw [List.getElem?_take] at h
    split at h
    · rename_i c
      refine ⟨h, ?_⟩
      rw [List.map_append, List.getElem?_append_left (by rw [List.length_map]; exact c)]
    · cases h
  exact {
    bH := S.bH
    gH := S.gH
    dj := S.dj
    len := by rw [List.length_take, List.length_map, hl]; omega
    sh := fun i d h => by
      obtain ⟨a, b⟩ := g h
      rw [b]
      exact S.sh i d a
    ow := fun i d h => by
      obtain ⟨a, b⟩ := g h
      rw [b]
      exact S.ow i d a
    ap := fun i j d e a h1 h2 h3 h4 => by
      obtain ⟨a1, b1⟩ := g h1
      obtain ⟨a2, b2⟩ := g h2
      rw [b1] at h3; rw [b2] at h4
      exact S.ap i j d e a a1 a2 h3 h4 }
theorem sp_dfl {F : FS} {dl : List D} {us vs : List V} {H : Hp} {Q : VK} {E : XK} (hd : ∀ G, Reps K G dl us) (h : spOf K (dflF dl F) vs H Q E) : spOf K F (vs ++ us) H Q E := by
  obtain ⟨B, G, args, R, S, a, k⟩ := h
  refine ⟨B, G, args ++ dl.map Sl.sh, fun r out => R r (out.take args.length), S.app (hd G), a, fun r args' G' H' v S' e rr q => ?_⟩
  have hl : args.length = vs.length := by have := S.len; rwa [List.length_map] at this
  rw [hl] at q
  refine k r _ G' H' v S'.cut e ?_ q
  cases r with
  | no => exact rr
  | sh d => exact rr
  | ow d =>
    obtain ⟨p, o, h1, h2, h3, h4, h5, h6, h7⟩ := rr
    refine ⟨p, o, h1, h2, h3, h4, h5, h6, fun i e hi he => ?_⟩
    rw [List.getElem?_take] at hi
    split at hi
    · rename_i c
      refine h7 i e hi ?_
      rw [List.map_append, List.getElem?_append_left (by rw [List.length_map]; exact c)]
      exact he
    · cases hi
theorem callJ_dfl {Fs : FS} {us : List V} {ds : List Value} {dl : List D} (F : FnOk P w K mg base CX0 k f fd ps (spOf K Fs)) (hk : k ≤ lv) (hm : mg x = some (.ref f)) (kp : PySem.W.keepIn K (.ref f) = true) (b : L2.Binds K fd ps ds) (dv : Vals us ds) (hd : ∀ G, Reps K G dl us) (n : Nat) : CallJ P w K mg base lv x n [] (dflF dl Fs) := by
  intro X e1 e2 e3 e4 e5 hc hr hg hn es kws p pos w1 w2 hl hks hns h0 h0' ha hk2
  subst e1; subst e2; subst e3; subst e4; subst e5
  have hkw := kw_nil hks
  subst hkw
  rw [h0' rfl]
  have rm : Room k X.A := ⟨hr.hd, by have := hr.dp; omega, by have := hr.un; omega⟩
  have mono : ∀ σ H Q, lift X.K (wCall2 n (dflF dl Fs) w1 wAvNil) σ H Q → tCall (spOf X.K Fs) us E0 (liftAv X.K w1) σ H Q := fun σ H Q l => by
    refine liftAv_mono (lift_call2 l) fun vs H1 q => ?_
    have q1 := lift_avNil q.2
    have q2 : spOf X.K (dflF dl Fs) (vs ++ []) H1 Q E0 := q1
    rw [List.append_nil] at q2
    exact sp_dfl hd q2
  cases es with
  | nil =>
    have e0 := h0 rfl
    subst e0
    refine pe_mono (pe_call0 F rm hg hm kp b dv pass0 (okName_ok hn).1) fun σ H Q l => ?_
    exact lift_avNil (mono σ H Q l)
  | cons e es =>
    have hns' := hns
    rw [List.all_cons, Bool.and_eq_true] at hns'
    exact pe_mono (pe_call F rm hg hm kp b dv pass0 ha (okName_ok hn).1 (starEach_cons hns'.1) (any_nil hns'.2)) mono
/-- a call that writes every parameter -/
theorem callJ {Fs : FS} (F : FnOk P w K mg base CX0 k f fd ps (spOf K Fs)) (hk : k ≤ lv) (hm : mg x = some (.ref f)) (kp : PySem.W.keepIn K (.ref f) = true) (b : L2.Binds K fd ps []) (n : Nat) : CallJ P w K mg base lv x n [] Fs := by
  intro X e1 e2 e3 e4 e5 hc hr hg hn es kws p pos w1 w2 hl hks hns h0 h0' ha hk2
  subst e1; subst e2; subst e3; subst e4; subst e5
  have hkw := kw_nil hks
  subst hkw
  rw [h0' rfl]
  have rm : Room k X.A := ⟨hr.hd, by have := hr.dp; omega, by have := hr.un; omega⟩
  have mono : ∀ σ H Q, lift X.K (wCall2 n Fs w1 wAvNil) σ H Q → tCall (spOf X.K Fs) [] E0 (liftAv X.K w1) σ H Q := fun σ H Q l =>
    liftAv_mono (lift_call2 l) fun vs H1 q => lift_avNil q.2
  cases es with
  | nil =>
    have e0 := h0 rfl
    subst e0
    refine pe_mono (pe_call0 F rm hg hm kp b .nil pass0 (okName_ok hn).1) fun σ H Q l => ?_
    exact lift_avNil (mono σ H Q l)
  | cons e es =>
    have hns' := hns
    rw [List.all_cons, Bool.and_eq_true] at hns'
    exact pe_mono (pe_call F rm hg hm kp b .nil pass0 ha (okName_ok hn).1 (starEach_cons hns'.1) (any_nil hns'.2)) mono
/-! ### calls with keywords -/
def shs : List Sl → Option (List D)
  | [] => some []
  | .sh d :: as => (shs as).map (d :: ·)
  | _ :: _ => none
theorem shs_ok : ∀ {as : List Sl} {ds : List D}, shs as = some ds → as = ds.map .sh
  | [], ds, h => by cases h; rfl
  | .sh d :: as, ds, h => by
    obtain ⟨ys, e, rfl⟩ := map_some (show (shs as).map (d :: ·) = some ds from h)
    rw [shs_ok e]; rfl
  | .no :: as, ds, h => by cases h
  | .ow d :: as, ds, h => by cases h
def kwF (n m : Nat) (g : List D → List D → List D) (F : FS) : FS := fun args R => match shs args with
  | some as => as.length = n + m ∧ F ((g (as.take n) (as.drop n)).map .sh) fun r _ => ∀ out, R r out
  | none => False
theorem StRep.reps {B G H : Hp} : ∀ {as : List D} {vs : List V}, StRep K B G (as.map .sh) (vs.map some) H → Reps K G as vs := fun {as vs} S => by
  have hl : as.length = vs.length := by have := S.len; rwa [List.length_map, List.length_map] at this
  have h : ∀ i d, as[i]? = some d → ∃ v, vs[i]? = some v ∧ Rep K G d v := fun i d e => by
    obtain ⟨v, h1, h2⟩ := S.sh i d (by rw [List.getElem?_map, e]; rfl)
    rw [List.getElem?_map] at h1
    obtain ⟨u, h3, h4⟩ := map_some h1
    cases h4
    exact ⟨_, h3, h2⟩
  clear S
  induction as generalizing vs with
  | nil => cases vs with
    | nil => exact rfl
    | cons v vs => cases hl
  | cons d as ih =>
    cases vs with
    | nil => cases hl
    | cons v vs =>
      obtain ⟨u, e, r⟩ := h 0 d rfl
      have e' : v = u := Option.some.inj e
      subst e'
      exact ⟨v, vs, rfl, r, ih (Nat.succ.inj hl) fun i d e => h (i + 1) d e⟩
theorem StRep.ofReps {B G H : Hp} {as : List D} {vs : List V} (hB : Same B H) (hG : Same G H) (dj : ∀ a o, B a = some o → G a = none) (r : Reps K G as vs) : StRep K B G (as.map .sh) (vs.map some) H := by
  have get : ∀ {i : Nat} {y : Sl}, (as.map Sl.sh)[i]? = some y → ∃ d, y = .sh d ∧ as[i]? = some d := fun {i y} h => by
    rw [List.getElem?_map] at h
    obtain ⟨d, h1, h2⟩ := map_some h
    exact ⟨d, h2.symm, h1⟩
  exact {
    bH := hB
    gH := hG
    dj := dj
    len := by rw [List.length_map, List.length_map, r.len]
    sh := fun i d h => by
      obtain ⟨d', e, h⟩ := get h
      cases e
      obtain ⟨v, h1, h2⟩ := r.nth h
      exact ⟨v, by rw [List.getElem?_map, h1]; rfl, h2⟩
    ow := fun i d h => by obtain ⟨d', e, h⟩ := get h; cases e
    ap := fun i j d e a h1 => by obtain ⟨d', e, h⟩ := get h1; cases e }
theorem StRep.empty {B G H : Hp} {vs : List V} (hB : Same B H) (hG : Same G H) (dj : ∀ a o, B a = some o → G a = none) : StRep K B G (List.replicate vs.length .no) (vs.map some) H where
  bH := hB
  gH := hG
  dj := dj
  len := by rw [List.length_replicate, List.length_map]
  sh := fun i d h => by rw [List.getElem?_replicate] at h; split at h <;> cases h
  ow := fun i d h => by rw [List.getElem?_replicate] at h; split at h <;> cases h
  ap := fun i j d e a h => by rw [List.getElem?_replicate] at h; split at h <;> cases h
theorem RRep.empty {B G H : Hp} {s : DSt} {σ σ2 : L2.St} {n : Nat} {r : Sl} {v : V} (h : RRep K B G H s σ r v) : RRep K B G H (List.replicate n .no) σ2 r v := by
  cases r with
  | no => exact h
  | sh d => exact h
  | ow d =>
    obtain ⟨p, o, h1, h2, h3, h4, h5, h6, h7⟩ := h
    exact ⟨p, o, h1, h2, h3, h4, h5, h6, fun i e hi => by rw [List.getElem?_replicate] at hi; split at hi <;> cases hi⟩
theorem Reps.split {G : Hp} : ∀ {n : Nat} {as : List D} {vs zs : List V}, Reps K G as (vs ++ zs) → vs.length = n → Reps K G (as.take n) vs ∧ Reps K G (as.drop n) zs
  | 0, as, vs, zs, h, l => by
    cases vs with
    | nil => exact ⟨rfl, h⟩
    | cons v vs => cases l
  | n + 1, as, vs, zs, h, l => by
    cases vs with
    | nil => cases l
    | cons v vs =>
      cases as with
      | nil => cases h
      | cons d as =>
        obtain ⟨u, r, e, h1, h2⟩ := h
        cases e
        obtain ⟨a, b⟩ := Reps.split (n := n) h2 (Nat.succ.inj l)
        exact ⟨⟨v, vs, rfl, h1, a⟩, b⟩
/-- f(k = v, ..) -/
theorem pe_callK {X : Cx} {CX : CXT} {sp : Sp} {E : XK} {p pos : Pos} {kws : List Keyword} {tk : TA} {ks : List Str} {g : List Value → List Value → List Value} {gV : List V → List V → List V} (F : FnOk X.prog X.w X.K X.mg X.base CX k f fd ps sp) (hr : Room k X.A) (hg : Gl X x) (hm : X.mg x = some (.ref f)) (hk : PySem.W.keepIn X.K (.ref f) = true) (hb : KBn X.K fd ps 0 ks g gV) (hx : Passes CX X E)
    (hkw : PK X kws tk) (hall : (backToKw pos (keywordEach kws X.env)).all (·.1.isSome) = true) (hks : (backToKw pos (keywordEach kws X.env)).filterMap (·.1) = ks) (hdb : (x == ("__debug__" : Str)) = false)
    (hpl : ((backTo pos (starEach [] X.env)).any (·.1) || (backToKw pos (keywordEach kws X.env)).any (·.1.isNone)) = false) :
    PE X (.Call (.Name x p) [] kws pos) (tCallN 0 ks.length sp gV E tNil tk) := by
  refine ⟨fun pins s σ H Q I h => ?_⟩
  refine wpAny_Call_Name_kw (ld_glob I hg hm ?_ hdb)
  refine PySem.W.callWith_KW0 (h₀ := X.base) I.ok.mod.kin hk hall ?_ hpl
  refine thn (hkw.run pos pins s σ H _ I h) fun ws s2 ⟨zs, H2, I2, rz, l1, l2, q2⟩ => ⟨I2.kIn, ?_⟩
  rw [hks]
  exact run_fnN (us := []) (vs := []) F hr hb hx I2 .nil rz rfl l2 q2
theorem callJ_kw {Fs : FS} {n : Nat} {ks : List Str} {g : List Value → List Value → List Value} {gV : List V → List V → List V} {gD : List D → List D → List D} (F : FnOk P w K mg base CX0 k f fd ps (spOf K Fs)) (hk : k ≤ lv) (hm : mg x = some (.ref f)) (kp : PySem.W.keepIn K (.ref f) = true) (b : KBn K fd ps n ks g gV)
    (hD : ∀ G as bs vs zs, Reps K G as vs → Reps K G bs zs → as.length = n → bs.length = ks.length → Reps K G (gD as bs) (gV vs zs)) : CallJ P w K mg base lv x n ks (kwF n ks.length gD Fs) := by
  intro X e1 e2 e3 e4 e5 hc hr hg hn es kws p pos w1 w2 hl hks hns h0 h0' ha hk2
  subst e1; subst e2; subst e3; subst e4; subst e5
  have rm : Room k X.A := ⟨hr.hd, by have := hr.dp; omega, by have := hr.un; omega⟩
  have kl : kws.length = ks.length := by
    exact kw_len hks

  obtain ⟨a1, a2, a3⟩ := kw_all (env := X.env) (pos := pos) hks
  have mono : ∀ σ H Q, lift X.K (wCall2 n (kwF n ks.length gD Fs) w1 w2) σ H Q → tCallN n ks.length (spOf X.K Fs) gV E0 (liftAv X.K w1) (liftAv X.K w2) σ H Q := fun σ H Q l => by
    refine liftAv_mono (lift_call2 l) fun vs H1 q => ?_
    refine liftAv_mono q.2 fun zs H2 h => ?_
    obtain ⟨B, G, args, R, S, a, kk⟩ := h
    unfold kwF at a
    split at a
    · rename_i as has
      have e := shs_ok has
      subst e
      have r := S.reps
      have ln := r.len
      rw [List.length_append] at ln
      have l1 : vs.length = n := q.1
      have l2 : zs.length = ks.length := by have := a.1; omega
      refine ⟨l1, l2, ?_⟩
      obtain ⟨r1, r2⟩ := Reps.split (n := n) r l1
      refine ⟨B, G, _, _, StRep.ofReps S.bH S.gH S.dj (hD G _ _ _ _ r1 r2 (by rw [List.length_take]; have := a.1; omega) (by rw [List.length_drop]; have := a.1; omega)), a.2, fun r args' G' H' v S' e rr q => ?_⟩
      exact kk r (List.replicate (vs ++ zs).length .no) G' H' v (StRep.empty S'.bH S'.gH S'.dj) e (rr.empty) (q _)
    · exact a.elim
  cases es with
  | nil =>
    cases hl
    have e0 := h0 rfl
    subst e0
    refine pe_mono (pe_callK F rm hg hm kp b pass0 hk2 a1 a2 (okName_ok hn).1 a3) fun σ H Q l => ?_
    exact lift_avNil (mono σ H Q l)
  | cons e es =>
    have hns' := hns
    rw [List.all_cons, Bool.and_eq_true] at hns'
    exact pe_mono (pe_callN F rm hg hm kp b pass0 ha hk2 a1 a2 (okName_ok hn).1 (starEach_cons hns'.1) (by rw [any_nil hns, a3]; rfl)) mono
end
end DL

namespace DL
open PySem PySem.Spec PyProof.Rows L2
/-! ### built-ins by name -/
def absD : BS
  | [.int i], R => R (.sh (.int (if i < 0 then -i else i)))
  | _, _ => False
theorem absD_ok {K : PySem.W.Frag} : BOk K (fun xs H Q => ∃ i, xs = [.int i] ∧ Q (.int (if i < 0 then -i else i)) H) absD := by
  intro G H ds vs R Q sm t h k
  unfold absD at h
  split at h
  · rename_i i
    obtain ⟨v, rfl, hv⟩ := tops1 t
    exact ⟨i, by rw [show v = .int i from hv], ret_sh sm k (d := .int (if i < 0 then -i else i)) rfl h⟩
  · exact h.elim
def biOf (x : Str) : Option BS :=
  if x = "len" then some lenD else if x = "int" then some intD else if x = "bool" then some boolD else if x = "str" then some strD
  else if x = "list" then some listD else if x = "tuple" then some tupleD else if x = "all" then some allD else if x = "any" then some anyD
  else if x = "max" then some maxD else if x = "min" then some minD else if x = "sum" then some sumD else if x = "abs" then some absD else none
section
variable {P : Program} {w : World} {K : PySem.W.Frag} {mg : Str → Option Value} {base : Heap} {lv : Nat}
theorem bi_b {x : Str} {n : Nat} {id : String} {r : PySem.W.Frag → List V → Hp → VK → Prop} {f : BS} (hc : ∀ X : Cx, X.calm = true → CallR X (.builtin id) (r X.K)) (hv : bootBuiltins x = some (.builtin id)) (hm : mg x = none) (hn : okName x = true) (hb : BOk K (r K) f) : BiJ P w K mg base lv x n f :=
  ⟨r K, hb, fun X e1 e2 e3 e4 e5 hcalm hr hg e es p pos t hl hs ha => by
    subst e1; subst e2; subst e3; subst e4; subst e5
    have hs' := hs
    rw [List.all_cons, Bool.and_eq_true] at hs'
    exact pe_callB (hc X hcalm) hg hm hv ha (okName_ok hn).2.2 (okName_ok hn).1 (starEach_cons hs'.1) (any_nil hs'.2)⟩
theorem bi_t {x : Str} {n : Nat} {T : String} {r : PySem.W.Frag → List V → Hp → VK → Prop} {f : BS} (hc : ∀ X : Cx, X.calm = true → CallR X (.type T) (r X.K)) (hv : bootBuiltins x = some (.type T)) (hm : mg x = none) (hn : okName x = true) (hb : BOk K (r K) f) : BiJ P w K mg base lv x n f :=
  ⟨r K, hb, fun X e1 e2 e3 e4 e5 hcalm hr hg e es p pos t hl hs ha => by
    subst e1; subst e2; subst e3; subst e4; subst e5
    have hs' := hs
    rw [List.all_cons, Bool.and_eq_true] at hs'
    exact pe_callTy (hc X hcalm) hg hm hv ha (okName_ok hn).2.2 (okName_ok hn).1 (starEach_cons hs'.1) (any_nil hs'.2)⟩
theorem bi_ok {x : Str} {n : Nat} {f : BS} (h : biOf x = some f) (hm : mg x = none) : BiJ P w K mg base lv x n f := by
  unfold biOf at h
  by_cases c : x = "len"
  · rw [if_pos c] at h; cases h; subst c
    exact bi_b (r := fun K => rLenAll K) (fun X _ => call_lenAll) rfl hm rfl lenD_ok
  rw [if_neg c] at h
  by_cases c : x = "int"
  · rw [if_pos c] at h; cases h; subst c
    exact bi_t (r := fun _ xs H Q => (∃ i, xs = [.int i] ∧ Q (.int i) H) ∨ ∃ k, xs = [.bl k] ∧ Q (.int (if k then 1 else 0)) H) (fun X _ => call_int1) rfl hm rfl intD_ok
  rw [if_neg c] at h
  by_cases c : x = "bool"
  · rw [if_pos c] at h; cases h; subst c
    exact bi_t (r := fun _ xs H Q => (∃ i, xs = [.int i] ∧ Q (.bl (i != 0)) H) ∨ ∃ k, xs = [.bl k] ∧ Q (.bl k) H) (fun X _ => call_bool1) rfl hm rfl boolD_ok
  rw [if_neg c] at h
  by_cases c : x = "str"
  · rw [if_pos c] at h; cases h; subst c
    exact bi_t (r := fun _ xs H Q => ∃ i, xs = [.int i] ∧ i.natAbs.log2 < 1920 ∧ Q (.str (toString i)) H) (fun X _ => call_str_int) rfl hm rfl strD_ok
  rw [if_neg c] at h
  by_cases c : x = "list"
  · rw [if_pos c] at h; cases h; subst c
    exact bi_t (r := fun K xs H Q => ∃ p ys, xs = [.ref p] ∧ (SqL K H p ys ∨ SqT K H p ys) ∧ ∀ l, H l = none → Q (.ref l) (upd H l (.lst ys))) (fun X _ => call_list_of) rfl hm rfl listD_ok
  rw [if_neg c] at h
  by_cases c : x = "tuple"
  · rw [if_pos c] at h; cases h; subst c
    exact bi_t (r := fun K xs H Q => ∃ p ys, xs = [.ref p] ∧ ((SqL K H p ys ∧ ∀ l, H l = none → Q (.ref l) (upd H l (.tup ys))) ∨ (SqT K H p ys ∧ Q (.ref p) H))) (fun X _ => call_tuple_of) rfl hm rfl tupleD_ok
  rw [if_neg c] at h
  by_cases c : x = "all"
  · rw [if_pos c] at h; cases h; subst c
    exact bi_b (r := fun K => rAll K) (fun X hc => cr_all hc) rfl hm rfl allD_ok
  rw [if_neg c] at h
  by_cases c : x = "any"
  · rw [if_pos c] at h; cases h; subst c
    exact bi_b (r := fun K => rAny K) (fun X hc => cr_any hc) rfl hm rfl anyD_ok
  rw [if_neg c] at h
  by_cases c : x = "max"
  · rw [if_pos c] at h; cases h; subst c
    exact bi_b (r := fun K xs H Q => (∃ i j, xs = [.int i, .int j] ∧ Q (.int (if j > i then j else i)) H) ∨ rMax K xs H Q) (fun X hc => (call_max2 hc).or (cr_max hc)) rfl hm rfl maxD_ok
  rw [if_neg c] at h
  by_cases c : x = "min"
  · rw [if_pos c] at h; cases h; subst c
    exact bi_b (r := fun K xs H Q => (∃ i j, xs = [.int i, .int j] ∧ Q (.int (if j < i then j else i)) H) ∨ rMin K xs H Q) (fun X hc => (call_min2 hc).or (cr_min hc)) rfl hm rfl minD_ok
  rw [if_neg c] at h
  by_cases c : x = "sum"
  · rw [if_pos c] at h; cases h; subst c
    exact bi_b (r := fun K => rSum K) (fun X hc => cr_sum hc) rfl hm rfl sumD_ok
  rw [if_neg c] at h
  by_cases c : x = "abs"
  · rw [if_pos c] at h; cases h; subst c
    exact bi_b (r := fun _ xs H Q => ∃ i, xs = [.int i] ∧ Q (.int (if i < 0 then -i else i)) H) (fun X _ => call_abs) rfl hm rfl absD_ok
  rw [if_neg c] at h
  cases h
/-! ### a def's surroundings, as lists -/
def falF : FS := fun _ _ => False
def falB : BS := fun _ _ => False
def nth {α : Type} (d : α) : List α → Nat → α
  | [], _ => d
  | x :: _, 0 => x
  | _ :: xs, n + 1 => nth d xs n
theorem nth_get {α : Type} {d x : α} : ∀ {l : List α} {k : Nat}, l[k]? = some x → nth d l k = x
  | [], k, h => by cases h
  | y :: l, 0, h => by cases h; rfl
  | y :: l, k + 1, h => nth_get (l := l) (k := k) h
@[reducible] def mkSem (kp : List Nat) (fs : List FS) (bs : List BS) (cv : List D) (ms : List (Str → Option FS)) (at_ : Str → Str → Bool) : Sem where
  fs := nth falF fs
  bs := nth falB bs
  cv := nth .non cv
  ms := nth (fun _ => none) ms
  at_ := at_
  kp := kp
inductive All2 {α β : Type} (p : α → β → Prop) : List α → List β → Prop
  | nil : All2 p [] []
  | cons {a b l m} (h : p a b) (t : All2 p l m) : All2 p (a :: l) (b :: m)
theorem All2.get {α β : Type} {p : α → β → Prop} {l : List α} {m : List β} (h : All2 p l m) : ∀ {k : Nat} {a : α}, l[k]? = some a → ∃ b, m[k]? = some b ∧ p a b := by
  induction h with
  | nil => intro k a h; cases h
  | cons h t ih =>
    intro k a e
    cases k with
    | zero => cases e; exact ⟨_, rfl, h⟩
    | succ k => exact ih (k := k) e
def ConsJ (K : PySem.W.Frag) (mg : Str → Option Value) (x : Str) (d : D) : Prop := ∃ u v, mg x = some u ∧ RelV v u ∧ ∀ G, Rep K G d v
theorem mkTab {C : CC} {fs : List FS} {bs : List BS} {cv : List D} {ms : List (Str → Option FS)} {at_ : Str → Str → Bool} (h1 : All2 (fun (c : Str × Nat × List Str) F => CallJ P w K mg base C.lv c.1 c.2.1 c.2.2 F) C.calls fs) (h2 : All2 (fun (c : Str × Nat) f => biOf c.1 = some f) C.bis bs) (h2' : (C.bis.all fun c => decide (c.1 ∈ C.fr)) = true)
    (h3 : All2 (ConsJ K mg) C.cons cv) (h4 : All2 (fun (c : Str × Nat × List Str) F => MethJ P w K mg base C.lv c.1 c.2.1 c.2.2 F) C.meths ms) (h5 : AttrOk K at_) (h6 : ∀ x ∈ C.fr, mg x = none) : Tab P w K mg base C (mkSem C.kp fs bs cv ms at_) where
  call := fun k x n ks e => by
    obtain ⟨F, e2, h⟩ := h1.get e
    show CallJ P w K mg base C.lv x n ks (nth falF fs k)
    rw [nth_get e2]
    exact h
  bi := fun k x n e => by
    obtain ⟨F, e2, h⟩ := h2.get e
    show BiJ P w K mg base C.lv x n (nth falB bs k)
    rw [nth_get e2]
    exact bi_ok h (h6 x (of_decide_eq_true (List.all_eq_true.mp h2' (x, n) (List.mem_of_getElem? e))))
  con := fun k x e => by
    obtain ⟨d, e2, h⟩ := h3.get e
    show ∃ u v, _ ∧ _ ∧ ∀ G, Rep K G (nth .non cv k) v
    rw [nth_get e2]
    exact h
  meth := fun k m n ks e => by
    obtain ⟨F, e2, h⟩ := h4.get e
    show MethJ P w K mg base C.lv m n ks (nth (fun _ => none) ms k)
    rw [nth_get e2]
    exact h
  attr := h5
  fr := h6
end
/-! ### what a head tells of a law's text -/
def LawEnv (fr : List Str) (fa : List He.Fa) (fn : List He.DefD) (K : PySem.W.Frag) (mg : Str → Option Value) : Prop := ∃ h : Heap, K.In h ∧ h.Ns mainGlobals mg ∧ He.SaysD (fa ++ fr.map He.Fa.free) fn K
section
variable {fr : List Str} {fa : List He.Fa} {fn : List He.DefD} {K : PySem.W.Frag} {mg : Str → Option Value}
theorem LawEnv.fact (V : LawEnv fr fa fn K mg) (i : Nat) {f : He.Fa} (h : fa[i]? = some f) : ∃ hp : Heap, K.In hp ∧ hp.Ns mainGlobals mg ∧ f.ok K = true := by
  obtain ⟨hp, X, G, c⟩ := V
  refine ⟨hp, X, G, c.fact i ?_⟩
  rw [List.getElem?_append_left]
  · exact h
  · by_cases q : i < fa.length
    · exact q
    · rw [List.getElem?_eq_none (by omega)] at h; cases h
theorem LawEnv.free (V : LawEnv fr fa fn K mg) : ∀ x ∈ fr, mg x = none := fun x hx => by
  obtain ⟨hp, X, G, c⟩ := V
  obtain ⟨i, hi⟩ := List.getElem?_of_mem hx
  refine He.free_ok X G (c.fact (fa.length + i) (f := .free x) ?_)
  rw [List.getElem?_append_right (by omega), Nat.add_sub_cancel_left, List.getElem?_map, hi]
  rfl
theorem LawEnv.glo (V : LawEnv fr fa fn K mg) (i : Nat) {x : Str} (h : fa[i]? = some (.glo x)) : mg x = some (.ref (He.ga K x)) := by
  obtain ⟨hp, X, G, c⟩ := V.fact i h
  exact He.glo_ok X G c
theorem LawEnv.int (V : LawEnv fr fa fn K mg) (i : Nat) {x : Str} {z : Int} (h : fa[i]? = some (.int x z)) : ConsJ K mg x (.int z) := by
  obtain ⟨hp, X, G, c⟩ := V.fact i h
  obtain ⟨t, e⟩ := He.int_ok X G c
  exact ⟨_, .int z, e, ⟨t, rfl⟩, fun _ => rfl⟩
theorem LawEnv.str (V : LawEnv fr fa fn K mg) (i : Nat) {x z : Str} (h : fa[i]? = some (.str x z)) : ConsJ K mg x (.str z) := by
  obtain ⟨hp, X, G, c⟩ := V.fact i h
  obtain ⟨t, e⟩ := He.str_ok X G c
  exact ⟨_, .str z, e, ⟨t, rfl⟩, fun _ => rfl⟩
theorem LawEnv.def_ (V : LawEnv fr fa fn K mg) (i : Nat) {d : He.DefD} (h : fn[i]? = some d) : ∃ fd, FunD K d.name d.qual d.params d.body d.scope (d.dvs K) (d.kws K) (He.fAd K d.at_) fd := by
  obtain ⟨hp, X, G, c⟩ := V
  exact c.def_ i h
end
theorem fun_uniq {K : PySem.W.Frag} {x qual : Str} {params : Arguments} {body : List Stmt} {scope : Scope} {dvs : List V} {kws : List (Str × V)} {f : Addr} {fd fd2 : FuncData} (a : FunD K x qual params body scope dvs kws f fd) (b : FunD K x qual params body scope dvs kws f fd2) : fd = fd2 := by
  obtain ⟨oc, od, dV, kV, doc, pm, an, cdv, ct, osl, e, lk, _⟩ := a.ex
  obtain ⟨oc2, od2, dV2, kV2, doc2, pm2, an2, cdv2, ct2, osl2, e2, lk2, _⟩ := b.ex
  rw [lk] at lk2
  injection lk2 with h
  injection h with h1 h2 h3 h4
  injection h3
/-- the law's own call -/
theorem reps_ints {K : PySem.W.Frag} {G : Hp} : ∀ (ns : List Int), Reps K G (ns.map D.int) (ns.map V.int)
  | [] => rfl
  | n :: ns => ⟨_, _, rfl, rfl, reps_ints ns⟩
theorem law_sp {K : PySem.W.Frag} {F : FS} {H : Hp} {a : Addr} {ns : List Int} {n : Nat} {E : XK} (hF : ∀ ns : List Int, ns.length ≤ n → ∀ R : Sl → List Sl → Prop, (∀ o, R (.sh (.bl true)) o) → F [.sh (.klst (ns.map .int))] R) (hl : ns.length ≤ n) (hS : SqL K H a (ns.map V.int)) :
    spOf K F [.ref a] H (fun v _ => v = .bl true) E := by
  refine ⟨fun _ => none, H, _, fun r _ => r = .sh (.bl true), StRep.ofReps (as := [.klst (ns.map .int)]) (fun a o h => by cases h) (.refl _) (fun a o h => by cases h) ⟨_, [], rfl, ⟨a, _, rfl, hS, reps_ints ns⟩, rfl⟩, hF ns hl _ fun _ => rfl, fun r args' G' H' v S' e rr q => ?_⟩
  subst q
  exact rr
def noAt : Str → Str → Bool := fun _ _ => false
theorem noAt_ok {K : PySem.W.Frag} : AttrOk K noAt := fun _ _ h => by cases h
theorem fnOk_fal {P : Program} {w : World} {K : PySem.W.Frag} {mg : Str → Option Value} {base : Heap} {k : Nat} {f : Addr} {fd : FuncData} {ps : List Str} : FnOk P w K mg base CX0 k f fd ps (spOf K falF) :=
  ⟨fun vs H Q E ⟨B, G, args, R, S, h, _⟩ => h.elim, fun A outer s H args us vs Q E r e b v ⟨B, G, args', R, S, h, _⟩ => h.elim⟩
theorem ok_cast {P : Program} {w : World} {K : PySem.W.Frag} {mg : Str → Option Value} {base : Heap} {k k' : Nat} {f : Addr} {fd : FuncData} {ps : List Str} {sp : Sp} (h : FnOk P w K mg base CX0 k f fd ps sp) (e : k = k') : FnOk P w K mg base CX0 k' f fd ps sp := e ▸ h
/-- defaults that are plain -/
def csOf : List V → Option (List D)
  | [] => some []
  | .non :: vs => (csOf vs).map (.non :: ·)
  | .int i :: vs => (csOf vs).map (.int i :: ·)
  | .bl i :: vs => (csOf vs).map (.bl i :: ·)
  | .str i :: vs => (csOf vs).map (.str i :: ·)
  | _ :: _ => none
theorem reps_cs {K : PySem.W.Frag} {G : Hp} : ∀ {vs : List V} {ds : List D}, csOf vs = some ds → Reps K G ds vs
  | [], ds, h => by cases h; exact rfl
  | v :: vs, ds, h => by
    have go : ∀ {d : D}, Rep K G d v → (csOf vs).map (d :: ·) = some ds → Reps K G ds (v :: vs) := fun {d} r e => by
      obtain ⟨ys, h1, rfl⟩ := map_some e
      exact ⟨v, vs, rfl, r, reps_cs h1⟩
    cases v with
    | non => exact go (d := .non) rfl h
    | int i => exact go (d := .int i) rfl h
    | bl i => exact go (d := .bl i) rfl h
    | str i => exact go (d := .str i) rfl h
    | _ => cases h
/-! ### calls with keywords: the parameters' order -/
def consO {α : Type} : Option α → List α → List α
  | some x, l => x :: l
  | none, l => l
def pickO {α : Type} (k i : Nat) (ds us ks : List α) : Option α := match k with
  | 0 => us[i]?
  | 1 => ks[i]?
  | _ => ds[i]?
def pickG {α : Type} : List (Nat × Nat) → List α → List α → List α → List α
  | [], _, _, _ => []
  | q :: pm, ds, us, ks => consO (pickO q.1 q.2 ds us ks) (pickG pm ds us ks)
theorem vals_get {vs : List V} {us : List Value} (h : Vals vs us) : ∀ i : Nat, (vs[i]? = none ∧ us[i]? = none) ∨ ∃ v u, vs[i]? = some v ∧ us[i]? = some u ∧ RelV v u := by
  induction h with
  | nil => intro i; exact .inl ⟨rfl, rfl⟩
  | cons r t ih =>
    intro i
    cases i with
    | zero => exact .inr ⟨_, _, rfl, rfl, r⟩
    | succ i => exact ih i
theorem pick_rel : ∀ (pm : List (Nat × Nat)) {vs ds zs : List V} {us its ws : List Value}, Vals vs us → Vals ds its → Vals zs ws → Vals (pickG pm ds vs zs) (pickG pm its us ws)
  | [], vs, ds, zs, us, its, ws, h1, h2, h3 => .nil
  | q :: pm, vs, ds, zs, us, its, ws, h1, h2, h3 => by
    have ih := pick_rel pm h1 h2 h3
    have go : ∀ {a : Option V} {b : Option Value}, ((a = none ∧ b = none) ∨ ∃ v u, a = some v ∧ b = some u ∧ RelV v u) → Vals (consO a (pickG pm ds vs zs)) (consO b (pickG pm its us ws)) := fun h => by
      rcases h with ⟨rfl, rfl⟩ | ⟨v, u, rfl, rfl, r⟩
      · exact ih
      · exact .cons r ih
    obtain ⟨k, i⟩ := q
    match k with
    | 0 => exact go (vals_get h1 i)
    | 1 => exact go (vals_get h3 i)
    | k + 2 => exact go (vals_get h2 i)
theorem reps_get {K : PySem.W.Frag} {G : Hp} : ∀ {ds : List D} {vs : List V}, Reps K G ds vs → ∀ i : Nat, (ds[i]? = none ∧ vs[i]? = none) ∨ ∃ d v, ds[i]? = some d ∧ vs[i]? = some v ∧ Rep K G d v
  | [], vs, h, i => by rw [show vs = [] from h]; exact .inl ⟨rfl, rfl⟩
  | d :: ds, vs, h, 0 => by obtain ⟨v, r, rfl, h1, h2⟩ := h; exact .inr ⟨_, _, rfl, rfl, h1⟩
  | d :: ds, vs, h, i + 1 => by obtain ⟨v, r, rfl, h1, h2⟩ := h; exact reps_get h2 i
theorem pick_reps {K : PySem.W.Frag} {G : Hp} : ∀ (pm : List (Nat × Nat)) {as dl bs : List D} {vs dvs zs : List V}, Reps K G as vs → Reps K G dl dvs → Reps K G bs zs → Reps K G (pickG pm dl as bs) (pickG pm dvs vs zs)
  | [], as, dl, bs, vs, dvs, zs, h1, h2, h3 => rfl
  | q :: pm, as, dl, bs, vs, dvs, zs, h1, h2, h3 => by
    have ih := pick_reps pm h1 h2 h3
    have go : ∀ {a : Option D} {b : Option V}, ((a = none ∧ b = none) ∨ ∃ v u, a = some v ∧ b = some u ∧ Rep K G v u) → Reps K G (consO a (pickG pm dl as bs)) (consO b (pickG pm dvs vs zs)) := fun h => by
      rcases h with ⟨rfl, rfl⟩ | ⟨v, u, rfl, rfl, r⟩
      · exact ih
      · exact ⟨u, _, rfl, r, ih⟩
    obtain ⟨k, i⟩ := q
    match k with
    | 0 => exact go (reps_get h1 i)
    | 1 => exact go (reps_get h3 i)
    | k + 2 => exact go (reps_get h2 i)
theorem kbindsN {K : PySem.W.Frag} {x qual : Str} {params : Arguments} {body : List Stmt} {scope : Scope} {kws : List (Str × V)} {f : Addr} {fd : FuncData} {ps : List Str} (F : FunD K x qual params body scope [] kws f fd) (n : Nat) (ks : List Str) (pm : List (Nat × Nat))
    (h : ∀ (kV doc pmd : Value) (an : Option Addr) (cdv ct : Value) (us ws : List Value), us.length = n → ws.length = ks.length → bindArgs (PySem.W.fnOf x qual params body scope .none kV doc pmd an cdv ct) ⟨us, ks.zip ws⟩ = pure (ps.zip (pickG pm [] us ws))) :
    KBn K fd ps n ks (fun us ws => pickG pm [] us ws) (fun vs zs => pickG pm [] vs zs) := by
  obtain ⟨oc, od, dV, kV, doc, pmd, an, cdv, ct, osl, rfl, lk, hcd, hD, hK⟩ := F.ex
  rcases hD with ⟨_, rfl⟩ | ⟨e, _⟩
  · exact ⟨fun s us ws X l1 l2 => BindsTo.of_looks fun M => .of_pure (h kV doc pmd an cdv ct us ws l1 l2), fun r1 r2 => pick_rel pm r1 .nil r2⟩
  · exact absurd rfl e
/-! ### evaluation by simp -/
@[irreducible] def Later (M : Sem) (sts : List S) (N : DEnds) (s : DSt) : Prop := wSs M sts N s
theorem later {M : Sem} {sts : List S} {N : DEnds} {s : DSt} (h : wSs M sts N s) : Later M sts N s := by unfold Later; exact h
theorem wSs_cons {M : Sem} {st : S} {sts : List S} {N : DEnds} {s : DSt} : wSs M (st :: sts) N s = wS M st { nx := Later M sts N, rt := N.rt, bk := N.bk, ct := N.ct } s := by
  have e : Later M sts N = wSs M sts N := by funext s; unfold Later; rfl
  rw [e]
  rfl
theorem Later_nil {M : Sem} {N : DEnds} {s : DSt} : Later M [] N s = N.nx s := by unfold Later; rfl
theorem wSs_nil {M : Sem} {N : DEnds} {s : DSt} : wSs M [] N s = N.nx s := rfl
end DL

namespace DL
open PySem PySem.Spec PyProof.Rows
open L2 (Key)
abbrev topN (kp : List Nat) (n : Nat) (R : Sl → List Sl → Prop) : DEnds := { nx := fun s => R (.sh .non) (outA kp n s), rt := fun r s => R r (outA kp n s), bk := fun _ => False, ct := fun _ => False }
/-! ### loops -/
theorem forGo_ind {tg : Tg} {body : DS} {N : DEnds} (I : List D → DSt → Prop) (hn : ∀ s, I [] s → N.nx s)
    (hs : ∀ d ds s, I (d :: ds) s → ∀ K : DSt → Prop, (∀ s', I ds s' → K s') → ∃ s1, bindTg tg d s = some s1 ∧ body { nx := K, rt := N.rt, bk := N.nx, ct := K } s1) : ∀ (items : List D) (s : DSt), I items s → forGo tg body N items s
  | [], s, h => hn s h
  | d :: ds, s, h => by
    obtain ⟨s1, e, b⟩ := hs d ds s h (forGo tg body N ds) fun s' h' => forGo_ind I hn hs ds s' h'
    unfold forGo
    rw [e]
    exact b
theorem whGo_ind {t : DT} {body : DS} {N : DEnds} (I : Nat → DSt → Prop)
    (hs : ∀ n s, I n s → ∀ K : DSt → Prop, (∀ s', (∃ m, m < n ∧ I m s') → K s') → t s fun b s1 => if b = true then body { nx := K, rt := N.rt, bk := N.nx, ct := K } s1 else N.nx s1) : ∀ (n : Nat) (s : DSt), I n s → whGo t body N (n + 1) s := by
  have up : ∀ (n : Nat) (k : Nat) (s : DSt), I n s → n < k → whGo t body N k s := by
    intro n
    induction n using Nat.strongRecOn with
    | ind n ih =>
      intro k s h hk
      cases k with
      | zero => omega
      | succ k =>
        unfold whGo
        exact hs n s h (whGo t body N k) fun s' ⟨m, hm, hi⟩ => ih m hm k s' hi (by omega)
  intro n s h
  exact up n (n + 1) s h (by omega)
theorem wWhile_ind {t : DT} {body : DS} {N : DEnds} (I : Nat → DSt → Prop)
    (hs : ∀ n s, I n s → ∀ K : DSt → Prop, (∀ s', (∃ m, m < n ∧ I m s') → K s') → t s fun b s1 => if b = true then body { nx := K, rt := N.rt, bk := N.nx, ct := K } s1 else N.nx s1) (n : Nat) (s : DSt) (h : I n s) : wWhile t body N s :=
  ⟨n + 1, whGo_ind I hs n s h⟩
/-- a comprehension whose element and test change nothing -/
theorem lcGo_pure {tg : Tg} {own : List Nat} {tt : DT} {el : DE} {s : DSt} (p : D → Bool) (f : D → D) : ∀ (items : List D) (R : List D → DSt → Prop),
    (∀ d ∈ items, ∃ s1, bindTg tg d s = some s1 ∧ wipeS s1 own = s ∧ ∀ Q : Bool → DSt → Prop, Q (p d) s1 → tt s1 Q) →
    (∀ d ∈ items, p d = true → ∀ s1, bindTg tg d s = some s1 → ∀ Q : Sl → DSt → Prop, (∀ r, frz r = f d → Q r s1) → el s1 Q) →
    R ((items.filter p).map f) s → lcGo tg own tt el items s R
  | [], R, _, _, h => h
  | d :: ds, R, h1, h2, h => by
    obtain ⟨s1, e, w, t⟩ := h1 d (.head _)
    unfold lcGo
    rw [e]
    refine t _ ?_
    cases hp : p d with
    | true =>
      rw [if_pos rfl]
      refine h2 d (.head _) hp s1 e _ fun r hr => ?_
      rw [w]
      refine lcGo_pure p f ds _ (fun d m => h1 d (.tail _ m)) (fun d m => h2 d (.tail _ m)) ?_
      rw [List.filter_cons, if_pos hp, List.map_cons] at h
      rw [hr]
      exact h
    | false =>
      rw [if_neg (fun h => by cases h), w]
      refine lcGo_pure p f ds _ (fun d m => h1 d (.tail _ m)) (fun d m => h2 d (.tail _ m)) ?_
      rw [List.filter_cons, if_neg (by rw [hp]; exact fun h => by cases h)] at h
      exact h
theorem lcGo_map {tg : Tg} {own : List Nat} {el : DE} {s : DSt} (f : D → D) (items : List D) (R : List D → DSt → Prop)
    (h1 : ∀ d ∈ items, ∃ s1, bindTg tg d s = some s1 ∧ wipeS s1 own = s ∧ ∀ Q : Sl → DSt → Prop, (∀ r, frz r = f d → Q r s1) → el s1 Q)
    (h : R (items.map f) s) : lcGo tg own (fun s Q => Q true s) el items s R := by
  refine lcGo_pure (fun _ => true) f items R (fun d m => ?_) (fun d m _ s1 e => ?_) (by rw [List.filter_eq_self.mpr fun _ _ => rfl]; exact h)
  · obtain ⟨s1, a, b, _⟩ := h1 d m
    exact ⟨s1, a, b, fun Q q => q⟩
  · obtain ⟨s2, a, b, c⟩ := h1 d m
    rw [a] at e
    cases e
    exact c
theorem lcGo_mapg {α : Type} {tg : Tg} {own : List Nat} {el : DE} {s : DSt} (g f : α → D) : ∀ (l : List α) (R : List D → DSt → Prop),
    (∀ a ∈ l, ∃ s1, bindTg tg (g a) s = some s1 ∧ wipeS s1 own = s ∧ ∀ Q : Sl → DSt → Prop, (∀ r, frz r = f a → Q r s1) → el s1 Q) →
    R (l.map f) s → lcGo tg own (fun s Q => Q true s) el (l.map g) s R
  | [], R, _, h => h
  | a :: l, R, h1, h => by
    obtain ⟨s1, e, w, k⟩ := h1 a (.head _)
    rw [List.map_cons]
    unfold lcGo
    rw [e]
    show (if true = true then _ else _)
    rw [if_pos rfl]
    refine k _ fun r hr => ?_
    rw [w, hr]
    exact lcGo_mapg g f l _ (fun a m => h1 a (.tail _ m)) h
theorem lcGo_filtg {α : Type} {tg : Tg} {own : List Nat} {tt : DT} {el : DE} {s : DSt} (g f : α → D) (p : α → Bool) : ∀ (l : List α) (R : List D → DSt → Prop),
    (∀ a ∈ l, ∃ s1, bindTg tg (g a) s = some s1 ∧ wipeS s1 own = s ∧ (∀ Q : Bool → DSt → Prop, Q (p a) s1 → tt s1 Q) ∧ (p a = true → ∀ Q : Sl → DSt → Prop, (∀ r, frz r = f a → Q r s1) → el s1 Q)) →
    R ((l.filter p).map f) s → lcGo tg own tt el (l.map g) s R
  | [], R, _, h => h
  | a :: l, R, h1, h => by
    obtain ⟨s1, e, w, t, k⟩ := h1 a (.head _)
    rw [List.map_cons]
    unfold lcGo
    rw [e]
    refine t _ ?_
    cases hp : p a with
    | true =>
      rw [if_pos rfl]
      refine k hp _ fun r hr => ?_
      rw [w, hr]
      rw [List.filter_cons, if_pos hp, List.map_cons] at h
      exact lcGo_filtg g f p l _ (fun a m => h1 a (.tail _ m)) h
    | false =>
      rw [if_neg (fun h => by cases h), w]
      rw [List.filter_cons, if_neg (by rw [hp]; exact fun h => by cases h)] at h
      exact lcGo_filtg g f p l _ (fun a m => h1 a (.tail _ m)) h
/-- a comprehension without a test, with effects -/
theorem lcGo_rel {tg : Tg} {own : List Nat} {el : DE} (J : DSt → Prop) (P : D → D → Prop) : ∀ (items : List D) (s : DSt) (R : List D → DSt → Prop),
    (∀ d ∈ items, ∀ s, J s → ∃ s1, bindTg tg d s = some s1 ∧ ∀ K : Sl → DSt → Prop, (∀ r s', P d (frz r) → J (wipeS s' own) → K r s') → el s1 K) → J s →
    (∀ rs s', rs.length = items.length → (∀ (i : Nat) (d y : D), items[i]? = some d → rs[i]? = some y → P d y) → J s' → R rs s') → lcGo tg own (fun s Q => Q true s) el items s R
  | [], s, R, _, j, h => h [] s rfl (fun i d y e => by cases e) j
  | d :: ds, s, R, h1, j, h => by
    obtain ⟨s1, e, k⟩ := h1 d (.head _) s j
    unfold lcGo
    rw [e]
    show (if true = true then _ else _)
    rw [if_pos rfl]
    refine k _ fun r s' p j' => ?_
    refine lcGo_rel J P ds _ _ (fun d m => h1 d (.tail _ m)) j' fun rs s4 hl hp j4 => ?_
    refine h _ _ (congrArg Nat.succ hl) (fun i d' y e1 e2 => ?_) j4
    cases i with
    | zero => cases e1; cases e2; exact p
    | succ i => exact hp i d' y e1 e2
/-! ### comparisons of plain data -/
theorem eqD_int {i j : Int} {Q : Bool → Prop} : eqD (.int i) (.int j) Q = Q (i == j) := by
  show ((SeqAt.shaped (.int i) = true ∧ SeqAt.shaped (.int j) = true) ∧ Q (PyData.eqv (.int i) (.int j))) = _
  exact propext ⟨fun h => by simpa [PyData.eqv] using h.2, fun h => ⟨⟨rfl, rfl⟩, by simpa [PyData.eqv] using h⟩⟩
theorem eqD_bl {i j : Bool} {Q : Bool → Prop} : eqD (.bl i) (.bl j) Q = Q (i == j) := by
  show ((SeqAt.shaped (.bool i) = true ∧ SeqAt.shaped (.bool j) = true) ∧ Q (PyData.eqv (.bool i) (.bool j))) = _
  exact propext ⟨fun h => by simpa [PyData.eqv] using h.2, fun h => ⟨⟨rfl, rfl⟩, by simpa [PyData.eqv] using h⟩⟩
theorem eqD_str {i j : Str} {Q : Bool → Prop} : eqD (.str i) (.str j) Q = Q (i == j) := rfl
theorem eqD_non {Q : Bool → Prop} : eqD .non .non Q = Q true := by
  show ((SeqAt.shaped .none = true ∧ SeqAt.shaped .none = true) ∧ Q (PyData.eqv .none .none)) = _
  exact propext ⟨fun h => h.2, fun h => ⟨⟨rfl, rfl⟩, h⟩⟩
theorem ixN_lit (n i : Nat) : L2.ixN n (no_index (@OfNat.ofNat Int i instOfNat)) = if i < n then some i else none := by
  show L2.ixN n (i : Int) = _
  unfold L2.ixN
  rw [if_pos (by omega)]
  by_cases c : i < n
  · rw [if_pos (by omega), if_pos c, Int.toNat_natCast]
  · rw [if_neg (by omega), if_neg c]
theorem ixN_nat {n : Nat} {i : Int} (h0 : 0 ≤ i) (h : i < n) : L2.ixN n i = some i.toNat := by
  unfold L2.ixN
  rw [if_pos h0, if_pos h]
theorem atI_nat {α : Type} {xs : List α} {i : Int} {x : α} (h0 : 0 ≤ i) (h : xs[i.toNat]? = some x) : L2.atI xs i = some x := by
  unfold L2.atI
  rw [ixN_nat h0]
  · exact h
  · by_cases c : i.toNat < xs.length
    · omega
    · rw [List.getElem?_eq_none (by omega)] at h; cases h
theorem cutL_to {α : Type} (xs : List α) (k : Nat) : cutL xs none (some (k : Int)) = xs.take k := by
  unfold cutL
  rw [HT.sIx_none, HT.sIx_nat, List.drop_zero, Nat.sub_zero, List.take_eq_take_iff]
  omega
theorem cutL_from {α : Type} (xs : List α) (k : Nat) : cutL xs (some (k : Int)) none = xs.drop k := by
  unfold cutL
  rw [HT.sIx_none, HT.sIx_nat]
  by_cases c : k ≤ xs.length
  · rw [Nat.min_eq_left c, List.take_of_length_le (by rw [List.length_drop]; exact Nat.le_refl _)]
  · rw [Nat.min_eq_right (by omega), List.drop_eq_nil_of_le (Nat.le_refl _), List.drop_eq_nil_of_le (by omega), List.take_nil]
theorem lenD_items {t : D} {xs : List D} {R : Sl → Prop} (ht : itemsD t = some xs) (hl : xs.length ≤ sizeLine) (h : R (.sh (.int xs.length))) : lenD [t] R := by
  cases t with
  | lst ys => cases ht; exact h
  | klst ys => cases ht; exact h
  | tup ys => cases ht; exact h
  | str z =>
    cases ht
    have e : (charsD z).length = z.length := by unfold charsD; rw [List.length_map]; rfl
    rw [e] at h hl
    exact ⟨hl, h⟩
  | _ => cases ht
theorem idxD_items {t : D} {xs : List D} {R : Sl → Prop} {v : Int} {x : D} (ht : itemsD t = some xs) (hl : xs.length ≤ sizeLine) (h0 : 0 ≤ v) (hv : xs[v.toNat]? = some x) (h : R (.sh x)) : idxD t (.int v) R := by
  cases t with
  | lst ys => cases ht; simp only [idxD, atI_nat h0 hv]; exact h
  | klst ys => cases ht; simp only [idxD, atI_nat h0 hv]; exact h
  | tup ys => cases ht; simp only [idxD, atI_nat h0 hv]; exact h
  | str z =>
    cases ht
    have e : (charsD z).length = z.length := by unfold charsD; rw [List.length_map]; rfl
    rw [e] at hl
    unfold charsD at hv
    rw [List.getElem?_map] at hv
    obtain ⟨c, h1, rfl⟩ := map_some hv
    simp only [idxD, atI_nat h0 h1]
    exact ⟨hl, h⟩
  | _ => cases ht
theorem isT_NoneType_bool : isT "NoneType" "bool" = false := by decide
theorem isT_NoneType_int : isT "NoneType" "int" = false := by decide
theorem isT_NoneType_str : isT "NoneType" "str" = false := by decide
theorem isT_NoneType_list : isT "NoneType" "list" = false := by decide
theorem isT_NoneType_tuple : isT "NoneType" "tuple" = false := by decide
theorem isT_NoneType_dict : isT "NoneType" "dict" = false := by decide
theorem isT_bool_bool : isT "bool" "bool" = true := by decide
theorem isT_bool_int : isT "bool" "int" = true := by decide
theorem isT_bool_str : isT "bool" "str" = false := by decide
theorem isT_bool_list : isT "bool" "list" = false := by decide
theorem isT_bool_tuple : isT "bool" "tuple" = false := by decide
theorem isT_bool_dict : isT "bool" "dict" = false := by decide
theorem isT_int_bool : isT "int" "bool" = false := by decide
theorem isT_int_int : isT "int" "int" = true := by decide
theorem isT_int_str : isT "int" "str" = false := by decide
theorem isT_int_list : isT "int" "list" = false := by decide
theorem isT_int_tuple : isT "int" "tuple" = false := by decide
theorem isT_int_dict : isT "int" "dict" = false := by decide
theorem isT_str_bool : isT "str" "bool" = false := by decide
theorem isT_str_int : isT "str" "int" = false := by decide
theorem isT_str_str : isT "str" "str" = true := by decide
theorem isT_str_list : isT "str" "list" = false := by decide
theorem isT_str_tuple : isT "str" "tuple" = false := by decide
theorem isT_str_dict : isT "str" "dict" = false := by decide
theorem isT_list_bool : isT "list" "bool" = false := by decide
theorem isT_list_int : isT "list" "int" = false := by decide
theorem isT_list_str : isT "list" "str" = false := by decide
theorem isT_list_list : isT "list" "list" = true := by decide
theorem isT_list_tuple : isT "list" "tuple" = false := by decide
theorem isT_list_dict : isT "list" "dict" = false := by decide
theorem isT_tuple_bool : isT "tuple" "bool" = false := by decide
theorem isT_tuple_int : isT "tuple" "int" = false := by decide
theorem isT_tuple_str : isT "tuple" "str" = false := by decide
theorem isT_tuple_list : isT "tuple" "list" = false := by decide
theorem isT_tuple_tuple : isT "tuple" "tuple" = true := by decide
theorem isT_tuple_dict : isT "tuple" "dict" = false := by decide
theorem isT_dict_bool : isT "dict" "bool" = false := by decide
theorem isT_dict_int : isT "dict" "int" = false := by decide
theorem isT_dict_str : isT "dict" "str" = false := by decide
theorem isT_dict_list : isT "dict" "list" = false := by decide
theorem isT_dict_tuple : isT "dict" "tuple" = false := by decide
theorem isT_dict_dict : isT "dict" "dict" = true := by decide
theorem tyN_non : tyN .non = "NoneType" := rfl
theorem tyN_bl {b : Bool} : tyN (.bl b) = "bool" := rfl
theorem tyN_int {i : Int} : tyN (.int i) = "int" := rfl
theorem tyN_str {s : Str} : tyN (.str s) = "str" := rfl
theorem tyN_lst {xs : List D} : tyN (.lst xs) = "list" := rfl
theorem tyN_tup {xs : List D} : tyN (.tup xs) = "tuple" := rfl
theorem tyN_klst {xs : List D} : tyN (.klst xs) = "list" := rfl
theorem tyN_dic {ks : List Key} {xs : List D} : tyN (.dic ks xs) = "dict" := rfl
theorem charsD_len (z : Str) : (charsD z).length = z.length := by unfold charsD; rw [List.length_map]; rfl
theorem inD_ss {x y : Str} {Q : Bool → Prop} : inD (.str x) (.str y) Q = inStr x y Q := rfl
theorem inStr_one {c : Nat} {y : Str} {Q : Bool → Prop} : inStr ⟨#[c]⟩ y Q = Q (decide (c ∈ y.cps.toList)) := rfl
theorem wback_nil {args : List Sl} {s : DSt} : wback [] args s = s := by cases args <;> rfl
theorem wback_bor {i : Nat} {as : List Av} {a : Sl} {args : List Sl} {s : DSt} : wback (.bor i :: as) (a :: args) s = (wback as args s).set i a := rfl
theorem eqD_list {xs ys : List D} {ps qs : List PyData} {Q : Bool → Prop} (h1 : toPs xs = some ps) (h2 : toPs ys = some qs) (s1 : SeqAt.shaped (.list ps) = true) (s2 : SeqAt.shaped (.list qs) = true) (q : Q (PyData.eqv (.list ps) (.list qs))) : eqD (.lst xs) (.lst ys) Q := by
  show (match (toPs xs).map PyData.list, (toPs ys).map PyData.list with
    | some p, some q => (SeqAt.shaped p = true ∧ SeqAt.shaped q = true) ∧ Q (PyData.eqv p q)
    | _, _ => False)
  rw [h1, h2]
  exact ⟨⟨s1, s2⟩, q⟩
theorem shaped_list {ps : List PyData} (h : ∀ p ∈ ps, p.canLay0 = true ∧ p.depth = 0) : SeqAt.shaped (.list ps) = true := by
  have a : ∀ (ps : List PyData), (∀ p ∈ ps, p.canLay0 = true ∧ p.depth = 0) → PyData.canLayAll0 ps = true ∧ PyData.depthAll ps = 0 := fun ps => by
    induction ps with
    | nil => intro _; exact ⟨rfl, rfl⟩
    | cons p ps ih =>
      intro h
      obtain ⟨h1, h2⟩ := h p (.head _)
      obtain ⟨h3, h4⟩ := ih fun p m => h p (.tail _ m)
      refine ⟨?_, ?_⟩
      · show (PyData.canLay0 p && PyData.canLayAll0 ps) = true
        rw [h1, h3]; rfl
      · show max (PyData.depth p) (PyData.depthAll ps) = 0
        rw [h2, h4]; rfl
  obtain ⟨h1, h2⟩ := a ps h
  show (PyData.canLayAll0 ps && decide (PyData.depthAll ps + 1 ≤ 64)) = true
  rw [h1, h2]; rfl
theorem toPs_map {α : Type} (g : α → D) (p : α → PyData) (h : ∀ a, toP (g a) = some (p a)) (l : List α) : toPs (l.map g) = some (l.map p) := by
  induction l with
  | nil => rfl
  | cons a l ih =>
    show (match toP (g a), toPs (l.map g) with | some p, some ps => some (p :: ps) | _, _ => none) = _
    rw [ih, h a]; rfl
theorem char_ok {c : Nat} (h : c < 0x110000) : PyData.canLay0 (.str ⟨#[c]⟩) = true := by
  show PyData.strOk ⟨#[c]⟩ = true
  unfold PyData.strOk
  simp [h]
theorem le_size {n : Nat} (h : n ≤ 1000000) : (n ≤ sizeLine) = True := eq_true (Nat.le_trans h (by decide))
/-! ### the bag -/
def BagOk (d : D) : Prop := ∃ (ns : List Int) (i a b c : Int), d = .lst [.lst (ns.map .int), .int i, .int a, .int b, .int c] ∧ ns.length ≤ 63 ∧ 0 ≤ i ∧ 0 ≤ a ∧ 0 ≤ b ∧ b < 2147483629
def F_draw : FS := fun args R => ∃ d n, args = [.ow d, .sh (.int n)] ∧ BagOk d ∧ 0 < n ∧ n < 2 ^ 64 ∧ ∀ v d', 0 ≤ v → v < n → BagOk d' → R (.sh (.int v)) [.ow d', .no]
def F_of : FS := fun args R => ∃ d t xs, args = [.ow d, .sh t] ∧ BagOk d ∧ itemsD t = some xs ∧ 0 < xs.length ∧ xs.length ≤ 1000000 ∧ ∀ x d', x ∈ xs → BagOk d' → R (.sh x) [.ow d', .no]
def F_bag : FS := fun args R => ∃ ns : List Int, args = [.sh (.klst (ns.map .int))] ∧ ns.length ≤ 63 ∧ ∀ d o, BagOk d → R (.ow d) o
theorem draw_log {n : Int} (h : 0 < n) (h2 : n < 2 ^ 64) : n.natAbs.log2 < 9000 := by
  have h3 : n.natAbs < 2 ^ 64 := by omega
  have h4 : n.natAbs ≠ 0 := by omega
  have := (Nat.log2_lt h4).mpr h3
  omega
theorem intsOf_int (ns : List Int) : intsOf (ns.map .int) = some ns := intsOf_map ns
end DL

namespace K01
open PySem DL
open L2 (V FnOk FunD CX0 defArgs defBody defScope SqL FnScope)
def top (i : Nat) : Stmt := PySem.Challenge.pw_feeblind_k01_names_and_numbers_judged.main.body.getD i (.Pass ⟨0, 0, 0, 0⟩)
def dd (x : Str) (i : Nat) (dfl : List He.Dv) : He.DefD := ⟨(x, none), x, x, defArgs (top i), defBody (top i), defScope (top i), dfl, []⟩
def FR : List Str := ["all", "bool", "dict", "int", "isinstance", "len", "list", "range", "str", "tuple", "zip"]
def fa : List He.Fa := [.glo "is_name", .glo "is_number", .glo "_law_bag", .glo "_law_draw", .glo "_law_of", .glo "_law_like", .glo "_law_is_number", .glo "_law_is_title", .glo "_law_odd", .glo "_law_within", .glo "_law_far", .glo "_law_text", .glo "_law_names_so", .glo "_law_numbers_so", .glo "law", .int "LONGEST" 8, .str "LETTERS" "abcdefghijklmnopqrstuvwxyz", .int "MOST" 1000000, .int "PLENTY" 1000000000, .str "WHEEL" "car"]
def fn : List He.DefD := [dd "is_name" 6 [], dd "is_number" 7 [.int 0, .non], dd "_law_bag" 9 [], dd "_law_draw" 10 [], dd "_law_of" 11 [], dd "_law_like" 12 [], dd "_law_is_number" 13 [], dd "_law_is_title" 14 [], dd "_law_odd" 15 [], dd "_law_within" 16 [], dd "_law_far" 17 [], dd "_law_text" 18 [], dd "_law_names_so" 19 [], dd "_law_numbers_so" 20 [], dd "law" 21 []]
abbrev VE (K : PySem.W.Frag) (mg : Str → Option Value) : Prop := LawEnv FR fa fn K mg
abbrev F__law_bag := F_bag
abbrev F__law_draw := F_draw
abbrev F__law_of := F_of
def C__law_bag (lv : Nat) : CC := { N := ["_law_script", "_law_stir", "_law_lump"], sc := defScope (top 9), lv := lv, kp := [], brw := [], calls := [], bis := [("int", 1), ("list", 1)], cons := [], fr := FR }
def b__law_bag : List S := [(.set 1 (.int 13961)), (.for (.nm 2) (.slc (.var 0) .bad (.int 63)) [(.set 1 (.bin .Mod (.bi 0 [(.bin .Add (.bin .Add (.bin .Mult (.var 1) (.int 48271)) (.bin .Mult (.bin .Mod (.bi 0 [(.var 2)]) (.int 2147483563)) (.int 40014))) (.int 761))]) (.int 2147483629)))]), (.ret (.lst [(.bi 1 [(.slc (.var 0) .bad (.int 63))]), (.int 0), (.int 0), (.var 1), (.int 0)]))]
theorem sc__law_bag : FnScope ["_law_script", "_law_stir", "_law_lump"] ["_law_script"] (defScope (top 9)) := ⟨rfl, rfl, rfl, by decide +kernel, rfl, by decide +kernel, by decide +kernel⟩
theorem d__law_bag (lv : Nat) : DefC (C__law_bag lv) ["_law_script"] (defArgs (top 9)) (defBody (top 9)) (defScope (top 9)) b__law_bag := ⟨sc__law_bag, rfl, rfl, (show ∀ i ∈ ([] : List Nat), i < 1 by decide), by kernel_rfl⟩
abbrev M__law_bag : Sem := mkSem [] [] [intD, listD] [] [] noAt
theorem cut_ints (ns : List Int) : cutL (ns.map D.int) none (some 63) = (ns.take 63).map D.int := by
  rw [show (63 : Int) = ((63 : Nat) : Int) from rfl, cutL_to, List.map_take]
theorem p__law_bag : ∀ args R, F__law_bag args R → runF [] 1 3 (wSs M__law_bag b__law_bag) args R := by
  rintro args R ⟨ns, rfl, hl, hR⟩
  refine ⟨rfl, ?_⟩
  unfold b__law_bag
  simp only [dflF, kwF, shs, pickG, pickO, consO, Option.map_some, List.take_nil, wMeth, methD, joinD, strsOf_map, wSs_cons, wSs_nil, Later_nil, wS, wE, wT, wI, wX, wVl, wOl, wAv, mk3, mkT, mkI, opd, wIf, wOr, DL.wAnd, DL.wNot, wBool, wTru, wUn, wOp, wFn, wCons, wNil, wVCons, wVNil, wAvNil, wAvVal, wAvBor, wCall2, wC, wVar, wAndV, wOrV, wNotV, wIte, wLst, wTup, wDct, wChn, wSlc, partE, varOp, asOp, entry, content, resO, resOs, frz, wRet, wRetV, wRetN, wNext, wDrop, wSet, wUnp, wPar, wSti, wBrk, wCnt, wMut, muD, wSeq', wFor, wWhile, wLc, wRng1, wRng2, wZip, itemsD, nth, bindTg, bindTgs, noOw, wipeS, restore, wback_val, wback_nil, wback_bor, List.nodup_nil, List.nodup_cons, List.not_mem_nil, bors, resA, pairD, keyD, le_size, List.replicate_succ, List.replicate_zero, List.length_cons, List.length_nil, List.cons_append, List.nil_append, List.getElem?_cons_zero, List.getElem?_cons_succ, List.getElem?_nil, List.set_cons_zero, List.set_cons_succ, Option.isSome_some, List.map_cons, List.map_nil, List.all_cons, List.all_nil, List.any_cons, List.any_nil, Nat.reduceSub, Nat.reduceAdd, Nat.reduceLT, Nat.reduceLeDiff, reduceIte, reduceCtorEq, Bool.not_true, Bool.not_false, Bool.false_eq_true, and_true, true_and, List.drop_zero, List.drop_succ_cons, List.take_succ_cons, List.take_zero, lenD, intD, boolD, strD, listD, tupleD, allD, anyD, blsD, cmpB, cmpD, binD, addD, subD, mulD, fdivD, modD, powD, negD, idxD, slcD, truD, ltD, gtD, leD, geD, eqD_int, eqD_bl, eqD_str, eqD_non, L2.atI, ixN_lit, Int.reduceToNat, Option.bind_some, List.length_map, List.set_cons_zero, List.set_cons_succ, isNon, inD_ss, inStr_one, isiD, seqOf, lstOf, String.reduceNe, String.reduceEq, ne_eq, not_false_eq_true, not_true_eq_false, Bool.or_true, Bool.or_false, Bool.true_or, Bool.false_or, Bool.and_true, Bool.and_false, Bool.true_and, Bool.false_and, isT_NoneType_bool, isT_NoneType_int, isT_NoneType_str, isT_NoneType_list, isT_NoneType_tuple, isT_NoneType_dict, isT_bool_bool, isT_bool_int, isT_bool_str, isT_bool_list, isT_bool_tuple, isT_bool_dict, isT_int_bool, isT_int_int, isT_int_str, isT_int_list, isT_int_tuple, isT_int_dict, isT_str_bool, isT_str_int, isT_str_str, isT_str_list, isT_str_tuple, isT_str_dict, isT_list_bool, isT_list_int, isT_list_str, isT_list_list, isT_list_tuple, isT_list_dict, isT_tuple_bool, isT_tuple_int, isT_tuple_str, isT_tuple_list, isT_tuple_tuple, isT_tuple_dict, isT_dict_bool, isT_dict_int, isT_dict_str, isT_dict_list, isT_dict_tuple, isT_dict_dict, tyN_non, tyN_bl, tyN_int, tyN_str, tyN_lst, tyN_tup, tyN_klst, tyN_dic]
  apply later
  simp only [dflF, kwF, shs, pickG, pickO, consO, Option.map_some, List.take_nil, wMeth, methD, joinD, strsOf_map, wSs_cons, wSs_nil, Later_nil, wS, wE, wT, wI, wX, wVl, wOl, wAv, mk3, mkT, mkI, opd, wIf, wOr, DL.wAnd, DL.wNot, wBool, wTru, wUn, wOp, wFn, wCons, wNil, wVCons, wVNil, wAvNil, wAvVal, wAvBor, wCall2, wC, wVar, wAndV, wOrV, wNotV, wIte, wLst, wTup, wDct, wChn, wSlc, partE, varOp, asOp, entry, content, resO, resOs, frz, wRet, wRetV, wRetN, wNext, wDrop, wSet, wUnp, wPar, wSti, wBrk, wCnt, wMut, muD, wSeq', wFor, wWhile, wLc, wRng1, wRng2, wZip, itemsD, nth, bindTg, bindTgs, noOw, wipeS, restore, wback_val, wback_nil, wback_bor, List.nodup_nil, List.nodup_cons, List.not_mem_nil, bors, resA, pairD, keyD, le_size, List.replicate_succ, List.replicate_zero, List.length_cons, List.length_nil, List.cons_append, List.nil_append, List.getElem?_cons_zero, List.getElem?_cons_succ, List.getElem?_nil, List.set_cons_zero, List.set_cons_succ, Option.isSome_some, List.map_cons, List.map_nil, List.all_cons, List.all_nil, List.any_cons, List.any_nil, Nat.reduceSub, Nat.reduceAdd, Nat.reduceLT, Nat.reduceLeDiff, reduceIte, reduceCtorEq, Bool.not_true, Bool.not_false, Bool.false_eq_true, and_true, true_and, List.drop_zero, List.drop_succ_cons, List.take_succ_cons, List.take_zero, lenD, intD, boolD, strD, listD, tupleD, allD, anyD, blsD, cmpB, cmpD, binD, addD, subD, mulD, fdivD, modD, powD, negD, idxD, slcD, truD, ltD, gtD, leD, geD, eqD_int, eqD_bl, eqD_str, eqD_non, L2.atI, ixN_lit, Int.reduceToNat, Option.bind_some, List.length_map, List.set_cons_zero, List.set_cons_succ, isNon, inD_ss, inStr_one, isiD, seqOf, lstOf, String.reduceNe, String.reduceEq, ne_eq, not_false_eq_true, not_true_eq_false, Bool.or_true, Bool.or_false, Bool.true_or, Bool.false_or, Bool.and_true, Bool.and_false, Bool.true_and, Bool.false_and, isT_NoneType_bool, isT_NoneType_int, isT_NoneType_str, isT_NoneType_list, isT_NoneType_tuple, isT_NoneType_dict, isT_bool_bool, isT_bool_int, isT_bool_str, isT_bool_list, isT_bool_tuple, isT_bool_dict, isT_int_bool, isT_int_int, isT_int_str, isT_int_list, isT_int_tuple, isT_int_dict, isT_str_bool, isT_str_int, isT_str_str, isT_str_list, isT_str_tuple, isT_str_dict, isT_list_bool, isT_list_int, isT_list_str, isT_list_list, isT_list_tuple, isT_list_dict, isT_tuple_bool, isT_tuple_int, isT_tuple_str, isT_tuple_list, isT_tuple_tuple, isT_tuple_dict, isT_dict_bool, isT_dict_int, isT_dict_str, isT_dict_list, isT_dict_tuple, isT_dict_dict, tyN_non, tyN_bl, tyN_int, tyN_str, tyN_lst, tyN_tup, tyN_klst, tyN_dic]
  rw [cut_ints]
  refine forGo_ind (fun ds s => ∃ (ms : List Int) (t : Int) (y : Sl), ds = ms.map .int ∧ s = [.sh (.klst (ns.map .int)), .sh (.int t), y] ∧ 0 ≤ t ∧ t < 2147483629) ?_ ?_ _ _ ⟨_, 13961, .no, rfl, rfl, by decide, by decide⟩
  · rintro s ⟨ms, t, y, _, rfl, h1, h2⟩
    apply later
    simp only [dflF, kwF, shs, pickG, pickO, consO, Option.map_some, List.take_nil, wMeth, methD, joinD, strsOf_map, wSs_cons, wSs_nil, Later_nil, wS, wE, wT, wI, wX, wVl, wOl, wAv, mk3, mkT, mkI, opd, wIf, wOr, DL.wAnd, DL.wNot, wBool, wTru, wUn, wOp, wFn, wCons, wNil, wVCons, wVNil, wAvNil, wAvVal, wAvBor, wCall2, wC, wVar, wAndV, wOrV, wNotV, wIte, wLst, wTup, wDct, wChn, wSlc, partE, varOp, asOp, entry, content, resO, resOs, frz, wRet, wRetV, wRetN, wNext, wDrop, wSet, wUnp, wPar, wSti, wBrk, wCnt, wMut, muD, wSeq', wFor, wWhile, wLc, wRng1, wRng2, wZip, itemsD, nth, bindTg, bindTgs, noOw, wipeS, restore, wback_val, wback_nil, wback_bor, List.nodup_nil, List.nodup_cons, List.not_mem_nil, bors, resA, pairD, keyD, le_size, List.replicate_succ, List.replicate_zero, List.length_cons, List.length_nil, List.cons_append, List.nil_append, List.getElem?_cons_zero, List.getElem?_cons_succ, List.getElem?_nil, List.set_cons_zero, List.set_cons_succ, Option.isSome_some, List.map_cons, List.map_nil, List.all_cons, List.all_nil, List.any_cons, List.any_nil, Nat.reduceSub, Nat.reduceAdd, Nat.reduceLT, Nat.reduceLeDiff, reduceIte, reduceCtorEq, Bool.not_true, Bool.not_false, Bool.false_eq_true, and_true, true_and, List.drop_zero, List.drop_succ_cons, List.take_succ_cons, List.take_zero, lenD, intD, boolD, strD, listD, tupleD, allD, anyD, blsD, cmpB, cmpD, binD, addD, subD, mulD, fdivD, modD, powD, negD, idxD, slcD, truD, ltD, gtD, leD, geD, eqD_int, eqD_bl, eqD_str, eqD_non, L2.atI, ixN_lit, Int.reduceToNat, Option.bind_some, List.length_map, List.set_cons_zero, List.set_cons_succ, isNon, inD_ss, inStr_one, isiD, seqOf, lstOf, String.reduceNe, String.reduceEq, ne_eq, not_false_eq_true, not_true_eq_false, Bool.or_true, Bool.or_false, Bool.true_or, Bool.false_or, Bool.and_true, Bool.and_false, Bool.true_and, Bool.false_and, isT_NoneType_bool, isT_NoneType_int, isT_NoneType_str, isT_NoneType_list, isT_NoneType_tuple, isT_NoneType_dict, isT_bool_bool, isT_bool_int, isT_bool_str, isT_bool_list, isT_bool_tuple, isT_bool_dict, isT_int_bool, isT_int_int, isT_int_str, isT_int_list, isT_int_tuple, isT_int_dict, isT_str_bool, isT_str_int, isT_str_str, isT_str_list, isT_str_tuple, isT_str_dict, isT_list_bool, isT_list_int, isT_list_str, isT_list_list, isT_list_tuple, isT_list_dict, isT_tuple_bool, isT_tuple_int, isT_tuple_str, isT_tuple_list, isT_tuple_tuple, isT_tuple_dict, isT_dict_bool, isT_dict_int, isT_dict_str, isT_dict_list, isT_dict_tuple, isT_dict_dict, tyN_non, tyN_bl, tyN_int, tyN_str, tyN_lst, tyN_tup, tyN_klst, tyN_dic, cut_ints]
    exact hR _ _ ⟨ns.take 63, 0, 0, t, 0, rfl, by rw [List.length_take]; omega, by decide, by decide, h1, h2⟩
  · rintro d ds s ⟨ms, t, y, he, rfl, h1, h2⟩ K hK
    cases ms with
    | nil => cases he
    | cons m ms =>
      rw [List.map_cons] at he
      cases he
      refine ⟨_, rfl, ?_⟩
      simp only [dflF, kwF, shs, pickG, pickO, consO, Option.map_some, List.take_nil, wMeth, methD, joinD, strsOf_map, wSs_cons, wSs_nil, Later_nil, wS, wE, wT, wI, wX, wVl, wOl, wAv, mk3, mkT, mkI, opd, wIf, wOr, DL.wAnd, DL.wNot, wBool, wTru, wUn, wOp, wFn, wCons, wNil, wVCons, wVNil, wAvNil, wAvVal, wAvBor, wCall2, wC, wVar, wAndV, wOrV, wNotV, wIte, wLst, wTup, wDct, wChn, wSlc, partE, varOp, asOp, entry, content, resO, resOs, frz, wRet, wRetV, wRetN, wNext, wDrop, wSet, wUnp, wPar, wSti, wBrk, wCnt, wMut, muD, wSeq', wFor, wWhile, wLc, wRng1, wRng2, wZip, itemsD, nth, bindTg, bindTgs, noOw, wipeS, restore, wback_val, wback_nil, wback_bor, List.nodup_nil, List.nodup_cons, List.not_mem_nil, bors, resA, pairD, keyD, le_size, List.replicate_succ, List.replicate_zero, List.length_cons, List.length_nil, List.cons_append, List.nil_append, List.getElem?_cons_zero, List.getElem?_cons_succ, List.getElem?_nil, List.set_cons_zero, List.set_cons_succ, Option.isSome_some, List.map_cons, List.map_nil, List.all_cons, List.all_nil, List.any_cons, List.any_nil, Nat.reduceSub, Nat.reduceAdd, Nat.reduceLT, Nat.reduceLeDiff, reduceIte, reduceCtorEq, Bool.not_true, Bool.not_false, Bool.false_eq_true, and_true, true_and, List.drop_zero, List.drop_succ_cons, List.take_succ_cons, List.take_zero, lenD, intD, boolD, strD, listD, tupleD, allD, anyD, blsD, cmpB, cmpD, binD, addD, subD, mulD, fdivD, modD, powD, negD, idxD, slcD, truD, ltD, gtD, leD, geD, eqD_int, eqD_bl, eqD_str, eqD_non, L2.atI, ixN_lit, Int.reduceToNat, Option.bind_some, List.length_map, List.set_cons_zero, List.set_cons_succ, isNon, inD_ss, inStr_one, isiD, seqOf, lstOf, String.reduceNe, String.reduceEq, ne_eq, not_false_eq_true, not_true_eq_false, Bool.or_true, Bool.or_false, Bool.true_or, Bool.false_or, Bool.and_true, Bool.and_false, Bool.true_and, Bool.false_and, isT_NoneType_bool, isT_NoneType_int, isT_NoneType_str, isT_NoneType_list, isT_NoneType_tuple, isT_NoneType_dict, isT_bool_bool, isT_bool_int, isT_bool_str, isT_bool_list, isT_bool_tuple, isT_bool_dict, isT_int_bool, isT_int_int, isT_int_str, isT_int_list, isT_int_tuple, isT_int_dict, isT_str_bool, isT_str_int, isT_str_str, isT_str_list, isT_str_tuple, isT_str_dict, isT_list_bool, isT_list_int, isT_list_str, isT_list_list, isT_list_tuple, isT_list_dict, isT_tuple_bool, isT_tuple_int, isT_tuple_str, isT_tuple_list, isT_tuple_tuple, isT_tuple_dict, isT_dict_bool, isT_dict_int, isT_dict_str, isT_dict_list, isT_dict_tuple, isT_dict_dict, tyN_non, tyN_bl, tyN_int, tyN_str, tyN_lst, tyN_tup, tyN_klst, tyN_dic]
      refine ⟨.inl (.inr ⟨by decide, by decide⟩), by decide, .inl (.inr ⟨by decide, by decide⟩), by decide, ?_⟩
      exact hK _ ⟨ms, _, _, rfl, rfl, Int.emod_nonneg _ (by decide), Int.emod_lt_of_pos _ (by decide)⟩
theorem ok__law_bag {P : Program} {w : World} {K : PySem.W.Frag} {mg : Str → Option Value} {base : Heap} (V : VE K mg) : ∃ fd, FunD K "_law_bag" "_law_bag" (defArgs (top 9)) (defBody (top 9)) (defScope (top 9)) [] [] (He.ga K "_law_bag") fd ∧ FnOk P w K mg base CX0 1 (He.ga K "_law_bag") fd ["_law_script"] (spOf K F__law_bag) := by
  obtain ⟨fd, Fd⟩ := V.def_ 2 (d := dd "_law_bag" 9 []) rfl
  exact ⟨fd, Fd, fn_ok Fd (d__law_bag 0) (mkTab .nil (.cons rfl (.cons rfl .nil)) (show ([("int", 1), ("list", 1)] : List (Str × Nat)).all (fun c => decide (c.1 ∈ FR)) = true by decide +kernel) .nil .nil noAt_ok V.free) rfl p__law_bag⟩
theorem cj__law_bag_1 {P : Program} {w : World} {K : PySem.W.Frag} {mg : Str → Option Value} {base : Heap} {lv : Nat} (V : VE K mg) (h : 1 ≤ lv) : CallJ P w K mg base lv "_law_bag" 1 [] F__law_bag := by
  obtain ⟨fd, Fd, F⟩ := ok__law_bag (P := P) (w := w) (base := base) V
  exact callJ F h (V.glo 2 rfl) Fd.kp (FunD.bindsN Fd (fun _ _ _ _ _ _ us hl => match us, hl with | [_], _ => rfl)) 1
def C__law_draw (lv : Nat) : CC := { N := ["_law_bag_here", "_law_sides", "_law_lump", "_law_digit"], sc := defScope (top 10), lv := lv, kp := [0], brw := [0], calls := [], bis := [("len", 1), ("int", 1)], cons := [], fr := FR }
def b__law_draw : List S := [(.sti 0 (.int 4) (.bin .Add (.idx (.var 0) (.int 4)) (.int 1))), (.ifs (.and (.cmp .Eq (.idx (.var 0) (.int 2)) (.int 0)) (.cmp .Lt (.idx (.var 0) (.int 1)) (.bi 0 [(.idx (.var 0) (.int 0))]))) [(.set 2 (.bi 1 [(.idx (.idx (.var 0) (.int 0)) (.idx (.var 0) (.int 1)))])), (.sti 0 (.int 1) (.bin .Add (.idx (.var 0) (.int 1)) (.int 1))), (.ifs (.cmp .GtE (.var 2) (.bin .Pow (.int 10) (.int 18))) [(.sti 0 (.int 2) (.var 2))] [(.sti 0 (.int 3) (.bin .Mod (.bi 1 [(.bin .Add (.bin .Add (.bin .Mult (.idx (.var 0) (.int 3)) (.int 69621)) (.bin .Mult (.bin .Mod (.var 2) (.int 2147483549)) (.int 271))) (.int 97))]) (.int 2147483579)))])] []), (.ifs (.cmp .Gt (.idx (.var 0) (.int 2)) (.int 0)) [(.set 3 (.bin .Mod (.bi 1 [(.idx (.var 0) (.int 2))]) (.var 1))), (.sti 0 (.int 2) (.bin .FloorDiv (.idx (.var 0) (.int 2)) (.var 1))), (.retv 3)] []), (.sti 0 (.int 3) (.bin .Mod (.bi 1 [(.bin .Add (.bin .Add (.bin .Pow (.idx (.var 0) (.int 3)) (.int 3)) (.bin .Mult (.idx (.var 0) (.int 4)) (.int 1299709))) (.int 60013))]) (.int 2147483579))), (.ret (.bin .Mod (.bi 1 [(.bin .Add (.bin .FloorDiv (.idx (.var 0) (.int 3)) (.int 97)) (.bin .Mult (.bin .Mod (.bi 1 [(.idx (.var 0) (.int 3))]) (.int 7907)) (.int 268435459)))]) (.var 1)))]
theorem sc__law_draw : FnScope ["_law_bag_here", "_law_sides", "_law_lump", "_law_digit"] ["_law_bag_here", "_law_sides"] (defScope (top 10)) := ⟨rfl, rfl, rfl, by decide +kernel, rfl, by decide +kernel, by decide +kernel⟩
theorem d__law_draw (lv : Nat) : DefC (C__law_draw lv) ["_law_bag_here", "_law_sides"] (defArgs (top 10)) (defBody (top 10)) (defScope (top 10)) b__law_draw := ⟨sc__law_draw, rfl, rfl, (show ∀ i ∈ ([0] : List Nat), i < 2 by decide), by kernel_rfl⟩
abbrev M__law_draw : Sem := mkSem [0] [] [lenD, intD] [] [] noAt
theorem p__law_draw : ∀ args R, F__law_draw args R → runF [0] 2 4 (wSs M__law_draw b__law_draw) args R := by
  rintro args R ⟨d, n, rfl, ⟨ns, i, a, b, c, rfl, hl, hi, ha, hb, hb2⟩, hn, hn2, hR⟩
  refine ⟨rfl, ?_⟩
  have tail : ∀ (i a b c : Int) (x : Sl), 0 ≤ i → 0 ≤ a → 0 ≤ b → b < 2147483629 → Later M__law_draw (b__law_draw.drop 2) (topN [0] 2 R) [.ow (.lst [.lst (ns.map .int), .int i, .int a, .int b, .int c]), .sh (.int n), x, .no] := by
    intro i a b c x hi ha hb hb2
    refine later ?_
    unfold b__law_draw
    simp only [dflF, kwF, shs, pickG, pickO, consO, Option.map_some, List.take_nil, wMeth, methD, joinD, strsOf_map, wSs_cons, wSs_nil, Later_nil, wS, wE, wT, wI, wX, wVl, wOl, wAv, mk3, mkT, mkI, opd, wIf, wOr, DL.wAnd, DL.wNot, wBool, wTru, wUn, wOp, wFn, wCons, wNil, wVCons, wVNil, wAvNil, wAvVal, wAvBor, wCall2, wC, wVar, wAndV, wOrV, wNotV, wIte, wLst, wTup, wDct, wChn, wSlc, partE, varOp, asOp, entry, content, resO, resOs, frz, wRet, wRetV, wRetN, wNext, wDrop, wSet, wUnp, wPar, wSti, wBrk, wCnt, wMut, muD, wSeq', wFor, wWhile, wLc, wRng1, wRng2, wZip, itemsD, nth, bindTg, bindTgs, noOw, wipeS, restore, wback_val, wback_nil, wback_bor, List.nodup_nil, List.nodup_cons, List.not_mem_nil, bors, resA, pairD, keyD, le_size, List.replicate_succ, List.replicate_zero, List.length_cons, List.length_nil, List.cons_append, List.nil_append, List.getElem?_cons_zero, List.getElem?_cons_succ, List.getElem?_nil, List.set_cons_zero, List.set_cons_succ, Option.isSome_some, List.map_cons, List.map_nil, List.all_cons, List.all_nil, List.any_cons, List.any_nil, Nat.reduceSub, Nat.reduceAdd, Nat.reduceLT, Nat.reduceLeDiff, reduceIte, reduceCtorEq, Bool.not_true, Bool.not_false, Bool.false_eq_true, and_true, true_and, List.drop_zero, List.drop_succ_cons, List.take_succ_cons, List.take_zero, lenD, intD, boolD, strD, listD, tupleD, allD, anyD, blsD, cmpB, cmpD, binD, addD, subD, mulD, fdivD, modD, powD, negD, idxD, slcD, truD, ltD, gtD, leD, geD, eqD_int, eqD_bl, eqD_str, eqD_non, L2.atI, ixN_lit, Int.reduceToNat, Option.bind_some, List.length_map, List.set_cons_zero, List.set_cons_succ, isNon, inD_ss, inStr_one, isiD, seqOf, lstOf, String.reduceNe, String.reduceEq, ne_eq, not_false_eq_true, not_true_eq_false, Bool.or_true, Bool.or_false, Bool.true_or, Bool.false_or, Bool.and_true, Bool.and_false, Bool.true_and, Bool.false_and, isT_NoneType_bool, isT_NoneType_int, isT_NoneType_str, isT_NoneType_list, isT_NoneType_tuple, isT_NoneType_dict, isT_bool_bool, isT_bool_int, isT_bool_str, isT_bool_list, isT_bool_tuple, isT_bool_dict, isT_int_bool, isT_int_int, isT_int_str, isT_int_list, isT_int_tuple, isT_int_dict, isT_str_bool, isT_str_int, isT_str_str, isT_str_list, isT_str_tuple, isT_str_dict, isT_list_bool, isT_list_int, isT_list_str, isT_list_list, isT_list_tuple, isT_list_dict, isT_tuple_bool, isT_tuple_int, isT_tuple_str, isT_tuple_list, isT_tuple_tuple, isT_tuple_dict, isT_dict_bool, isT_dict_int, isT_dict_str, isT_dict_list, isT_dict_tuple, isT_dict_dict, tyN_non, tyN_bl, tyN_int, tyN_str, tyN_lst, tyN_tup, tyN_klst, tyN_dic]
    split
    · refine ⟨hn, ?_⟩
      (refine later ?_; simp only [dflF, kwF, shs, pickG, pickO, consO, Option.map_some, List.take_nil, wMeth, methD, joinD, strsOf_map, wSs_cons, wSs_nil, Later_nil, wS, wE, wT, wI, wX, wVl, wOl, wAv, mk3, mkT, mkI, opd, wIf, wOr, DL.wAnd, DL.wNot, wBool, wTru, wUn, wOp, wFn, wCons, wNil, wVCons, wVNil, wAvNil, wAvVal, wAvBor, wCall2, wC, wVar, wAndV, wOrV, wNotV, wIte, wLst, wTup, wDct, wChn, wSlc, partE, varOp, asOp, entry, content, resO, resOs, frz, wRet, wRetV, wRetN, wNext, wDrop, wSet, wUnp, wPar, wSti, wBrk, wCnt, wMut, muD, wSeq', wFor, wWhile, wLc, wRng1, wRng2, wZip, itemsD, nth, bindTg, bindTgs, noOw, wipeS, restore, wback_val, wback_nil, wback_bor, List.nodup_nil, List.nodup_cons, List.not_mem_nil, bors, resA, pairD, keyD, le_size, List.replicate_succ, List.replicate_zero, List.length_cons, List.length_nil, List.cons_append, List.nil_append, List.getElem?_cons_zero, List.getElem?_cons_succ, List.getElem?_nil, List.set_cons_zero, List.set_cons_succ, Option.isSome_some, List.map_cons, List.map_nil, List.all_cons, List.all_nil, List.any_cons, List.any_nil, Nat.reduceSub, Nat.reduceAdd, Nat.reduceLT, Nat.reduceLeDiff, reduceIte, reduceCtorEq, Bool.not_true, Bool.not_false, Bool.false_eq_true, and_true, true_and, List.drop_zero, List.drop_succ_cons, List.take_succ_cons, List.take_zero, lenD, intD, boolD, strD, listD, tupleD, allD, anyD, blsD, cmpB, cmpD, binD, addD, subD, mulD, fdivD, modD, powD, negD, idxD, slcD, truD, ltD, gtD, leD, geD, eqD_int, eqD_bl, eqD_str, eqD_non, L2.atI, ixN_lit, Int.reduceToNat, Option.bind_some, List.length_map, List.set_cons_zero, List.set_cons_succ, isNon, inD_ss, inStr_one, isiD, seqOf, lstOf, String.reduceNe, String.reduceEq, ne_eq, not_false_eq_true, not_true_eq_false, Bool.or_true, Bool.or_false, Bool.true_or, Bool.false_or, Bool.and_true, Bool.and_false, Bool.true_and, Bool.false_and, isT_NoneType_bool, isT_NoneType_int, isT_NoneType_str, isT_NoneType_list, isT_NoneType_tuple, isT_NoneType_dict, isT_bool_bool, isT_bool_int, isT_bool_str, isT_bool_list, isT_bool_tuple, isT_bool_dict, isT_int_bool, isT_int_int, isT_int_str, isT_int_list, isT_int_tuple, isT_int_dict, isT_str_bool, isT_str_int, isT_str_str, isT_str_list, isT_str_tuple, isT_str_dict, isT_list_bool, isT_list_int, isT_list_str, isT_list_list, isT_list_tuple, isT_list_dict, isT_tuple_bool, isT_tuple_int, isT_tuple_str, isT_tuple_list, isT_tuple_tuple, isT_tuple_dict, isT_dict_bool, isT_dict_int, isT_dict_str, isT_dict_list, isT_dict_tuple, isT_dict_dict, tyN_non, tyN_bl, tyN_int, tyN_str, tyN_lst, tyN_tup, tyN_klst, tyN_dic])
      refine ⟨⟨hn, draw_log hn hn2⟩, ?_⟩
      (refine later ?_; simp only [dflF, kwF, shs, pickG, pickO, consO, Option.map_some, List.take_nil, wMeth, methD, joinD, strsOf_map, wSs_cons, wSs_nil, Later_nil, wS, wE, wT, wI, wX, wVl, wOl, wAv, mk3, mkT, mkI, opd, wIf, wOr, DL.wAnd, DL.wNot, wBool, wTru, wUn, wOp, wFn, wCons, wNil, wVCons, wVNil, wAvNil, wAvVal, wAvBor, wCall2, wC, wVar, wAndV, wOrV, wNotV, wIte, wLst, wTup, wDct, wChn, wSlc, partE, varOp, asOp, entry, content, resO, resOs, frz, wRet, wRetV, wRetN, wNext, wDrop, wSet, wUnp, wPar, wSti, wBrk, wCnt, wMut, muD, wSeq', wFor, wWhile, wLc, wRng1, wRng2, wZip, itemsD, nth, bindTg, bindTgs, noOw, wipeS, restore, wback_val, wback_nil, wback_bor, List.nodup_nil, List.nodup_cons, List.not_mem_nil, bors, resA, pairD, keyD, le_size, List.replicate_succ, List.replicate_zero, List.length_cons, List.length_nil, List.cons_append, List.nil_append, List.getElem?_cons_zero, List.getElem?_cons_succ, List.getElem?_nil, List.set_cons_zero, List.set_cons_succ, Option.isSome_some, List.map_cons, List.map_nil, List.all_cons, List.all_nil, List.any_cons, List.any_nil, Nat.reduceSub, Nat.reduceAdd, Nat.reduceLT, Nat.reduceLeDiff, reduceIte, reduceCtorEq, Bool.not_true, Bool.not_false, Bool.false_eq_true, and_true, true_and, List.drop_zero, List.drop_succ_cons, List.take_succ_cons, List.take_zero, lenD, intD, boolD, strD, listD, tupleD, allD, anyD, blsD, cmpB, cmpD, binD, addD, subD, mulD, fdivD, modD, powD, negD, idxD, slcD, truD, ltD, gtD, leD, geD, eqD_int, eqD_bl, eqD_str, eqD_non, L2.atI, ixN_lit, Int.reduceToNat, Option.bind_some, List.length_map, List.set_cons_zero, List.set_cons_succ, isNon, inD_ss, inStr_one, isiD, seqOf, lstOf, String.reduceNe, String.reduceEq, ne_eq, not_false_eq_true, not_true_eq_false, Bool.or_true, Bool.or_false, Bool.true_or, Bool.false_or, Bool.and_true, Bool.and_false, Bool.true_and, Bool.false_and, isT_NoneType_bool, isT_NoneType_int, isT_NoneType_str, isT_NoneType_list, isT_NoneType_tuple, isT_NoneType_dict, isT_bool_bool, isT_bool_int, isT_bool_str, isT_bool_list, isT_bool_tuple, isT_bool_dict, isT_int_bool, isT_int_int, isT_int_str, isT_int_list, isT_int_tuple, isT_int_dict, isT_str_bool, isT_str_int, isT_str_str, isT_str_list, isT_str_tuple, isT_str_dict, isT_list_bool, isT_list_int, isT_list_str, isT_list_list, isT_list_tuple, isT_list_dict, isT_tuple_bool, isT_tuple_int, isT_tuple_str, isT_tuple_list, isT_tuple_tuple, isT_tuple_dict, isT_dict_bool, isT_dict_int, isT_dict_str, isT_dict_list, isT_dict_tuple, isT_dict_dict, tyN_non, tyN_bl, tyN_int, tyN_str, tyN_lst, tyN_tup, tyN_klst, tyN_dic])
      exact hR _ _ (Int.emod_nonneg _ (by omega)) (Int.emod_lt_of_pos _ hn) ⟨ns, i, a / n, b, c, rfl, hl, hi, Int.ediv_nonneg ha (by omega), hb, hb2⟩
    · (refine later ?_; simp only [dflF, kwF, shs, pickG, pickO, consO, Option.map_some, List.take_nil, wMeth, methD, joinD, strsOf_map, wSs_cons, wSs_nil, Later_nil, wS, wE, wT, wI, wX, wVl, wOl, wAv, mk3, mkT, mkI, opd, wIf, wOr, DL.wAnd, DL.wNot, wBool, wTru, wUn, wOp, wFn, wCons, wNil, wVCons, wVNil, wAvNil, wAvVal, wAvBor, wCall2, wC, wVar, wAndV, wOrV, wNotV, wIte, wLst, wTup, wDct, wChn, wSlc, partE, varOp, asOp, entry, content, resO, resOs, frz, wRet, wRetV, wRetN, wNext, wDrop, wSet, wUnp, wPar, wSti, wBrk, wCnt, wMut, muD, wSeq', wFor, wWhile, wLc, wRng1, wRng2, wZip, itemsD, nth, bindTg, bindTgs, noOw, wipeS, restore, wback_val, wback_nil, wback_bor, List.nodup_nil, List.nodup_cons, List.not_mem_nil, bors, resA, pairD, keyD, le_size, List.replicate_succ, List.replicate_zero, List.length_cons, List.length_nil, List.cons_append, List.nil_append, List.getElem?_cons_zero, List.getElem?_cons_succ, List.getElem?_nil, List.set_cons_zero, List.set_cons_succ, Option.isSome_some, List.map_cons, List.map_nil, List.all_cons, List.all_nil, List.any_cons, List.any_nil, Nat.reduceSub, Nat.reduceAdd, Nat.reduceLT, Nat.reduceLeDiff, reduceIte, reduceCtorEq, Bool.not_true, Bool.not_false, Bool.false_eq_true, and_true, true_and, List.drop_zero, List.drop_succ_cons, List.take_succ_cons, List.take_zero, lenD, intD, boolD, strD, listD, tupleD, allD, anyD, blsD, cmpB, cmpD, binD, addD, subD, mulD, fdivD, modD, powD, negD, idxD, slcD, truD, ltD, gtD, leD, geD, eqD_int, eqD_bl, eqD_str, eqD_non, L2.atI, ixN_lit, Int.reduceToNat, Option.bind_some, List.length_map, List.set_cons_zero, List.set_cons_succ, isNon, inD_ss, inStr_one, isiD, seqOf, lstOf, String.reduceNe, String.reduceEq, ne_eq, not_false_eq_true, not_true_eq_false, Bool.or_true, Bool.or_false, Bool.true_or, Bool.false_or, Bool.and_true, Bool.and_false, Bool.true_and, Bool.false_and, isT_NoneType_bool, isT_NoneType_int, isT_NoneType_str, isT_NoneType_list, isT_NoneType_tuple, isT_NoneType_dict, isT_bool_bool, isT_bool_int, isT_bool_str, isT_bool_list, isT_bool_tuple, isT_bool_dict, isT_int_bool, isT_int_int, isT_int_str, isT_int_list, isT_int_tuple, isT_int_dict, isT_str_bool, isT_str_int, isT_str_str, isT_str_list, isT_str_tuple, isT_str_dict, isT_list_bool, isT_list_int, isT_list_str, isT_list_list, isT_list_tuple, isT_list_dict, isT_tuple_bool, isT_tuple_int, isT_tuple_str, isT_tuple_list, isT_tuple_tuple, isT_tuple_dict, isT_dict_bool, isT_dict_int, isT_dict_str, isT_dict_list, isT_dict_tuple, isT_dict_dict, tyN_non, tyN_bl, tyN_int, tyN_str, tyN_lst, tyN_tup, tyN_klst, tyN_dic])
      refine ⟨⟨by decide, by decide, by omega⟩, .inl (.inr ⟨by decide, by decide⟩), by decide, ?_⟩
      (refine later ?_; simp only [dflF, kwF, shs, pickG, pickO, consO, Option.map_some, List.take_nil, wMeth, methD, joinD, strsOf_map, wSs_cons, wSs_nil, Later_nil, wS, wE, wT, wI, wX, wVl, wOl, wAv, mk3, mkT, mkI, opd, wIf, wOr, DL.wAnd, DL.wNot, wBool, wTru, wUn, wOp, wFn, wCons, wNil, wVCons, wVNil, wAvNil, wAvVal, wAvBor, wCall2, wC, wVar, wAndV, wOrV, wNotV, wIte, wLst, wTup, wDct, wChn, wSlc, partE, varOp, asOp, entry, content, resO, resOs, frz, wRet, wRetV, wRetN, wNext, wDrop, wSet, wUnp, wPar, wSti, wBrk, wCnt, wMut, muD, wSeq', wFor, wWhile, wLc, wRng1, wRng2, wZip, itemsD, nth, bindTg, bindTgs, noOw, wipeS, restore, wback_val, wback_nil, wback_bor, List.nodup_nil, List.nodup_cons, List.not_mem_nil, bors, resA, pairD, keyD, le_size, List.replicate_succ, List.replicate_zero, List.length_cons, List.length_nil, List.cons_append, List.nil_append, List.getElem?_cons_zero, List.getElem?_cons_succ, List.getElem?_nil, List.set_cons_zero, List.set_cons_succ, Option.isSome_some, List.map_cons, List.map_nil, List.all_cons, List.all_nil, List.any_cons, List.any_nil, Nat.reduceSub, Nat.reduceAdd, Nat.reduceLT, Nat.reduceLeDiff, reduceIte, reduceCtorEq, Bool.not_true, Bool.not_false, Bool.false_eq_true, and_true, true_and, List.drop_zero, List.drop_succ_cons, List.take_succ_cons, List.take_zero, lenD, intD, boolD, strD, listD, tupleD, allD, anyD, blsD, cmpB, cmpD, binD, addD, subD, mulD, fdivD, modD, powD, negD, idxD, slcD, truD, ltD, gtD, leD, geD, eqD_int, eqD_bl, eqD_str, eqD_non, L2.atI, ixN_lit, Int.reduceToNat, Option.bind_some, List.length_map, List.set_cons_zero, List.set_cons_succ, isNon, inD_ss, inStr_one, isiD, seqOf, lstOf, String.reduceNe, String.reduceEq, ne_eq, not_false_eq_true, not_true_eq_false, Bool.or_true, Bool.or_false, Bool.true_or, Bool.false_or, Bool.and_true, Bool.and_false, Bool.true_and, Bool.false_and, isT_NoneType_bool, isT_NoneType_int, isT_NoneType_str, isT_NoneType_list, isT_NoneType_tuple, isT_NoneType_dict, isT_bool_bool, isT_bool_int, isT_bool_str, isT_bool_list, isT_bool_tuple, isT_bool_dict, isT_int_bool, isT_int_int, isT_int_str, isT_int_list, isT_int_tuple, isT_int_dict, isT_str_bool, isT_str_int, isT_str_str, isT_str_list, isT_str_tuple, isT_str_dict, isT_list_bool, isT_list_int, isT_list_str, isT_list_list, isT_list_tuple, isT_list_dict, isT_tuple_bool, isT_tuple_int, isT_tuple_str, isT_tuple_list, isT_tuple_tuple, isT_tuple_dict, isT_dict_bool, isT_dict_int, isT_dict_str, isT_dict_list, isT_dict_tuple, isT_dict_dict, tyN_non, tyN_bl, tyN_int, tyN_str, tyN_lst, tyN_tup, tyN_klst, tyN_dic])
      have e1 := Int.emod_nonneg (b ^ 3 + c * 1299709 + 60013) (b := 2147483579) (by decide)
      have e2 := Int.emod_lt_of_pos (b ^ 3 + c * 1299709 + 60013) (b := 2147483579) (by decide)
      refine ⟨⟨by decide, by decide⟩, by decide, .inl (.inr ⟨by decide, by decide⟩), hn, ?_⟩
      exact hR _ _ (Int.emod_nonneg _ (by omega)) (Int.emod_lt_of_pos _ hn) ⟨ns, i, a, _, c, rfl, hl, hi, ha, e1, by omega⟩
  unfold b__law_draw
  simp only [dflF, kwF, shs, pickG, pickO, consO, Option.map_some, List.take_nil, wMeth, methD, joinD, strsOf_map, wSs_cons, wSs_nil, Later_nil, wS, wE, wT, wI, wX, wVl, wOl, wAv, mk3, mkT, mkI, opd, wIf, wOr, DL.wAnd, DL.wNot, wBool, wTru, wUn, wOp, wFn, wCons, wNil, wVCons, wVNil, wAvNil, wAvVal, wAvBor, wCall2, wC, wVar, wAndV, wOrV, wNotV, wIte, wLst, wTup, wDct, wChn, wSlc, partE, varOp, asOp, entry, content, resO, resOs, frz, wRet, wRetV, wRetN, wNext, wDrop, wSet, wUnp, wPar, wSti, wBrk, wCnt, wMut, muD, wSeq', wFor, wWhile, wLc, wRng1, wRng2, wZip, itemsD, nth, bindTg, bindTgs, noOw, wipeS, restore, wback_val, wback_nil, wback_bor, List.nodup_nil, List.nodup_cons, List.not_mem_nil, bors, resA, pairD, keyD, le_size, List.replicate_succ, List.replicate_zero, List.length_cons, List.length_nil, List.cons_append, List.nil_append, List.getElem?_cons_zero, List.getElem?_cons_succ, List.getElem?_nil, List.set_cons_zero, List.set_cons_succ, Option.isSome_some, List.map_cons, List.map_nil, List.all_cons, List.all_nil, List.any_cons, List.any_nil, Nat.reduceSub, Nat.reduceAdd, Nat.reduceLT, Nat.reduceLeDiff, reduceIte, reduceCtorEq, Bool.not_true, Bool.not_false, Bool.false_eq_true, and_true, true_and, List.drop_zero, List.drop_succ_cons, List.take_succ_cons, List.take_zero, lenD, intD, boolD, strD, listD, tupleD, allD, anyD, blsD, cmpB, cmpD, binD, addD, subD, mulD, fdivD, modD, powD, negD, idxD, slcD, truD, ltD, gtD, leD, geD, eqD_int, eqD_bl, eqD_str, eqD_non, L2.atI, ixN_lit, Int.reduceToNat, Option.bind_some, List.length_map, List.set_cons_zero, List.set_cons_succ, isNon, inD_ss, inStr_one, isiD, seqOf, lstOf, String.reduceNe, String.reduceEq, ne_eq, not_false_eq_true, not_true_eq_false, Bool.or_true, Bool.or_false, Bool.true_or, Bool.false_or, Bool.and_true, Bool.and_false, Bool.true_and, Bool.false_and, isT_NoneType_bool, isT_NoneType_int, isT_NoneType_str, isT_NoneType_list, isT_NoneType_tuple, isT_NoneType_dict, isT_bool_bool, isT_bool_int, isT_bool_str, isT_bool_list, isT_bool_tuple, isT_bool_dict, isT_int_bool, isT_int_int, isT_int_str, isT_int_list, isT_int_tuple, isT_int_dict, isT_str_bool, isT_str_int, isT_str_str, isT_str_list, isT_str_tuple, isT_str_dict, isT_list_bool, isT_list_int, isT_list_str, isT_list_list, isT_list_tuple, isT_list_dict, isT_tuple_bool, isT_tuple_int, isT_tuple_str, isT_tuple_list, isT_tuple_tuple, isT_tuple_dict, isT_dict_bool, isT_dict_int, isT_dict_str, isT_dict_list, isT_dict_tuple, isT_dict_dict, tyN_non, tyN_bl, tyN_int, tyN_str, tyN_lst, tyN_tup, tyN_klst, tyN_dic]
  (refine later ?_; simp only [dflF, kwF, shs, pickG, pickO, consO, Option.map_some, List.take_nil, wMeth, methD, joinD, strsOf_map, wSs_cons, wSs_nil, Later_nil, wS, wE, wT, wI, wX, wVl, wOl, wAv, mk3, mkT, mkI, opd, wIf, wOr, DL.wAnd, DL.wNot, wBool, wTru, wUn, wOp, wFn, wCons, wNil, wVCons, wVNil, wAvNil, wAvVal, wAvBor, wCall2, wC, wVar, wAndV, wOrV, wNotV, wIte, wLst, wTup, wDct, wChn, wSlc, partE, varOp, asOp, entry, content, resO, resOs, frz, wRet, wRetV, wRetN, wNext, wDrop, wSet, wUnp, wPar, wSti, wBrk, wCnt, wMut, muD, wSeq', wFor, wWhile, wLc, wRng1, wRng2, wZip, itemsD, nth, bindTg, bindTgs, noOw, wipeS, restore, wback_val, wback_nil, wback_bor, List.nodup_nil, List.nodup_cons, List.not_mem_nil, bors, resA, pairD, keyD, le_size, List.replicate_succ, List.replicate_zero, List.length_cons, List.length_nil, List.cons_append, List.nil_append, List.getElem?_cons_zero, List.getElem?_cons_succ, List.getElem?_nil, List.set_cons_zero, List.set_cons_succ, Option.isSome_some, List.map_cons, List.map_nil, List.all_cons, List.all_nil, List.any_cons, List.any_nil, Nat.reduceSub, Nat.reduceAdd, Nat.reduceLT, Nat.reduceLeDiff, reduceIte, reduceCtorEq, Bool.not_true, Bool.not_false, Bool.false_eq_true, and_true, true_and, List.drop_zero, List.drop_succ_cons, List.take_succ_cons, List.take_zero, lenD, intD, boolD, strD, listD, tupleD, allD, anyD, blsD, cmpB, cmpD, binD, addD, subD, mulD, fdivD, modD, powD, negD, idxD, slcD, truD, ltD, gtD, leD, geD, eqD_int, eqD_bl, eqD_str, eqD_non, L2.atI, ixN_lit, Int.reduceToNat, Option.bind_some, List.length_map, List.set_cons_zero, List.set_cons_succ, isNon, inD_ss, inStr_one, isiD, seqOf, lstOf, String.reduceNe, String.reduceEq, ne_eq, not_false_eq_true, not_true_eq_false, Bool.or_true, Bool.or_false, Bool.true_or, Bool.false_or, Bool.and_true, Bool.and_false, Bool.true_and, Bool.false_and, isT_NoneType_bool, isT_NoneType_int, isT_NoneType_str, isT_NoneType_list, isT_NoneType_tuple, isT_NoneType_dict, isT_bool_bool, isT_bool_int, isT_bool_str, isT_bool_list, isT_bool_tuple, isT_bool_dict, isT_int_bool, isT_int_int, isT_int_str, isT_int_list, isT_int_tuple, isT_int_dict, isT_str_bool, isT_str_int, isT_str_str, isT_str_list, isT_str_tuple, isT_str_dict, isT_list_bool, isT_list_int, isT_list_str, isT_list_list, isT_list_tuple, isT_list_dict, isT_tuple_bool, isT_tuple_int, isT_tuple_str, isT_tuple_list, isT_tuple_tuple, isT_tuple_dict, isT_dict_bool, isT_dict_int, isT_dict_str, isT_dict_list, isT_dict_tuple, isT_dict_dict, tyN_non, tyN_bl, tyN_int, tyN_str, tyN_lst, tyN_tup, tyN_klst, tyN_dic])
  split
  · split
    · rename_i h1 h2
      have h2 := of_decide_eq_true h2
      obtain ⟨m, hm⟩ : ∃ m, ns[i.toNat]? = some m := ⟨_, List.getElem?_eq_getElem (by omega)⟩
      rw [ixN_nat hi h2]
      simp only [Option.bind_some, List.getElem?_map, hm, Option.map_some]
      (refine later ?_; simp only [dflF, kwF, shs, pickG, pickO, consO, Option.map_some, List.take_nil, wMeth, methD, joinD, strsOf_map, wSs_cons, wSs_nil, Later_nil, wS, wE, wT, wI, wX, wVl, wOl, wAv, mk3, mkT, mkI, opd, wIf, wOr, DL.wAnd, DL.wNot, wBool, wTru, wUn, wOp, wFn, wCons, wNil, wVCons, wVNil, wAvNil, wAvVal, wAvBor, wCall2, wC, wVar, wAndV, wOrV, wNotV, wIte, wLst, wTup, wDct, wChn, wSlc, partE, varOp, asOp, entry, content, resO, resOs, frz, wRet, wRetV, wRetN, wNext, wDrop, wSet, wUnp, wPar, wSti, wBrk, wCnt, wMut, muD, wSeq', wFor, wWhile, wLc, wRng1, wRng2, wZip, itemsD, nth, bindTg, bindTgs, noOw, wipeS, restore, wback_val, wback_nil, wback_bor, List.nodup_nil, List.nodup_cons, List.not_mem_nil, bors, resA, pairD, keyD, le_size, List.replicate_succ, List.replicate_zero, List.length_cons, List.length_nil, List.cons_append, List.nil_append, List.getElem?_cons_zero, List.getElem?_cons_succ, List.getElem?_nil, List.set_cons_zero, List.set_cons_succ, Option.isSome_some, List.map_cons, List.map_nil, List.all_cons, List.all_nil, List.any_cons, List.any_nil, Nat.reduceSub, Nat.reduceAdd, Nat.reduceLT, Nat.reduceLeDiff, reduceIte, reduceCtorEq, Bool.not_true, Bool.not_false, Bool.false_eq_true, and_true, true_and, List.drop_zero, List.drop_succ_cons, List.take_succ_cons, List.take_zero, lenD, intD, boolD, strD, listD, tupleD, allD, anyD, blsD, cmpB, cmpD, binD, addD, subD, mulD, fdivD, modD, powD, negD, idxD, slcD, truD, ltD, gtD, leD, geD, eqD_int, eqD_bl, eqD_str, eqD_non, L2.atI, ixN_lit, Int.reduceToNat, Option.bind_some, List.length_map, List.set_cons_zero, List.set_cons_succ, isNon, inD_ss, inStr_one, isiD, seqOf, lstOf, String.reduceNe, String.reduceEq, ne_eq, not_false_eq_true, not_true_eq_false, Bool.or_true, Bool.or_false, Bool.true_or, Bool.false_or, Bool.and_true, Bool.and_false, Bool.true_and, Bool.false_and, isT_NoneType_bool, isT_NoneType_int, isT_NoneType_str, isT_NoneType_list, isT_NoneType_tuple, isT_NoneType_dict, isT_bool_bool, isT_bool_int, isT_bool_str, isT_bool_list, isT_bool_tuple, isT_bool_dict, isT_int_bool, isT_int_int, isT_int_str, isT_int_list, isT_int_tuple, isT_int_dict, isT_str_bool, isT_str_int, isT_str_str, isT_str_list, isT_str_tuple, isT_str_dict, isT_list_bool, isT_list_int, isT_list_str, isT_list_list, isT_list_tuple, isT_list_dict, isT_tuple_bool, isT_tuple_int, isT_tuple_str, isT_tuple_list, isT_tuple_tuple, isT_tuple_dict, isT_dict_bool, isT_dict_int, isT_dict_str, isT_dict_list, isT_dict_tuple, isT_dict_dict, tyN_non, tyN_bl, tyN_int, tyN_str, tyN_lst, tyN_tup, tyN_klst, tyN_dic])
      (refine later ?_; simp only [dflF, kwF, shs, pickG, pickO, consO, Option.map_some, List.take_nil, wMeth, methD, joinD, strsOf_map, wSs_cons, wSs_nil, Later_nil, wS, wE, wT, wI, wX, wVl, wOl, wAv, mk3, mkT, mkI, opd, wIf, wOr, DL.wAnd, DL.wNot, wBool, wTru, wUn, wOp, wFn, wCons, wNil, wVCons, wVNil, wAvNil, wAvVal, wAvBor, wCall2, wC, wVar, wAndV, wOrV, wNotV, wIte, wLst, wTup, wDct, wChn, wSlc, partE, varOp, asOp, entry, content, resO, resOs, frz, wRet, wRetV, wRetN, wNext, wDrop, wSet, wUnp, wPar, wSti, wBrk, wCnt, wMut, muD, wSeq', wFor, wWhile, wLc, wRng1, wRng2, wZip, itemsD, nth, bindTg, bindTgs, noOw, wipeS, restore, wback_val, wback_nil, wback_bor, List.nodup_nil, List.nodup_cons, List.not_mem_nil, bors, resA, pairD, keyD, le_size, List.replicate_succ, List.replicate_zero, List.length_cons, List.length_nil, List.cons_append, List.nil_append, List.getElem?_cons_zero, List.getElem?_cons_succ, List.getElem?_nil, List.set_cons_zero, List.set_cons_succ, Option.isSome_some, List.map_cons, List.map_nil, List.all_cons, List.all_nil, List.any_cons, List.any_nil, Nat.reduceSub, Nat.reduceAdd, Nat.reduceLT, Nat.reduceLeDiff, reduceIte, reduceCtorEq, Bool.not_true, Bool.not_false, Bool.false_eq_true, and_true, true_and, List.drop_zero, List.drop_succ_cons, List.take_succ_cons, List.take_zero, lenD, intD, boolD, strD, listD, tupleD, allD, anyD, blsD, cmpB, cmpD, binD, addD, subD, mulD, fdivD, modD, powD, negD, idxD, slcD, truD, ltD, gtD, leD, geD, eqD_int, eqD_bl, eqD_str, eqD_non, L2.atI, ixN_lit, Int.reduceToNat, Option.bind_some, List.length_map, List.set_cons_zero, List.set_cons_succ, isNon, inD_ss, inStr_one, isiD, seqOf, lstOf, String.reduceNe, String.reduceEq, ne_eq, not_false_eq_true, not_true_eq_false, Bool.or_true, Bool.or_false, Bool.true_or, Bool.false_or, Bool.and_true, Bool.and_false, Bool.true_and, Bool.false_and, isT_NoneType_bool, isT_NoneType_int, isT_NoneType_str, isT_NoneType_list, isT_NoneType_tuple, isT_NoneType_dict, isT_bool_bool, isT_bool_int, isT_bool_str, isT_bool_list, isT_bool_tuple, isT_bool_dict, isT_int_bool, isT_int_int, isT_int_str, isT_int_list, isT_int_tuple, isT_int_dict, isT_str_bool, isT_str_int, isT_str_str, isT_str_list, isT_str_tuple, isT_str_dict, isT_list_bool, isT_list_int, isT_list_str, isT_list_list, isT_list_tuple, isT_list_dict, isT_tuple_bool, isT_tuple_int, isT_tuple_str, isT_tuple_list, isT_tuple_tuple, isT_tuple_dict, isT_dict_bool, isT_dict_int, isT_dict_str, isT_dict_list, isT_dict_tuple, isT_dict_dict, tyN_non, tyN_bl, tyN_int, tyN_str, tyN_lst, tyN_tup, tyN_klst, tyN_dic])
      refine ⟨⟨by decide, by decide, by decide⟩, ?_⟩
      split
      · rename_i h3
        have h3 := of_decide_eq_true h3
        exact tail _ _ _ _ _ (by omega) (Int.le_trans (by decide) h3) hb hb2
      · refine ⟨.inl (.inr ⟨by decide, by decide⟩), by decide, .inl (.inr ⟨by decide, by decide⟩), by decide, ?_⟩
        exact tail _ _ _ _ _ (by omega) ha (Int.emod_nonneg _ (by decide)) (Int.lt_trans (Int.emod_lt_of_pos _ (by decide)) (by decide))
    · exact tail _ _ _ _ _ hi ha hb hb2
  · exact tail _ _ _ _ _ hi ha hb hb2
theorem ok__law_draw {P : Program} {w : World} {K : PySem.W.Frag} {mg : Str → Option Value} {base : Heap} (V : VE K mg) : ∃ fd, FunD K "_law_draw" "_law_draw" (defArgs (top 10)) (defBody (top 10)) (defScope (top 10)) [] [] (He.ga K "_law_draw") fd ∧ FnOk P w K mg base CX0 1 (He.ga K "_law_draw") fd ["_law_bag_here", "_law_sides"] (spOf K F__law_draw) := by
  obtain ⟨fd, Fd⟩ := V.def_ 3 (d := dd "_law_draw" 10 []) rfl
  exact ⟨fd, Fd, fn_ok Fd (d__law_draw 0) (mkTab .nil (.cons rfl (.cons rfl .nil)) (show ([("len", 1), ("int", 1)] : List (Str × Nat)).all (fun c => decide (c.1 ∈ FR)) = true by decide +kernel) .nil .nil noAt_ok V.free) rfl p__law_draw⟩
theorem cj__law_draw_2 {P : Program} {w : World} {K : PySem.W.Frag} {mg : Str → Option Value} {base : Heap} {lv : Nat} (V : VE K mg) (h : 1 ≤ lv) : CallJ P w K mg base lv "_law_draw" 2 [] F__law_draw := by
  obtain ⟨fd, Fd, F⟩ := ok__law_draw (P := P) (w := w) (base := base) V
  exact callJ F h (V.glo 3 rfl) Fd.kp (FunD.bindsN Fd (fun _ _ _ _ _ _ us hl => match us, hl with | [_, _], _ => rfl)) 2
def C__law_of (lv : Nat) : CC := { N := ["_law_bag_here", "_law_things"], sc := defScope (top 11), lv := lv, kp := [0], brw := [0], calls := [("_law_draw", 2, [])], bis := [("len", 1)], cons := [], fr := FR }
def b__law_of : List S := [(.ret (.idx (.var 1) (.call 0 [(.bor 0), (.bi 0 [(.var 1)])] [])))]
theorem sc__law_of : FnScope ["_law_bag_here", "_law_things"] ["_law_bag_here", "_law_things"] (defScope (top 11)) := ⟨rfl, rfl, rfl, by decide +kernel, rfl, by decide +kernel, by decide +kernel⟩
theorem d__law_of (lv : Nat) : DefC (C__law_of lv) ["_law_bag_here", "_law_things"] (defArgs (top 11)) (defBody (top 11)) (defScope (top 11)) b__law_of := ⟨sc__law_of, rfl, rfl, (show ∀ i ∈ ([0] : List Nat), i < 2 by decide), by kernel_rfl⟩
abbrev M__law_of : Sem := mkSem [0] [F__law_draw] [lenD] [] [] noAt
theorem p__law_of : ∀ args R, F__law_of args R → runF [0] 2 2 (wSs M__law_of b__law_of) args R := by
  rintro args R ⟨d, t, xs, rfl, hd, ht, h0, hl, hR⟩
  refine ⟨rfl, ?_⟩
  unfold b__law_of
  simp only [dflF, kwF, shs, pickG, pickO, consO, Option.map_some, List.take_nil, wMeth, methD, joinD, strsOf_map, wSs_cons, wSs_nil, Later_nil, wS, wE, wT, wI, wX, wVl, wOl, wAv, mk3, mkT, mkI, opd, wIf, wOr, DL.wAnd, DL.wNot, wBool, wTru, wUn, wOp, wFn, wCons, wNil, wVCons, wVNil, wAvNil, wAvVal, wAvBor, wCall2, wC, wVar, wAndV, wOrV, wNotV, wIte, wLst, wTup, wDct, wChn, wSlc, partE, varOp, asOp, entry, content, resO, resOs, frz, wRet, wRetV, wRetN, wNext, wDrop, wSet, wUnp, wPar, wSti, wBrk, wCnt, wMut, muD, wSeq', wFor, wWhile, wLc, wRng1, wRng2, wZip, itemsD, nth, bindTg, bindTgs, noOw, wipeS, restore, wback_val, wback_nil, wback_bor, List.nodup_nil, List.nodup_cons, List.not_mem_nil, bors, resA, pairD, keyD, le_size, List.replicate_succ, List.replicate_zero, List.length_cons, List.length_nil, List.cons_append, List.nil_append, List.getElem?_cons_zero, List.getElem?_cons_succ, List.getElem?_nil, List.set_cons_zero, List.set_cons_succ, Option.isSome_some, List.map_cons, List.map_nil, List.all_cons, List.all_nil, List.any_cons, List.any_nil, Nat.reduceSub, Nat.reduceAdd, Nat.reduceLT, Nat.reduceLeDiff, reduceIte, reduceCtorEq, Bool.not_true, Bool.not_false, Bool.false_eq_true, and_true, true_and, List.drop_zero, List.drop_succ_cons, List.take_succ_cons, List.take_zero]
  have hz : xs.length ≤ sizeLine := Nat.le_trans hl (by decide)
  refine lenD_items ht hz ⟨by decide, d, _, rfl, hd, by omega, by omega, fun v d' h1 h2 h3 => ?_⟩
  simp only [dflF, kwF, shs, pickG, pickO, consO, Option.map_some, List.take_nil, wMeth, methD, joinD, strsOf_map, wSs_cons, wSs_nil, Later_nil, wS, wE, wT, wI, wX, wVl, wOl, wAv, mk3, mkT, mkI, opd, wIf, wOr, DL.wAnd, DL.wNot, wBool, wTru, wUn, wOp, wFn, wCons, wNil, wVCons, wVNil, wAvNil, wAvVal, wAvBor, wCall2, wC, wVar, wAndV, wOrV, wNotV, wIte, wLst, wTup, wDct, wChn, wSlc, partE, varOp, asOp, entry, content, resO, resOs, frz, wRet, wRetV, wRetN, wNext, wDrop, wSet, wUnp, wPar, wSti, wBrk, wCnt, wMut, muD, wSeq', wFor, wWhile, wLc, wRng1, wRng2, wZip, itemsD, nth, bindTg, bindTgs, noOw, wipeS, restore, wback_val, wback_nil, wback_bor, List.nodup_nil, List.nodup_cons, List.not_mem_nil, bors, resA, pairD, keyD, le_size, List.replicate_succ, List.replicate_zero, List.length_cons, List.length_nil, List.cons_append, List.nil_append, List.getElem?_cons_zero, List.getElem?_cons_succ, List.getElem?_nil, List.set_cons_zero, List.set_cons_succ, Option.isSome_some, List.map_cons, List.map_nil, List.all_cons, List.all_nil, List.any_cons, List.any_nil, Nat.reduceSub, Nat.reduceAdd, Nat.reduceLT, Nat.reduceLeDiff, reduceIte, reduceCtorEq, Bool.not_true, Bool.not_false, Bool.false_eq_true, and_true, true_and, List.drop_zero, List.drop_succ_cons, List.take_succ_cons, List.take_zero]
  obtain ⟨x, hx⟩ : ∃ x, xs[v.toNat]? = some x := ⟨_, List.getElem?_eq_getElem (by omega)⟩
  exact idxD_items ht hz h1 hx (hR x d' (List.mem_of_getElem? hx) h3)
theorem ok__law_of {P : Program} {w : World} {K : PySem.W.Frag} {mg : Str → Option Value} {base : Heap} (V : VE K mg) : ∃ fd, FunD K "_law_of" "_law_of" (defArgs (top 11)) (defBody (top 11)) (defScope (top 11)) [] [] (He.ga K "_law_of") fd ∧ FnOk P w K mg base CX0 2 (He.ga K "_law_of") fd ["_law_bag_here", "_law_things"] (spOf K F__law_of) := by
  obtain ⟨fd, Fd⟩ := V.def_ 4 (d := dd "_law_of" 11 []) rfl
  exact ⟨fd, Fd, fn_ok Fd (d__law_of 1) (mkTab (.cons (cj__law_draw_2 V (by first | decide | omega)) .nil) (.cons rfl .nil) (show ([("len", 1)] : List (Str × Nat)).all (fun c => decide (c.1 ∈ FR)) = true by decide +kernel) .nil .nil noAt_ok V.free) rfl p__law_of⟩
theorem cj__law_of_2 {P : Program} {w : World} {K : PySem.W.Frag} {mg : Str → Option Value} {base : Heap} {lv : Nat} (V : VE K mg) (h : 2 ≤ lv) : CallJ P w K mg base lv "_law_of" 2 [] F__law_of := by
  obtain ⟨fd, Fd, F⟩ := ok__law_of (P := P) (w := w) (base := base) V
  exact callJ F h (V.glo 4 rfl) Fd.kp (FunD.bindsN Fd (fun _ _ _ _ _ _ us hl => match us, hl with | [_, _], _ => rfl)) 2
end K01

namespace K01
open PySem DL
open L2 (V FnOk FunD CX0 defArgs defBody defScope SqL FnScope KBn)
def okS (z : Str) : Prop := z.length ≤ 1000 ∧ ∀ c ∈ z.cps.toList, c < 0x110000
def Thing (d : D) : Prop := tyN d ≠ "?" ∧ ∀ z, d = .str z → okS z
def letters : Str := "abcdefghijklmnopqrstuvwxyz"
def nameB : D → Bool
  | .str z => decide (1 ≤ z.length) && decide (z.length ≤ 8) && z.cps.toList.all fun c => decide (c ∈ letters.cps.toList)
  | _ => false
def F_is_name : FS := fun args R => ∃ d, args = [.sh d] ∧ Thing d ∧ ∀ o, R (.sh (.bl (nameB d))) o
def C_is_name (lv : Nat) : CC := { N := ["value", "char"], sc := defScope (top 6), lv := lv, kp := [], brw := [], calls := [], bis := [("len", 1), ("all", 1)], cons := ["LONGEST", "LETTERS"], fr := FR }
def b_is_name : List S := [(.ifs (.or (.nt (.isi (.var 0) ["str"])) (.nt (.chn .LtE .LtE (.int 1) (.bi 0 [(.var 0)]) (.con 0)))) [(.ret (.bl false))] []), (.ret (.bi 1 [(.lc (.cmp .In (.var 1) (.con 1)) (.nm 1) (.var 0) [] [1])]))]
theorem sc_is_name : FnScope ["value", "char"] ["value"] (defScope (top 6)) := ⟨rfl, rfl, rfl, by decide +kernel, rfl, by decide +kernel, by decide +kernel⟩
theorem d_is_name (lv : Nat) : DefC (C_is_name lv) ["value"] (defArgs (top 6)) (defBody (top 6)) (defScope (top 6)) b_is_name := ⟨sc_is_name, rfl, rfl, (show ∀ i ∈ ([] : List Nat), i < 1 by decide), by kernel_rfl⟩
abbrev M_is_name : Sem := mkSem [] [] [lenD, allD] [.int 8, .str "abcdefghijklmnopqrstuvwxyz"] [] noAt
theorem isT_str {d : D} (h : tyN d ≠ "?") (hn : ∀ z, d ≠ .str z) : isT (tyN d) "str" = false := by
  cases d <;> first | rfl | exact absurd rfl (hn _) | exact absurd rfl h
theorem p_is_name : ∀ args R, F_is_name args R → runF [] 1 2 (wSs M_is_name b_is_name) args R := by
  rintro args R ⟨d, rfl, hd, hR⟩
  refine ⟨rfl, ?_⟩
  unfold b_is_name
  by_cases hs : ∃ z, d = .str z
  · obtain ⟨z, rfl⟩ := hs
    obtain ⟨hl, hc⟩ := hd.2 z rfl
    simp only [dflF, kwF, shs, pickG, pickO, consO, Option.map_some, List.take_nil, wMeth, methD, joinD, strsOf_map, wSs_cons, wSs_nil, Later_nil, wS, wE, wT, wI, wX, wVl, wOl, wAv, mk3, mkT, mkI, opd, wIf, wOr, DL.wAnd, DL.wNot, wBool, wTru, wUn, wOp, wFn, wCons, wNil, wVCons, wVNil, wAvNil, wAvVal, wAvBor, wCall2, wC, wVar, wAndV, wOrV, wNotV, wIte, wLst, wTup, wDct, wChn, wSlc, partE, varOp, asOp, entry, content, resO, resOs, frz, wRet, wRetV, wRetN, wNext, wDrop, wSet, wUnp, wPar, wSti, wBrk, wCnt, wMut, muD, wSeq', wFor, wWhile, wLc, wRng1, wRng2, wZip, itemsD, nth, bindTg, bindTgs, noOw, wipeS, restore, wback_val, wback_nil, wback_bor, List.nodup_nil, List.nodup_cons, List.not_mem_nil, bors, resA, pairD, keyD, le_size, List.replicate_succ, List.replicate_zero, List.length_cons, List.length_nil, List.cons_append, List.nil_append, List.getElem?_cons_zero, List.getElem?_cons_succ, List.getElem?_nil, List.set_cons_zero, List.set_cons_succ, Option.isSome_some, List.map_cons, List.map_nil, List.all_cons, List.all_nil, List.any_cons, List.any_nil, Nat.reduceSub, Nat.reduceAdd, Nat.reduceLT, Nat.reduceLeDiff, reduceIte, reduceCtorEq, Bool.not_true, Bool.not_false, Bool.false_eq_true, and_true, true_and, List.drop_zero, List.drop_succ_cons, List.take_succ_cons, List.take_zero, lenD, intD, boolD, strD, listD, tupleD, allD, anyD, blsD, cmpB, cmpD, binD, addD, subD, mulD, fdivD, modD, powD, negD, idxD, slcD, truD, ltD, gtD, leD, geD, eqD_int, eqD_bl, eqD_str, eqD_non, L2.atI, ixN_lit, Int.reduceToNat, Option.bind_some, List.length_map, List.set_cons_zero, List.set_cons_succ, isNon, inD_ss, inStr_one, isiD, seqOf, lstOf, String.reduceNe, String.reduceEq, ne_eq, not_false_eq_true, not_true_eq_false, Bool.or_true, Bool.or_false, Bool.true_or, Bool.false_or, Bool.and_true, Bool.and_false, Bool.true_and, Bool.false_and, isT_NoneType_bool, isT_NoneType_int, isT_NoneType_str, isT_NoneType_list, isT_NoneType_tuple, isT_NoneType_dict, isT_bool_bool, isT_bool_int, isT_bool_str, isT_bool_list, isT_bool_tuple, isT_bool_dict, isT_int_bool, isT_int_int, isT_int_str, isT_int_list, isT_int_tuple, isT_int_dict, isT_str_bool, isT_str_int, isT_str_str, isT_str_list, isT_str_tuple, isT_str_dict, isT_list_bool, isT_list_int, isT_list_str, isT_list_list, isT_list_tuple, isT_list_dict, isT_tuple_bool, isT_tuple_int, isT_tuple_str, isT_tuple_list, isT_tuple_tuple, isT_tuple_dict, isT_dict_bool, isT_dict_int, isT_dict_str, isT_dict_list, isT_dict_tuple, isT_dict_dict, tyN_non, tyN_bl, tyN_int, tyN_str, tyN_lst, tyN_tup, tyN_klst, tyN_dic]
    refine ⟨Nat.le_trans hl (by decide), ?_⟩
    have nf : ¬ (1 ≤ (z.length : Int) ∧ (z.length : Int) ≤ 8) → nameB (.str z) = false := fun h => by
      show (decide (1 ≤ z.length) && decide (z.length ≤ 8) && _) = false
      by_cases c1 : 1 ≤ z.length
      · by_cases c2 : z.length ≤ 8
        · exact absurd ⟨by omega, by omega⟩ h
        · simp [c2]
      · simp [c1]
    split
    · rename_i h1
      have h1 := of_decide_eq_true h1
      split
      · rename_i h2
        rw [← nf fun h => by simp [h.2] at h2]
        exact hR _
      · rename_i h2
        have h2 : (z.length : Int) ≤ 8 := by simpa using h2
        (refine later ?_; simp only [dflF, kwF, shs, pickG, pickO, consO, Option.map_some, List.take_nil, wMeth, methD, joinD, strsOf_map, wSs_cons, wSs_nil, Later_nil, wS, wE, wT, wI, wX, wVl, wOl, wAv, mk3, mkT, mkI, opd, wIf, wOr, DL.wAnd, DL.wNot, wBool, wTru, wUn, wOp, wFn, wCons, wNil, wVCons, wVNil, wAvNil, wAvVal, wAvBor, wCall2, wC, wVar, wAndV, wOrV, wNotV, wIte, wLst, wTup, wDct, wChn, wSlc, partE, varOp, asOp, entry, content, resO, resOs, frz, wRet, wRetV, wRetN, wNext, wDrop, wSet, wUnp, wPar, wSti, wBrk, wCnt, wMut, muD, wSeq', wFor, wWhile, wLc, wRng1, wRng2, wZip, itemsD, nth, bindTg, bindTgs, noOw, wipeS, restore, wback_val, wback_nil, wback_bor, List.nodup_nil, List.nodup_cons, List.not_mem_nil, bors, resA, pairD, keyD, le_size, List.replicate_succ, List.replicate_zero, List.length_cons, List.length_nil, List.cons_append, List.nil_append, List.getElem?_cons_zero, List.getElem?_cons_succ, List.getElem?_nil, List.set_cons_zero, List.set_cons_succ, Option.isSome_some, List.map_cons, List.map_nil, List.all_cons, List.all_nil, List.any_cons, List.any_nil, Nat.reduceSub, Nat.reduceAdd, Nat.reduceLT, Nat.reduceLeDiff, reduceIte, reduceCtorEq, Bool.not_true, Bool.not_false, Bool.false_eq_true, and_true, true_and, List.drop_zero, List.drop_succ_cons, List.take_succ_cons, List.take_zero, lenD, intD, boolD, strD, listD, tupleD, allD, anyD, blsD, cmpB, cmpD, binD, addD, subD, mulD, fdivD, modD, powD, negD, idxD, slcD, truD, ltD, gtD, leD, geD, eqD_int, eqD_bl, eqD_str, eqD_non, L2.atI, ixN_lit, Int.reduceToNat, Option.bind_some, List.length_map, List.set_cons_zero, List.set_cons_succ, isNon, inD_ss, inStr_one, isiD, seqOf, lstOf, String.reduceNe, String.reduceEq, ne_eq, not_false_eq_true, not_true_eq_false, Bool.or_true, Bool.or_false, Bool.true_or, Bool.false_or, Bool.and_true, Bool.and_false, Bool.true_and, Bool.false_and, isT_NoneType_bool, isT_NoneType_int, isT_NoneType_str, isT_NoneType_list, isT_NoneType_tuple, isT_NoneType_dict, isT_bool_bool, isT_bool_int, isT_bool_str, isT_bool_list, isT_bool_tuple, isT_bool_dict, isT_int_bool, isT_int_int, isT_int_str, isT_int_list, isT_int_tuple, isT_int_dict, isT_str_bool, isT_str_int, isT_str_str, isT_str_list, isT_str_tuple, isT_str_dict, isT_list_bool, isT_list_int, isT_list_str, isT_list_list, isT_list_tuple, isT_list_dict, isT_tuple_bool, isT_tuple_int, isT_tuple_str, isT_tuple_list, isT_tuple_tuple, isT_tuple_dict, isT_dict_bool, isT_dict_int, isT_dict_str, isT_dict_list, isT_dict_tuple, isT_dict_dict, tyN_non, tyN_bl, tyN_int, tyN_str, tyN_lst, tyN_tup, tyN_klst, tyN_dic])
        refine ⟨by rw [charsD_len]; exact Nat.le_trans hl (by decide), ?_⟩
        unfold charsD
        refine lcGo_mapg _ (fun c => .bl (decide (c ∈ letters.cps.toList))) _ _ (fun c hc => ⟨_, rfl, rfl, fun Q q => ?_⟩) ?_
        · simp only [dflF, kwF, shs, pickG, pickO, consO, Option.map_some, List.take_nil, wMeth, methD, joinD, strsOf_map, wSs_cons, wSs_nil, Later_nil, wS, wE, wT, wI, wX, wVl, wOl, wAv, mk3, mkT, mkI, opd, wIf, wOr, DL.wAnd, DL.wNot, wBool, wTru, wUn, wOp, wFn, wCons, wNil, wVCons, wVNil, wAvNil, wAvVal, wAvBor, wCall2, wC, wVar, wAndV, wOrV, wNotV, wIte, wLst, wTup, wDct, wChn, wSlc, partE, varOp, asOp, entry, content, resO, resOs, frz, wRet, wRetV, wRetN, wNext, wDrop, wSet, wUnp, wPar, wSti, wBrk, wCnt, wMut, muD, wSeq', wFor, wWhile, wLc, wRng1, wRng2, wZip, itemsD, nth, bindTg, bindTgs, noOw, wipeS, restore, wback_val, wback_nil, wback_bor, List.nodup_nil, List.nodup_cons, List.not_mem_nil, bors, resA, pairD, keyD, le_size, List.replicate_succ, List.replicate_zero, List.length_cons, List.length_nil, List.cons_append, List.nil_append, List.getElem?_cons_zero, List.getElem?_cons_succ, List.getElem?_nil, List.set_cons_zero, List.set_cons_succ, Option.isSome_some, List.map_cons, List.map_nil, List.all_cons, List.all_nil, List.any_cons, List.any_nil, Nat.reduceSub, Nat.reduceAdd, Nat.reduceLT, Nat.reduceLeDiff, reduceIte, reduceCtorEq, Bool.not_true, Bool.not_false, Bool.false_eq_true, and_true, true_and, List.drop_zero, List.drop_succ_cons, List.take_succ_cons, List.take_zero, lenD, intD, boolD, strD, listD, tupleD, allD, anyD, blsD, cmpB, cmpD, binD, addD, subD, mulD, fdivD, modD, powD, negD, idxD, slcD, truD, ltD, gtD, leD, geD, eqD_int, eqD_bl, eqD_str, eqD_non, L2.atI, ixN_lit, Int.reduceToNat, Option.bind_some, List.length_map, List.set_cons_zero, List.set_cons_succ, isNon, inD_ss, inStr_one, isiD, seqOf, lstOf, String.reduceNe, String.reduceEq, ne_eq, not_false_eq_true, not_true_eq_false, Bool.or_true, Bool.or_false, Bool.true_or, Bool.false_or, Bool.and_true, Bool.and_false, Bool.true_and, Bool.false_and, isT_NoneType_bool, isT_NoneType_int, isT_NoneType_str, isT_NoneType_list, isT_NoneType_tuple, isT_NoneType_dict, isT_bool_bool, isT_bool_int, isT_bool_str, isT_bool_list, isT_bool_tuple, isT_bool_dict, isT_int_bool, isT_int_int, isT_int_str, isT_int_list, isT_int_tuple, isT_int_dict, isT_str_bool, isT_str_int, isT_str_str, isT_str_list, isT_str_tuple, isT_str_dict, isT_list_bool, isT_list_int, isT_list_str, isT_list_list, isT_list_tuple, isT_list_dict, isT_tuple_bool, isT_tuple_int, isT_tuple_str, isT_tuple_list, isT_tuple_tuple, isT_tuple_dict, isT_dict_bool, isT_dict_int, isT_dict_str, isT_dict_list, isT_dict_tuple, isT_dict_dict, tyN_non, tyN_bl, tyN_int, tyN_str, tyN_lst, tyN_tup, tyN_klst, tyN_dic]
          exact q _ rfl
        · simp only [dflF, kwF, shs, pickG, pickO, consO, Option.map_some, List.take_nil, wMeth, methD, joinD, strsOf_map, wSs_cons, wSs_nil, Later_nil, wS, wE, wT, wI, wX, wVl, wOl, wAv, mk3, mkT, mkI, opd, wIf, wOr, DL.wAnd, DL.wNot, wBool, wTru, wUn, wOp, wFn, wCons, wNil, wVCons, wVNil, wAvNil, wAvVal, wAvBor, wCall2, wC, wVar, wAndV, wOrV, wNotV, wIte, wLst, wTup, wDct, wChn, wSlc, partE, varOp, asOp, entry, content, resO, resOs, frz, wRet, wRetV, wRetN, wNext, wDrop, wSet, wUnp, wPar, wSti, wBrk, wCnt, wMut, muD, wSeq', wFor, wWhile, wLc, wRng1, wRng2, wZip, itemsD, nth, bindTg, bindTgs, noOw, wipeS, restore, wback_val, wback_nil, wback_bor, List.nodup_nil, List.nodup_cons, List.not_mem_nil, bors, resA, pairD, keyD, le_size, List.replicate_succ, List.replicate_zero, List.length_cons, List.length_nil, List.cons_append, List.nil_append, List.getElem?_cons_zero, List.getElem?_cons_succ, List.getElem?_nil, List.set_cons_zero, List.set_cons_succ, Option.isSome_some, List.map_cons, List.map_nil, List.all_cons, List.all_nil, List.any_cons, List.any_nil, Nat.reduceSub, Nat.reduceAdd, Nat.reduceLT, Nat.reduceLeDiff, reduceIte, reduceCtorEq, Bool.not_true, Bool.not_false, Bool.false_eq_true, and_true, true_and, List.drop_zero, List.drop_succ_cons, List.take_succ_cons, List.take_zero, lenD, intD, boolD, strD, listD, tupleD, allD, anyD, blsD, cmpB, cmpD, binD, addD, subD, mulD, fdivD, modD, powD, negD, idxD, slcD, truD, ltD, gtD, leD, geD, eqD_int, eqD_bl, eqD_str, eqD_non, L2.atI, ixN_lit, Int.reduceToNat, Option.bind_some, List.length_map, List.set_cons_zero, List.set_cons_succ, isNon, inD_ss, inStr_one, isiD, seqOf, lstOf, String.reduceNe, String.reduceEq, ne_eq, not_false_eq_true, not_true_eq_false, Bool.or_true, Bool.or_false, Bool.true_or, Bool.false_or, Bool.and_true, Bool.and_false, Bool.true_and, Bool.false_and, isT_NoneType_bool, isT_NoneType_int, isT_NoneType_str, isT_NoneType_list, isT_NoneType_tuple, isT_NoneType_dict, isT_bool_bool, isT_bool_int, isT_bool_str, isT_bool_list, isT_bool_tuple, isT_bool_dict, isT_int_bool, isT_int_int, isT_int_str, isT_int_list, isT_int_tuple, isT_int_dict, isT_str_bool, isT_str_int, isT_str_str, isT_str_list, isT_str_tuple, isT_str_dict, isT_list_bool, isT_list_int, isT_list_str, isT_list_list, isT_list_tuple, isT_list_dict, isT_tuple_bool, isT_tuple_int, isT_tuple_str, isT_tuple_list, isT_tuple_tuple, isT_tuple_dict, isT_dict_bool, isT_dict_int, isT_dict_str, isT_dict_list, isT_dict_tuple, isT_dict_dict, tyN_non, tyN_bl, tyN_int, tyN_str, tyN_lst, tyN_tup, tyN_klst, tyN_dic]
          rw [show (z.cps.toList.map fun c => D.bl (decide (c ∈ letters.cps.toList))) = (z.cps.toList.map fun c => decide (c ∈ letters.cps.toList)).map D.bl from by rw [List.map_map]; rfl]
          simp only [blsOf_map]
          have e : nameB (.str z) = (z.cps.toList.map fun c => decide (c ∈ letters.cps.toList)).all id := by
            show (decide (1 ≤ z.length) && decide (z.length ≤ 8) && _) = _
            rw [decide_eq_true (by omega : 1 ≤ z.length), decide_eq_true (by omega : z.length ≤ 8), List.all_map]
            rfl
          rw [← e]
          exact hR _
    · rename_i h1
      rw [← nf fun h => by simp [h.1] at h1]
      exact hR _
  · have hn : ∀ z, d ≠ .str z := fun z e => hs ⟨z, e⟩
    simp only [dflF, kwF, shs, pickG, pickO, consO, Option.map_some, List.take_nil, wMeth, methD, joinD, strsOf_map, wSs_cons, wSs_nil, Later_nil, wS, wE, wT, wI, wX, wVl, wOl, wAv, mk3, mkT, mkI, opd, wIf, wOr, DL.wAnd, DL.wNot, wBool, wTru, wUn, wOp, wFn, wCons, wNil, wVCons, wVNil, wAvNil, wAvVal, wAvBor, wCall2, wC, wVar, wAndV, wOrV, wNotV, wIte, wLst, wTup, wDct, wChn, wSlc, partE, varOp, asOp, entry, content, resO, resOs, frz, wRet, wRetV, wRetN, wNext, wDrop, wSet, wUnp, wPar, wSti, wBrk, wCnt, wMut, muD, wSeq', wFor, wWhile, wLc, wRng1, wRng2, wZip, itemsD, nth, bindTg, bindTgs, noOw, wipeS, restore, wback_val, wback_nil, wback_bor, List.nodup_nil, List.nodup_cons, List.not_mem_nil, bors, resA, pairD, keyD, le_size, List.replicate_succ, List.replicate_zero, List.length_cons, List.length_nil, List.cons_append, List.nil_append, List.getElem?_cons_zero, List.getElem?_cons_succ, List.getElem?_nil, List.set_cons_zero, List.set_cons_succ, Option.isSome_some, List.map_cons, List.map_nil, List.all_cons, List.all_nil, List.any_cons, List.any_nil, Nat.reduceSub, Nat.reduceAdd, Nat.reduceLT, Nat.reduceLeDiff, reduceIte, reduceCtorEq, Bool.not_true, Bool.not_false, Bool.false_eq_true, and_true, true_and, List.drop_zero, List.drop_succ_cons, List.take_succ_cons, List.take_zero, lenD, intD, boolD, strD, listD, tupleD, allD, anyD, blsD, cmpB, cmpD, binD, addD, subD, mulD, fdivD, modD, powD, negD, idxD, slcD, truD, ltD, gtD, leD, geD, eqD_int, eqD_bl, eqD_str, eqD_non, L2.atI, ixN_lit, Int.reduceToNat, Option.bind_some, List.length_map, List.set_cons_zero, List.set_cons_succ, isNon, inD_ss, inStr_one, isiD, seqOf, lstOf, String.reduceNe, String.reduceEq, ne_eq, not_false_eq_true, not_true_eq_false, Bool.or_true, Bool.or_false, Bool.true_or, Bool.false_or, Bool.and_true, Bool.and_false, Bool.true_and, Bool.false_and, isT_NoneType_bool, isT_NoneType_int, isT_NoneType_str, isT_NoneType_list, isT_NoneType_tuple, isT_NoneType_dict, isT_bool_bool, isT_bool_int, isT_bool_str, isT_bool_list, isT_bool_tuple, isT_bool_dict, isT_int_bool, isT_int_int, isT_int_str, isT_int_list, isT_int_tuple, isT_int_dict, isT_str_bool, isT_str_int, isT_str_str, isT_str_list, isT_str_tuple, isT_str_dict, isT_list_bool, isT_list_int, isT_list_str, isT_list_list, isT_list_tuple, isT_list_dict, isT_tuple_bool, isT_tuple_int, isT_tuple_str, isT_tuple_list, isT_tuple_tuple, isT_tuple_dict, isT_dict_bool, isT_dict_int, isT_dict_str, isT_dict_list, isT_dict_tuple, isT_dict_dict, tyN_non, tyN_bl, tyN_int, tyN_str, tyN_lst, tyN_tup, tyN_klst, tyN_dic]
    rw [isT_str hd.1 hn]
    refine ⟨hd.1, ?_⟩
    simp only [dflF, kwF, shs, pickG, pickO, consO, Option.map_some, List.take_nil, wMeth, methD, joinD, strsOf_map, wSs_cons, wSs_nil, Later_nil, wS, wE, wT, wI, wX, wVl, wOl, wAv, mk3, mkT, mkI, opd, wIf, wOr, DL.wAnd, DL.wNot, wBool, wTru, wUn, wOp, wFn, wCons, wNil, wVCons, wVNil, wAvNil, wAvVal, wAvBor, wCall2, wC, wVar, wAndV, wOrV, wNotV, wIte, wLst, wTup, wDct, wChn, wSlc, partE, varOp, asOp, entry, content, resO, resOs, frz, wRet, wRetV, wRetN, wNext, wDrop, wSet, wUnp, wPar, wSti, wBrk, wCnt, wMut, muD, wSeq', wFor, wWhile, wLc, wRng1, wRng2, wZip, itemsD, nth, bindTg, bindTgs, noOw, wipeS, restore, wback_val, wback_nil, wback_bor, List.nodup_nil, List.nodup_cons, List.not_mem_nil, bors, resA, pairD, keyD, le_size, List.replicate_succ, List.replicate_zero, List.length_cons, List.length_nil, List.cons_append, List.nil_append, List.getElem?_cons_zero, List.getElem?_cons_succ, List.getElem?_nil, List.set_cons_zero, List.set_cons_succ, Option.isSome_some, List.map_cons, List.map_nil, List.all_cons, List.all_nil, List.any_cons, List.any_nil, Nat.reduceSub, Nat.reduceAdd, Nat.reduceLT, Nat.reduceLeDiff, reduceIte, reduceCtorEq, Bool.not_true, Bool.not_false, Bool.false_eq_true, and_true, true_and, List.drop_zero, List.drop_succ_cons, List.take_succ_cons, List.take_zero, lenD, intD, boolD, strD, listD, tupleD, allD, anyD, blsD, cmpB, cmpD, binD, addD, subD, mulD, fdivD, modD, powD, negD, idxD, slcD, truD, ltD, gtD, leD, geD, eqD_int, eqD_bl, eqD_str, eqD_non, L2.atI, ixN_lit, Int.reduceToNat, Option.bind_some, List.length_map, List.set_cons_zero, List.set_cons_succ, isNon, inD_ss, inStr_one, isiD, seqOf, lstOf, String.reduceNe, String.reduceEq, ne_eq, not_false_eq_true, not_true_eq_false, Bool.or_true, Bool.or_false, Bool.true_or, Bool.false_or, Bool.and_true, Bool.and_false, Bool.true_and, Bool.false_and, isT_NoneType_bool, isT_NoneType_int, isT_NoneType_str, isT_NoneType_list, isT_NoneType_tuple, isT_NoneType_dict, isT_bool_bool, isT_bool_int, isT_bool_str, isT_bool_list, isT_bool_tuple, isT_bool_dict, isT_int_bool, isT_int_int, isT_int_str, isT_int_list, isT_int_tuple, isT_int_dict, isT_str_bool, isT_str_int, isT_str_str, isT_str_list, isT_str_tuple, isT_str_dict, isT_list_bool, isT_list_int, isT_list_str, isT_list_list, isT_list_tuple, isT_list_dict, isT_tuple_bool, isT_tuple_int, isT_tuple_str, isT_tuple_list, isT_tuple_tuple, isT_tuple_dict, isT_dict_bool, isT_dict_int, isT_dict_str, isT_dict_list, isT_dict_tuple, isT_dict_dict, tyN_non, tyN_bl, tyN_int, tyN_str, tyN_lst, tyN_tup, tyN_klst, tyN_dic]
    have e : nameB d = false := by
      cases d <;> first | rfl | exact absurd rfl (hn _)
    rw [e] at hR
    exact hR _
theorem ok_is_name {P : Program} {w : World} {K : PySem.W.Frag} {mg : Str → Option Value} {base : Heap} (V : VE K mg) : ∃ fd, FunD K "is_name" "is_name" (defArgs (top 6)) (defBody (top 6)) (defScope (top 6)) [] [] (He.ga K "is_name") fd ∧ FnOk P w K mg base CX0 1 (He.ga K "is_name") fd ["value"] (spOf K F_is_name) := by
  obtain ⟨fd, Fd⟩ := V.def_ 0 (d := dd "is_name" 6 []) rfl
  exact ⟨fd, Fd, fn_ok Fd (d_is_name 0) (mkTab .nil (.cons rfl (.cons rfl .nil)) (show ([("len", 1), ("all", 1)] : List (Str × Nat)).all (fun c => decide (c.1 ∈ FR)) = true by decide +kernel) (.cons (V.int 15 rfl) (.cons (V.str 16 rfl) .nil)) .nil noAt_ok V.free) rfl p_is_name⟩
theorem cj_is_name_1 {P : Program} {w : World} {K : PySem.W.Frag} {mg : Str → Option Value} {base : Heap} {lv : Nat} (V : VE K mg) (h : 1 ≤ lv) : CallJ P w K mg base lv "is_name" 1 [] F_is_name := by
  obtain ⟨fd, Fd, F⟩ := ok_is_name (P := P) (w := w) (base := base) V
  exact callJ F h (V.glo 0 rfl) Fd.kp (FunD.bindsN Fd (fun _ _ _ _ _ _ us hl => match us, hl with | [_], _ => rfl)) 1
theorem cj_is_name_0_value {P : Program} {w : World} {K : PySem.W.Frag} {mg : Str → Option Value} {base : Heap} {lv : Nat} (V : VE K mg) (h : 1 ≤ lv) : CallJ P w K mg base lv "is_name" 0 ["value"] (kwF 0 1 (fun as bs => pickG [(1, 0)] [] as bs) F_is_name) := by
  obtain ⟨fd, Fd, F⟩ := ok_is_name (P := P) (w := w) (base := base) V
  have hb := kbindsN Fd (ps := ["value"]) 0 ["value"] [(1, 0)] (fun kV doc pmd an cdv ct us ws l1 l2 => match us, l1, ws, l2 with | [], _, [_], _ => rfl)
  exact callJ_kw F h (V.glo 0 rfl) Fd.kp hb (fun G as bs vs zs r1 r2 _ _ => pick_reps [(1, 0)] r1 rfl r2)
def C_is_number (lv : Nat) : CC := { N := ["value", "least", "most"], sc := defScope (top 7), lv := lv, kp := [], brw := [], calls := [], bis := [], cons := [], fr := FR }
def b_is_number : List S := [(.ifs (.or (.nt (.isi (.var 0) ["int"])) (.isi (.var 0) ["bool"])) [(.ret (.bl false))] []), (.ifs (.cmp .Lt (.var 0) (.var 1)) [(.ret (.bl false))] []), (.ret (.or (.cmp .Is (.var 2) .non) (.cmp .LtE (.var 0) (.var 2))))]
theorem sc_is_number : FnScope ["value", "least", "most"] ["value", "least", "most"] (defScope (top 7)) := ⟨rfl, rfl, rfl, by decide +kernel, rfl, by decide +kernel, by decide +kernel⟩
theorem d_is_number (lv : Nat) : DefC (C_is_number lv) ["value", "least", "most"] (defArgs (top 7)) (defBody (top 7)) (defScope (top 7)) b_is_number := ⟨sc_is_number, rfl, rfl, (show ∀ i ∈ ([] : List Nat), i < 3 by decide), by kernel_rfl⟩
abbrev M_is_number : Sem := mkSem [] [] [] [] [] noAt
def numB : D → Int → D → Bool
  | .int i, a, .non => decide (a ≤ i)
  | .int i, a, .int b => decide (a ≤ i) && decide (i ≤ b)
  | _, _, _ => false
def topOk (m : D) : Prop := m = .non ∨ ∃ b, m = .int b
def F_is_number : FS := fun args R => ∃ d a m, args = [.sh d, .sh (.int a), .sh m] ∧ tyN d ≠ "?" ∧ topOk m ∧ ∀ o, R (.sh (.bl (numB d a m))) o
theorem p_is_number : ∀ args R, F_is_number args R → runF [] 3 3 (wSs M_is_number b_is_number) args R := by
  rintro args R ⟨d, a, m, rfl, hd, hm, hR⟩
  refine ⟨rfl, ?_⟩
  unfold b_is_number
  cases d with
  | int i =>
    simp only [dflF, kwF, shs, pickG, pickO, consO, Option.map_some, List.take_nil, wMeth, methD, joinD, strsOf_map, wSs_cons, wSs_nil, Later_nil, wS, wE, wT, wI, wX, wVl, wOl, wAv, mk3, mkT, mkI, opd, wIf, wOr, DL.wAnd, DL.wNot, wBool, wTru, wUn, wOp, wFn, wCons, wNil, wVCons, wVNil, wAvNil, wAvVal, wAvBor, wCall2, wC, wVar, wAndV, wOrV, wNotV, wIte, wLst, wTup, wDct, wChn, wSlc, partE, varOp, asOp, entry, content, resO, resOs, frz, wRet, wRetV, wRetN, wNext, wDrop, wSet, wUnp, wPar, wSti, wBrk, wCnt, wMut, muD, wSeq', wFor, wWhile, wLc, wRng1, wRng2, wZip, itemsD, nth, bindTg, bindTgs, noOw, wipeS, restore, wback_val, wback_nil, wback_bor, List.nodup_nil, List.nodup_cons, List.not_mem_nil, bors, resA, pairD, keyD, le_size, List.replicate_succ, List.replicate_zero, List.length_cons, List.length_nil, List.cons_append, List.nil_append, List.getElem?_cons_zero, List.getElem?_cons_succ, List.getElem?_nil, List.set_cons_zero, List.set_cons_succ, Option.isSome_some, List.map_cons, List.map_nil, List.all_cons, List.all_nil, List.any_cons, List.any_nil, Nat.reduceSub, Nat.reduceAdd, Nat.reduceLT, Nat.reduceLeDiff, reduceIte, reduceCtorEq, Bool.not_true, Bool.not_false, Bool.false_eq_true, and_true, true_and, List.drop_zero, List.drop_succ_cons, List.take_succ_cons, List.take_zero, lenD, intD, boolD, strD, listD, tupleD, allD, anyD, blsD, cmpB, cmpD, binD, addD, subD, mulD, fdivD, modD, powD, negD, idxD, slcD, truD, ltD, gtD, leD, geD, eqD_int, eqD_bl, eqD_str, eqD_non, L2.atI, ixN_lit, Int.reduceToNat, Option.bind_some, List.length_map, List.set_cons_zero, List.set_cons_succ, isNon, inD_ss, inStr_one, isiD, seqOf, lstOf, String.reduceNe, String.reduceEq, ne_eq, not_false_eq_true, not_true_eq_false, Bool.or_true, Bool.or_false, Bool.true_or, Bool.false_or, Bool.and_true, Bool.and_false, Bool.true_and, Bool.false_and, isT_NoneType_bool, isT_NoneType_int, isT_NoneType_str, isT_NoneType_list, isT_NoneType_tuple, isT_NoneType_dict, isT_bool_bool, isT_bool_int, isT_bool_str, isT_bool_list, isT_bool_tuple, isT_bool_dict, isT_int_bool, isT_int_int, isT_int_str, isT_int_list, isT_int_tuple, isT_int_dict, isT_str_bool, isT_str_int, isT_str_str, isT_str_list, isT_str_tuple, isT_str_dict, isT_list_bool, isT_list_int, isT_list_str, isT_list_list, isT_list_tuple, isT_list_dict, isT_tuple_bool, isT_tuple_int, isT_tuple_str, isT_tuple_list, isT_tuple_tuple, isT_tuple_dict, isT_dict_bool, isT_dict_int, isT_dict_str, isT_dict_list, isT_dict_tuple, isT_dict_dict, tyN_non, tyN_bl, tyN_int, tyN_str, tyN_lst, tyN_tup, tyN_klst, tyN_dic]
    (refine later ?_; simp only [dflF, kwF, shs, pickG, pickO, consO, Option.map_some, List.take_nil, wMeth, methD, joinD, strsOf_map, wSs_cons, wSs_nil, Later_nil, wS, wE, wT, wI, wX, wVl, wOl, wAv, mk3, mkT, mkI, opd, wIf, wOr, DL.wAnd, DL.wNot, wBool, wTru, wUn, wOp, wFn, wCons, wNil, wVCons, wVNil, wAvNil, wAvVal, wAvBor, wCall2, wC, wVar, wAndV, wOrV, wNotV, wIte, wLst, wTup, wDct, wChn, wSlc, partE, varOp, asOp, entry, content, resO, resOs, frz, wRet, wRetV, wRetN, wNext, wDrop, wSet, wUnp, wPar, wSti, wBrk, wCnt, wMut, muD, wSeq', wFor, wWhile, wLc, wRng1, wRng2, wZip, itemsD, nth, bindTg, bindTgs, noOw, wipeS, restore, wback_val, wback_nil, wback_bor, List.nodup_nil, List.nodup_cons, List.not_mem_nil, bors, resA, pairD, keyD, le_size, List.replicate_succ, List.replicate_zero, List.length_cons, List.length_nil, List.cons_append, List.nil_append, List.getElem?_cons_zero, List.getElem?_cons_succ, List.getElem?_nil, List.set_cons_zero, List.set_cons_succ, Option.isSome_some, List.map_cons, List.map_nil, List.all_cons, List.all_nil, List.any_cons, List.any_nil, Nat.reduceSub, Nat.reduceAdd, Nat.reduceLT, Nat.reduceLeDiff, reduceIte, reduceCtorEq, Bool.not_true, Bool.not_false, Bool.false_eq_true, and_true, true_and, List.drop_zero, List.drop_succ_cons, List.take_succ_cons, List.take_zero, lenD, intD, boolD, strD, listD, tupleD, allD, anyD, blsD, cmpB, cmpD, binD, addD, subD, mulD, fdivD, modD, powD, negD, idxD, slcD, truD, ltD, gtD, leD, geD, eqD_int, eqD_bl, eqD_str, eqD_non, L2.atI, ixN_lit, Int.reduceToNat, Option.bind_some, List.length_map, List.set_cons_zero, List.set_cons_succ, isNon, inD_ss, inStr_one, isiD, seqOf, lstOf, String.reduceNe, String.reduceEq, ne_eq, not_false_eq_true, not_true_eq_false, Bool.or_true, Bool.or_false, Bool.true_or, Bool.false_or, Bool.and_true, Bool.and_false, Bool.true_and, Bool.false_and, isT_NoneType_bool, isT_NoneType_int, isT_NoneType_str, isT_NoneType_list, isT_NoneType_tuple, isT_NoneType_dict, isT_bool_bool, isT_bool_int, isT_bool_str, isT_bool_list, isT_bool_tuple, isT_bool_dict, isT_int_bool, isT_int_int, isT_int_str, isT_int_list, isT_int_tuple, isT_int_dict, isT_str_bool, isT_str_int, isT_str_str, isT_str_list, isT_str_tuple, isT_str_dict, isT_list_bool, isT_list_int, isT_list_str, isT_list_list, isT_list_tuple, isT_list_dict, isT_tuple_bool, isT_tuple_int, isT_tuple_str, isT_tuple_list, isT_tuple_tuple, isT_tuple_dict, isT_dict_bool, isT_dict_int, isT_dict_str, isT_dict_list, isT_dict_tuple, isT_dict_dict, tyN_non, tyN_bl, tyN_int, tyN_str, tyN_lst, tyN_tup, tyN_klst, tyN_dic])
    split
    · rename_i h
      have h := of_decide_eq_true h
      have e : numB (.int i) a m = false := by
        have h' : decide (a ≤ i) = false := decide_eq_false (by omega)
        rcases hm with rfl | ⟨b, rfl⟩ <;> simp [numB, h']
      rw [← e]
      exact hR _
    · rename_i h
      have h' : decide (a ≤ i) = true := decide_eq_true (by simp at h; omega)
      (refine later ?_; simp only [dflF, kwF, shs, pickG, pickO, consO, Option.map_some, List.take_nil, wMeth, methD, joinD, strsOf_map, wSs_cons, wSs_nil, Later_nil, wS, wE, wT, wI, wX, wVl, wOl, wAv, mk3, mkT, mkI, opd, wIf, wOr, DL.wAnd, DL.wNot, wBool, wTru, wUn, wOp, wFn, wCons, wNil, wVCons, wVNil, wAvNil, wAvVal, wAvBor, wCall2, wC, wVar, wAndV, wOrV, wNotV, wIte, wLst, wTup, wDct, wChn, wSlc, partE, varOp, asOp, entry, content, resO, resOs, frz, wRet, wRetV, wRetN, wNext, wDrop, wSet, wUnp, wPar, wSti, wBrk, wCnt, wMut, muD, wSeq', wFor, wWhile, wLc, wRng1, wRng2, wZip, itemsD, nth, bindTg, bindTgs, noOw, wipeS, restore, wback_val, wback_nil, wback_bor, List.nodup_nil, List.nodup_cons, List.not_mem_nil, bors, resA, pairD, keyD, le_size, List.replicate_succ, List.replicate_zero, List.length_cons, List.length_nil, List.cons_append, List.nil_append, List.getElem?_cons_zero, List.getElem?_cons_succ, List.getElem?_nil, List.set_cons_zero, List.set_cons_succ, Option.isSome_some, List.map_cons, List.map_nil, List.all_cons, List.all_nil, List.any_cons, List.any_nil, Nat.reduceSub, Nat.reduceAdd, Nat.reduceLT, Nat.reduceLeDiff, reduceIte, reduceCtorEq, Bool.not_true, Bool.not_false, Bool.false_eq_true, and_true, true_and, List.drop_zero, List.drop_succ_cons, List.take_succ_cons, List.take_zero, lenD, intD, boolD, strD, listD, tupleD, allD, anyD, blsD, cmpB, cmpD, binD, addD, subD, mulD, fdivD, modD, powD, negD, idxD, slcD, truD, ltD, gtD, leD, geD, eqD_int, eqD_bl, eqD_str, eqD_non, L2.atI, ixN_lit, Int.reduceToNat, Option.bind_some, List.length_map, List.set_cons_zero, List.set_cons_succ, isNon, inD_ss, inStr_one, isiD, seqOf, lstOf, String.reduceNe, String.reduceEq, ne_eq, not_false_eq_true, not_true_eq_false, Bool.or_true, Bool.or_false, Bool.true_or, Bool.false_or, Bool.and_true, Bool.and_false, Bool.true_and, Bool.false_and, isT_NoneType_bool, isT_NoneType_int, isT_NoneType_str, isT_NoneType_list, isT_NoneType_tuple, isT_NoneType_dict, isT_bool_bool, isT_bool_int, isT_bool_str, isT_bool_list, isT_bool_tuple, isT_bool_dict, isT_int_bool, isT_int_int, isT_int_str, isT_int_list, isT_int_tuple, isT_int_dict, isT_str_bool, isT_str_int, isT_str_str, isT_str_list, isT_str_tuple, isT_str_dict, isT_list_bool, isT_list_int, isT_list_str, isT_list_list, isT_list_tuple, isT_list_dict, isT_tuple_bool, isT_tuple_int, isT_tuple_str, isT_tuple_list, isT_tuple_tuple, isT_tuple_dict, isT_dict_bool, isT_dict_int, isT_dict_str, isT_dict_list, isT_dict_tuple, isT_dict_dict, tyN_non, tyN_bl, tyN_int, tyN_str, tyN_lst, tyN_tup, tyN_klst, tyN_dic])
      rcases hm with rfl | ⟨b, rfl⟩
      · simp only [dflF, kwF, shs, pickG, pickO, consO, Option.map_some, List.take_nil, wMeth, methD, joinD, strsOf_map, wSs_cons, wSs_nil, Later_nil, wS, wE, wT, wI, wX, wVl, wOl, wAv, mk3, mkT, mkI, opd, wIf, wOr, DL.wAnd, DL.wNot, wBool, wTru, wUn, wOp, wFn, wCons, wNil, wVCons, wVNil, wAvNil, wAvVal, wAvBor, wCall2, wC, wVar, wAndV, wOrV, wNotV, wIte, wLst, wTup, wDct, wChn, wSlc, partE, varOp, asOp, entry, content, resO, resOs, frz, wRet, wRetV, wRetN, wNext, wDrop, wSet, wUnp, wPar, wSti, wBrk, wCnt, wMut, muD, wSeq', wFor, wWhile, wLc, wRng1, wRng2, wZip, itemsD, nth, bindTg, bindTgs, noOw, wipeS, restore, wback_val, wback_nil, wback_bor, List.nodup_nil, List.nodup_cons, List.not_mem_nil, bors, resA, pairD, keyD, le_size, List.replicate_succ, List.replicate_zero, List.length_cons, List.length_nil, List.cons_append, List.nil_append, List.getElem?_cons_zero, List.getElem?_cons_succ, List.getElem?_nil, List.set_cons_zero, List.set_cons_succ, Option.isSome_some, List.map_cons, List.map_nil, List.all_cons, List.all_nil, List.any_cons, List.any_nil, Nat.reduceSub, Nat.reduceAdd, Nat.reduceLT, Nat.reduceLeDiff, reduceIte, reduceCtorEq, Bool.not_true, Bool.not_false, Bool.false_eq_true, and_true, true_and, List.drop_zero, List.drop_succ_cons, List.take_succ_cons, List.take_zero, lenD, intD, boolD, strD, listD, tupleD, allD, anyD, blsD, cmpB, cmpD, binD, addD, subD, mulD, fdivD, modD, powD, negD, idxD, slcD, truD, ltD, gtD, leD, geD, eqD_int, eqD_bl, eqD_str, eqD_non, L2.atI, ixN_lit, Int.reduceToNat, Option.bind_some, List.length_map, List.set_cons_zero, List.set_cons_succ, isNon, inD_ss, inStr_one, isiD, seqOf, lstOf, String.reduceNe, String.reduceEq, ne_eq, not_false_eq_true, not_true_eq_false, Bool.or_true, Bool.or_false, Bool.true_or, Bool.false_or, Bool.and_true, Bool.and_false, Bool.true_and, Bool.false_and, isT_NoneType_bool, isT_NoneType_int, isT_NoneType_str, isT_NoneType_list, isT_NoneType_tuple, isT_NoneType_dict, isT_bool_bool, isT_bool_int, isT_bool_str, isT_bool_list, isT_bool_tuple, isT_bool_dict, isT_int_bool, isT_int_int, isT_int_str, isT_int_list, isT_int_tuple, isT_int_dict, isT_str_bool, isT_str_int, isT_str_str, isT_str_list, isT_str_tuple, isT_str_dict, isT_list_bool, isT_list_int, isT_list_str, isT_list_list, isT_list_tuple, isT_list_dict, isT_tuple_bool, isT_tuple_int, isT_tuple_str, isT_tuple_list, isT_tuple_tuple, isT_tuple_dict, isT_dict_bool, isT_dict_int, isT_dict_str, isT_dict_list, isT_dict_tuple, isT_dict_dict, tyN_non, tyN_bl, tyN_int, tyN_str, tyN_lst, tyN_tup, tyN_klst, tyN_dic]
        simp only [numB, h'] at hR
        exact hR _
      · simp only [dflF, kwF, shs, pickG, pickO, consO, Option.map_some, List.take_nil, wMeth, methD, joinD, strsOf_map, wSs_cons, wSs_nil, Later_nil, wS, wE, wT, wI, wX, wVl, wOl, wAv, mk3, mkT, mkI, opd, wIf, wOr, DL.wAnd, DL.wNot, wBool, wTru, wUn, wOp, wFn, wCons, wNil, wVCons, wVNil, wAvNil, wAvVal, wAvBor, wCall2, wC, wVar, wAndV, wOrV, wNotV, wIte, wLst, wTup, wDct, wChn, wSlc, partE, varOp, asOp, entry, content, resO, resOs, frz, wRet, wRetV, wRetN, wNext, wDrop, wSet, wUnp, wPar, wSti, wBrk, wCnt, wMut, muD, wSeq', wFor, wWhile, wLc, wRng1, wRng2, wZip, itemsD, nth, bindTg, bindTgs, noOw, wipeS, restore, wback_val, wback_nil, wback_bor, List.nodup_nil, List.nodup_cons, List.not_mem_nil, bors, resA, pairD, keyD, le_size, List.replicate_succ, List.replicate_zero, List.length_cons, List.length_nil, List.cons_append, List.nil_append, List.getElem?_cons_zero, List.getElem?_cons_succ, List.getElem?_nil, List.set_cons_zero, List.set_cons_succ, Option.isSome_some, List.map_cons, List.map_nil, List.all_cons, List.all_nil, List.any_cons, List.any_nil, Nat.reduceSub, Nat.reduceAdd, Nat.reduceLT, Nat.reduceLeDiff, reduceIte, reduceCtorEq, Bool.not_true, Bool.not_false, Bool.false_eq_true, and_true, true_and, List.drop_zero, List.drop_succ_cons, List.take_succ_cons, List.take_zero, lenD, intD, boolD, strD, listD, tupleD, allD, anyD, blsD, cmpB, cmpD, binD, addD, subD, mulD, fdivD, modD, powD, negD, idxD, slcD, truD, ltD, gtD, leD, geD, eqD_int, eqD_bl, eqD_str, eqD_non, L2.atI, ixN_lit, Int.reduceToNat, Option.bind_some, List.length_map, List.set_cons_zero, List.set_cons_succ, isNon, inD_ss, inStr_one, isiD, seqOf, lstOf, String.reduceNe, String.reduceEq, ne_eq, not_false_eq_true, not_true_eq_false, Bool.or_true, Bool.or_false, Bool.true_or, Bool.false_or, Bool.and_true, Bool.and_false, Bool.true_and, Bool.false_and, isT_NoneType_bool, isT_NoneType_int, isT_NoneType_str, isT_NoneType_list, isT_NoneType_tuple, isT_NoneType_dict, isT_bool_bool, isT_bool_int, isT_bool_str, isT_bool_list, isT_bool_tuple, isT_bool_dict, isT_int_bool, isT_int_int, isT_int_str, isT_int_list, isT_int_tuple, isT_int_dict, isT_str_bool, isT_str_int, isT_str_str, isT_str_list, isT_str_tuple, isT_str_dict, isT_list_bool, isT_list_int, isT_list_str, isT_list_list, isT_list_tuple, isT_list_dict, isT_tuple_bool, isT_tuple_int, isT_tuple_str, isT_tuple_list, isT_tuple_tuple, isT_tuple_dict, isT_dict_bool, isT_dict_int, isT_dict_str, isT_dict_list, isT_dict_tuple, isT_dict_dict, tyN_non, tyN_bl, tyN_int, tyN_str, tyN_lst, tyN_tup, tyN_klst, tyN_dic]
        simp only [numB, h', Bool.true_and] at hR
        exact hR _
  | ins C ns vs => exact absurd rfl hd
  | ty n => exact absurd rfl hd
  | gl n => exact absurd rfl hd
  | _ =>
    simp only [dflF, kwF, shs, pickG, pickO, consO, Option.map_some, List.take_nil, wMeth, methD, joinD, strsOf_map, wSs_cons, wSs_nil, Later_nil, wS, wE, wT, wI, wX, wVl, wOl, wAv, mk3, mkT, mkI, opd, wIf, wOr, DL.wAnd, DL.wNot, wBool, wTru, wUn, wOp, wFn, wCons, wNil, wVCons, wVNil, wAvNil, wAvVal, wAvBor, wCall2, wC, wVar, wAndV, wOrV, wNotV, wIte, wLst, wTup, wDct, wChn, wSlc, partE, varOp, asOp, entry, content, resO, resOs, frz, wRet, wRetV, wRetN, wNext, wDrop, wSet, wUnp, wPar, wSti, wBrk, wCnt, wMut, muD, wSeq', wFor, wWhile, wLc, wRng1, wRng2, wZip, itemsD, nth, bindTg, bindTgs, noOw, wipeS, restore, wback_val, wback_nil, wback_bor, List.nodup_nil, List.nodup_cons, List.not_mem_nil, bors, resA, pairD, keyD, le_size, List.replicate_succ, List.replicate_zero, List.length_cons, List.length_nil, List.cons_append, List.nil_append, List.getElem?_cons_zero, List.getElem?_cons_succ, List.getElem?_nil, List.set_cons_zero, List.set_cons_succ, Option.isSome_some, List.map_cons, List.map_nil, List.all_cons, List.all_nil, List.any_cons, List.any_nil, Nat.reduceSub, Nat.reduceAdd, Nat.reduceLT, Nat.reduceLeDiff, reduceIte, reduceCtorEq, Bool.not_true, Bool.not_false, Bool.false_eq_true, and_true, true_and, List.drop_zero, List.drop_succ_cons, List.take_succ_cons, List.take_zero, lenD, intD, boolD, strD, listD, tupleD, allD, anyD, blsD, cmpB, cmpD, binD, addD, subD, mulD, fdivD, modD, powD, negD, idxD, slcD, truD, ltD, gtD, leD, geD, eqD_int, eqD_bl, eqD_str, eqD_non, L2.atI, ixN_lit, Int.reduceToNat, Option.bind_some, List.length_map, List.set_cons_zero, List.set_cons_succ, isNon, inD_ss, inStr_one, isiD, seqOf, lstOf, String.reduceNe, String.reduceEq, ne_eq, not_false_eq_true, not_true_eq_false, Bool.or_true, Bool.or_false, Bool.true_or, Bool.false_or, Bool.and_true, Bool.and_false, Bool.true_and, Bool.false_and, isT_NoneType_bool, isT_NoneType_int, isT_NoneType_str, isT_NoneType_list, isT_NoneType_tuple, isT_NoneType_dict, isT_bool_bool, isT_bool_int, isT_bool_str, isT_bool_list, isT_bool_tuple, isT_bool_dict, isT_int_bool, isT_int_int, isT_int_str, isT_int_list, isT_int_tuple, isT_int_dict, isT_str_bool, isT_str_int, isT_str_str, isT_str_list, isT_str_tuple, isT_str_dict, isT_list_bool, isT_list_int, isT_list_str, isT_list_list, isT_list_tuple, isT_list_dict, isT_tuple_bool, isT_tuple_int, isT_tuple_str, isT_tuple_list, isT_tuple_tuple, isT_tuple_dict, isT_dict_bool, isT_dict_int, isT_dict_str, isT_dict_list, isT_dict_tuple, isT_dict_dict, tyN_non, tyN_bl, tyN_int, tyN_str, tyN_lst, tyN_tup, tyN_klst, tyN_dic]
    exact hR _
def g_is_number_0_most_least_value {α : Type} (ds us ks : List α) : List α := match us, ks, ds with
  | [], [k0, k1, k2], [d0, d1] => [k2, k1, k0]
  | _, _, _ => []
def g_is_number_0_value_most {α : Type} (ds us ks : List α) : List α := match us, ks, ds with
  | [], [k0, k1], [d0, d1] => [k0, d0, k1]
  | _, _, _ => []
def g_is_number_1_least {α : Type} (ds us ks : List α) : List α := match us, ks, ds with
  | [p0], [k0], [d0, d1] => [p0, k0, d1]
  | _, _, _ => []
def g_is_number_2_most {α : Type} (ds us ks : List α) : List α := match us, ks, ds with
  | [p0, p1], [k0], [d0, d1] => [p0, p1, k0]
  | _, _, _ => []
theorem ok_is_number {P : Program} {w : World} {K : PySem.W.Frag} {mg : Str → Option Value} {base : Heap} (V : VE K mg) : ∃ fd, FunD K "is_number" "is_number" (defArgs (top 7)) (defBody (top 7)) (defScope (top 7)) [.int 0, .non] [] (He.ga K "is_number") fd ∧ FnOk P w K mg base CX0 1 (He.ga K "is_number") fd ["value", "least", "most"] (spOf K F_is_number) := by
  obtain ⟨fd, Fd⟩ := V.def_ 1 (d := dd "is_number" 7 [.int 0, .non]) rfl
  exact ⟨fd, Fd, fn_ok Fd (d_is_number 0) (mkTab .nil .nil (show ([] : List (Str × Nat)).all (fun c => decide (c.1 ∈ FR)) = true by decide +kernel) .nil .nil noAt_ok V.free) rfl p_is_number⟩
theorem cj_is_number_1 {P : Program} {w : World} {K : PySem.W.Frag} {mg : Str → Option Value} {base : Heap} {lv : Nat} (V : VE K mg) (h : 1 ≤ lv) : CallJ P w K mg base lv "is_number" 1 [] (dflF ([.int 0, .non].drop 0) F_is_number) := by
  obtain ⟨fd, Fd, F⟩ := ok_is_number (P := P) (w := w) (base := base) V
  obtain ⟨ds, hv, hb⟩ := FunD.binds1 Fd (ps := ["value", "least", "most"]) 1 0 (by decide) rfl (fun T kV doc pm an cdv ct us its l1 l2 => match us, l1, its, l2 with | [_], _, [_, _], _ => ⟨_, rfl, rfl⟩)
  exact callJ_dfl F h (V.glo 1 rfl) Fd.kp hb hv (fun G => reps_cs rfl) 1
theorem cj_is_number_2 {P : Program} {w : World} {K : PySem.W.Frag} {mg : Str → Option Value} {base : Heap} {lv : Nat} (V : VE K mg) (h : 1 ≤ lv) : CallJ P w K mg base lv "is_number" 2 [] (dflF ([.int 0, .non].drop 1) F_is_number) := by
  obtain ⟨fd, Fd, F⟩ := ok_is_number (P := P) (w := w) (base := base) V
  obtain ⟨ds, hv, hb⟩ := FunD.binds1 Fd (ps := ["value", "least", "most"]) 2 1 (by decide) rfl (fun T kV doc pm an cdv ct us its l1 l2 => match us, l1, its, l2 with | [_, _], _, [_, _], _ => ⟨_, rfl, rfl⟩)
  exact callJ_dfl F h (V.glo 1 rfl) Fd.kp hb hv (fun G => reps_cs rfl) 2
theorem cj_is_number_3 {P : Program} {w : World} {K : PySem.W.Frag} {mg : Str → Option Value} {base : Heap} {lv : Nat} (V : VE K mg) (h : 1 ≤ lv) : CallJ P w K mg base lv "is_number" 3 [] F_is_number := by
  obtain ⟨fd, Fd, F⟩ := ok_is_number (P := P) (w := w) (base := base) V
  obtain ⟨ds, hv, hb⟩ := FunD.binds1 Fd (ps := ["value", "least", "most"]) 3 2 (by decide) rfl (fun T kV doc pm an cdv ct us its l1 l2 => match us, l1, its, l2 with | [_, _, _], _, [_, _], _ => ⟨_, rfl, rfl⟩)
  cases hv
  exact callJ F h (V.glo 1 rfl) Fd.kp hb 3
theorem cj_is_number_0_most_least_value {P : Program} {w : World} {K : PySem.W.Frag} {mg : Str → Option Value} {base : Heap} {lv : Nat} (V : VE K mg) (h : 1 ≤ lv) : CallJ P w K mg base lv "is_number" 0 ["most", "least", "value"] (kwF 0 3 (fun as bs => pickG [(1, 2), (1, 1), (1, 0)] [.int 0, .non] as bs) F_is_number) := by
  obtain ⟨fd, Fd, F⟩ := ok_is_number (P := P) (w := w) (base := base) V
  obtain ⟨its, hb⟩ := FunD.kbindsD Fd (ps := ["value", "least", "most"]) 0 ["most", "least", "value"] (fun us ds ks => pickG [(1, 2), (1, 1), (1, 0)] ds us ks) (by decide) (fun r1 r2 r3 => pick_rel [(1, 2), (1, 1), (1, 0)] r1 r2 r3) (fun T kV doc pmd an cdv ct us its ws l1 l2 l3 => match us, l1, its, l2, ws, l3 with | [], _, [_, _], _, [_, _, _], _ => ⟨_, rfl, rfl⟩)
  exact callJ_kw F h (V.glo 1 rfl) Fd.kp hb (fun G as bs vs zs r1 r2 _ _ => pick_reps [(1, 2), (1, 1), (1, 0)] r1 (reps_cs rfl) r2)
theorem cj_is_number_0_value_most {P : Program} {w : World} {K : PySem.W.Frag} {mg : Str → Option Value} {base : Heap} {lv : Nat} (V : VE K mg) (h : 1 ≤ lv) : CallJ P w K mg base lv "is_number" 0 ["value", "most"] (kwF 0 2 (fun as bs => pickG [(1, 0), (2, 0), (1, 1)] [.int 0, .non] as bs) F_is_number) := by
  obtain ⟨fd, Fd, F⟩ := ok_is_number (P := P) (w := w) (base := base) V
  obtain ⟨its, hb⟩ := FunD.kbindsD Fd (ps := ["value", "least", "most"]) 0 ["value", "most"] (fun us ds ks => pickG [(1, 0), (2, 0), (1, 1)] ds us ks) (by decide) (fun r1 r2 r3 => pick_rel [(1, 0), (2, 0), (1, 1)] r1 r2 r3) (fun T kV doc pmd an cdv ct us its ws l1 l2 l3 => match us, l1, its, l2, ws, l3 with | [], _, [_, _], _, [_, _], _ => ⟨_, rfl, rfl⟩)
  exact callJ_kw F h (V.glo 1 rfl) Fd.kp hb (fun G as bs vs zs r1 r2 _ _ => pick_reps [(1, 0), (2, 0), (1, 1)] r1 (reps_cs rfl) r2)
theorem cj_is_number_1_least {P : Program} {w : World} {K : PySem.W.Frag} {mg : Str → Option Value} {base : Heap} {lv : Nat} (V : VE K mg) (h : 1 ≤ lv) : CallJ P w K mg base lv "is_number" 1 ["least"] (kwF 1 1 (fun as bs => pickG [(0, 0), (1, 0), (2, 1)] [.int 0, .non] as bs) F_is_number) := by
  obtain ⟨fd, Fd, F⟩ := ok_is_number (P := P) (w := w) (base := base) V
  obtain ⟨its, hb⟩ := FunD.kbindsD Fd (ps := ["value", "least", "most"]) 1 ["least"] (fun us ds ks => pickG [(0, 0), (1, 0), (2, 1)] ds us ks) (by decide) (fun r1 r2 r3 => pick_rel [(0, 0), (1, 0), (2, 1)] r1 r2 r3) (fun T kV doc pmd an cdv ct us its ws l1 l2 l3 => match us, l1, its, l2, ws, l3 with | [_], _, [_, _], _, [_], _ => ⟨_, rfl, rfl⟩)
  exact callJ_kw F h (V.glo 1 rfl) Fd.kp hb (fun G as bs vs zs r1 r2 _ _ => pick_reps [(0, 0), (1, 0), (2, 1)] r1 (reps_cs rfl) r2)
theorem cj_is_number_2_most {P : Program} {w : World} {K : PySem.W.Frag} {mg : Str → Option Value} {base : Heap} {lv : Nat} (V : VE K mg) (h : 1 ≤ lv) : CallJ P w K mg base lv "is_number" 2 ["most"] (kwF 2 1 (fun as bs => pickG [(0, 0), (0, 1), (1, 0)] [.int 0, .non] as bs) F_is_number) := by
  obtain ⟨fd, Fd, F⟩ := ok_is_number (P := P) (w := w) (base := base) V
  obtain ⟨its, hb⟩ := FunD.kbindsD Fd (ps := ["value", "least", "most"]) 2 ["most"] (fun us ds ks => pickG [(0, 0), (0, 1), (1, 0)] ds us ks) (by decide) (fun r1 r2 r3 => pick_rel [(0, 0), (0, 1), (1, 0)] r1 r2 r3) (fun T kV doc pmd an cdv ct us its ws l1 l2 l3 => match us, l1, its, l2, ws, l3 with | [_, _], _, [_, _], _, [_], _ => ⟨_, rfl, rfl⟩)
  exact callJ_kw F h (V.glo 1 rfl) Fd.kp hb (fun G as bs vs zs r1 r2 _ _ => pick_reps [(0, 0), (0, 1), (1, 0)] r1 (reps_cs rfl) r2)
end K01

namespace K01
open PySem DL
open L2 (V FnOk FunD CX0 defArgs defBody defScope SqL FnScope KBn)
/-- data that `like` holds equal to itself -/
def likeOk : Nat → D → Prop
  | 0, d => flatD d = true
  | n + 1, d => flatD d = true ∨ (∃ xs, d = .lst xs ∧ xs.length ≤ 1000000 ∧ ∀ x ∈ xs, likeOk n x) ∨ ∃ xs, d = .tup xs ∧ xs.length ≤ 1000000 ∧ ∀ x ∈ xs, likeOk n x
def F__law_like : Nat → FS
  | 0 => falF
  | n + 1 => fun args R => ∃ d, args = [.sh d, .sh d] ∧ likeOk n d ∧ ∀ o, R (.sh (.bl true)) o
def C__law_like (lv : Nat) : CC := { N := ["_law_told", "_law_due", "_law_a", "_law_b", "_law_k"], sc := defScope (top 12), lv := lv, kp := [], brw := [], calls := [("_law_like", 2, [])], bis := [("len", 1), ("all", 1), ("bool", 1)], cons := [], fr := FR }
def b__law_like : List S := [(.ifs (.isi (.var 1) ["list", "tuple"]) [(.ifs (.or (.cmp .NotEq (.isi (.var 0) ["list"]) (.isi (.var 1) ["list"])) (.cmp .NotEq (.isi (.var 0) ["tuple"]) (.isi (.var 1) ["tuple"]))) [(.ret (.bl false))] []), (.ret (.and (.cmp .Eq (.bi 0 [(.var 0)]) (.bi 0 [(.var 1)])) (.bi 1 [(.lc (.call 0 [(.var 2), (.var 3)] []) (.tp [(.nm 2), (.nm 3)]) (.zip [(.var 0), (.var 1)]) [] [2, 3])])))] []), (.ifs (.isi (.var 1) ["dict"]) [(.ifs (.nt (.isi (.var 0) ["dict"])) [(.ret (.bl false))] []), (.ret (.call 0 [(.lc (.lst [(.var 4), (.idx (.var 0) (.var 4))]) (.nm 4) (.var 0) [] [4]), (.lc (.lst [(.var 4), (.idx (.var 1) (.var 4))]) (.nm 4) (.var 1) [] [4])] []))] []), (.ifs (.or (.cmp .Is (.var 1) .non) (.cmp .Is (.var 0) .non)) [(.ret (.and (.cmp .Is (.var 1) .non) (.cmp .Is (.var 0) .non)))] []), (.ifs (.or (.isi (.var 0) ["list", "tuple", "dict"]) (.cmp .NotEq (.isi (.var 0) ["bool"]) (.isi (.var 1) ["bool"]))) [(.ret (.bl false))] []), (.ifs (.or (.cmp .NotEq (.isi (.var 0) ["str"]) (.isi (.var 1) ["str"])) (.cmp .NotEq (.isi (.var 0) ["int"]) (.isi (.var 1) ["int"]))) [(.ret (.bl false))] []), (.ret (.bi 2 [(.cmp .Eq (.var 0) (.var 1))]))]
theorem sc__law_like : FnScope ["_law_told", "_law_due", "_law_a", "_law_b", "_law_k"] ["_law_told", "_law_due"] (defScope (top 12)) := ⟨rfl, rfl, rfl, by decide +kernel, rfl, by decide +kernel, by decide +kernel⟩
theorem d__law_like (lv : Nat) : DefC (C__law_like lv) ["_law_told", "_law_due"] (defArgs (top 12)) (defBody (top 12)) (defScope (top 12)) b__law_like := ⟨sc__law_like, rfl, rfl, (show ∀ i ∈ ([] : List Nat), i < 2 by decide), by kernel_rfl⟩
def M__law_like (n : Nat) : DL.Sem := mkSem [] [F__law_like n] [lenD, allD, boolD] [] [] noAt
theorem zip_self (xs : List D) : zipD xs xs = xs.map fun x => .tup [x, x] := by
  induction xs with
  | nil => rfl
  | cons x xs ih => show D.tup [x, x] :: zipD xs xs = _; rw [ih]; rfl
theorem likeOk_cases {n : Nat} {d : D} (h : likeOk n d) : (d = .non ∨ (∃ b, d = .bl b) ∨ (∃ i, d = .int i) ∨ ∃ z, d = .str z) ∨ ∃ m xs, n = m + 1 ∧ (d = .lst xs ∨ d = .tup xs) ∧ xs.length ≤ 1000000 ∧ ∀ x ∈ xs, likeOk m x := by
  have fl : flatD d = true → d = .non ∨ (∃ b, d = .bl b) ∨ (∃ i, d = .int i) ∨ ∃ z, d = .str z := fun h => by
    cases d with
    | non => exact .inl rfl
    | bl b => exact .inr (.inl ⟨b, rfl⟩)
    | int i => exact .inr (.inr (.inl ⟨i, rfl⟩))
    | str z => exact .inr (.inr (.inr ⟨z, rfl⟩))
    | _ => cases h
  cases n with
  | zero => exact .inl (fl h)
  | succ n =>
    rcases h with h | ⟨xs, rfl, h1, h2⟩ | ⟨xs, rfl, h1, h2⟩
    · exact .inl (fl h)
    · exact .inr ⟨n, xs, rfl, .inl rfl, h1, h2⟩
    · exact .inr ⟨n, xs, rfl, .inr rfl, h1, h2⟩
theorem blsOf_const {α : Type} (b : Bool) (l : List α) : blsOf (l.map fun _ => D.bl b) = some (l.map fun _ => b) := by
  induction l with
  | nil => rfl
  | cons a l ih => show (blsOf (l.map fun _ => D.bl b)).map (b :: ·) = _; rw [ih]; rfl
theorem p__law_like (n : Nat) : ∀ args R, F__law_like (n + 1) args R → runF [] 2 5 (wSs (M__law_like n) b__law_like) args R := by
  rintro args R ⟨d, rfl, hd, hR⟩
  refine ⟨rfl, ?_⟩
  unfold b__law_like M__law_like
  rcases likeOk_cases hd with (rfl | ⟨b, rfl⟩ | ⟨i, rfl⟩ | ⟨z, rfl⟩) | ⟨m, xs, rfl, (rfl | rfl), hl, hx⟩
  · simp only [dflF, kwF, shs, pickG, pickO, consO, Option.map_some, List.take_nil, wMeth, methD, joinD, strsOf_map, wSs_cons, wSs_nil, Later_nil, wS, wE, wT, wI, wX, wVl, wOl, wAv, mk3, mkT, mkI, opd, wIf, wOr, DL.wAnd, DL.wNot, wBool, wTru, wUn, wOp, wFn, wCons, wNil, wVCons, wVNil, wAvNil, wAvVal, wAvBor, wCall2, wC, wVar, wAndV, wOrV, wNotV, wIte, wLst, wTup, wDct, wChn, wSlc, partE, varOp, asOp, entry, content, resO, resOs, frz, wRet, wRetV, wRetN, wNext, wDrop, wSet, wUnp, wPar, wSti, wBrk, wCnt, wMut, muD, wSeq', wFor, wWhile, wLc, wRng1, wRng2, wZip, itemsD, nth, bindTg, bindTgs, noOw, wipeS, restore, wback_val, wback_nil, wback_bor, List.nodup_nil, List.nodup_cons, List.not_mem_nil, bors, resA, pairD, keyD, le_size, List.replicate_succ, List.replicate_zero, List.length_cons, List.length_nil, List.cons_append, List.nil_append, List.getElem?_cons_zero, List.getElem?_cons_succ, List.getElem?_nil, List.set_cons_zero, List.set_cons_succ, Option.isSome_some, List.map_cons, List.map_nil, List.all_cons, List.all_nil, List.any_cons, List.any_nil, Nat.reduceSub, Nat.reduceAdd, Nat.reduceLT, Nat.reduceLeDiff, reduceIte, reduceCtorEq, Bool.not_true, Bool.not_false, Bool.false_eq_true, and_true, true_and, List.drop_zero, List.drop_succ_cons, List.take_succ_cons, List.take_zero, lenD, intD, boolD, strD, listD, tupleD, allD, anyD, blsD, cmpB, cmpD, binD, addD, subD, mulD, fdivD, modD, powD, negD, idxD, slcD, truD, ltD, gtD, leD, geD, eqD_int, eqD_bl, eqD_str, eqD_non, L2.atI, ixN_lit, Int.reduceToNat, Option.bind_some, List.length_map, List.set_cons_zero, List.set_cons_succ, isNon, inD_ss, inStr_one, isiD, seqOf, lstOf, String.reduceNe, String.reduceEq, ne_eq, not_false_eq_true, not_true_eq_false, Bool.or_true, Bool.or_false, Bool.true_or, Bool.false_or, Bool.and_true, Bool.and_false, Bool.true_and, Bool.false_and, isT_NoneType_bool, isT_NoneType_int, isT_NoneType_str, isT_NoneType_list, isT_NoneType_tuple, isT_NoneType_dict, isT_bool_bool, isT_bool_int, isT_bool_str, isT_bool_list, isT_bool_tuple, isT_bool_dict, isT_int_bool, isT_int_int, isT_int_str, isT_int_list, isT_int_tuple, isT_int_dict, isT_str_bool, isT_str_int, isT_str_str, isT_str_list, isT_str_tuple, isT_str_dict, isT_list_bool, isT_list_int, isT_list_str, isT_list_list, isT_list_tuple, isT_list_dict, isT_tuple_bool, isT_tuple_int, isT_tuple_str, isT_tuple_list, isT_tuple_tuple, isT_tuple_dict, isT_dict_bool, isT_dict_int, isT_dict_str, isT_dict_list, isT_dict_tuple, isT_dict_dict, tyN_non, tyN_bl, tyN_int, tyN_str, tyN_lst, tyN_tup, tyN_klst, tyN_dic]
    (refine later ?_; simp only [dflF, kwF, shs, pickG, pickO, consO, Option.map_some, List.take_nil, wMeth, methD, joinD, strsOf_map, wSs_cons, wSs_nil, Later_nil, wS, wE, wT, wI, wX, wVl, wOl, wAv, mk3, mkT, mkI, opd, wIf, wOr, DL.wAnd, DL.wNot, wBool, wTru, wUn, wOp, wFn, wCons, wNil, wVCons, wVNil, wAvNil, wAvVal, wAvBor, wCall2, wC, wVar, wAndV, wOrV, wNotV, wIte, wLst, wTup, wDct, wChn, wSlc, partE, varOp, asOp, entry, content, resO, resOs, frz, wRet, wRetV, wRetN, wNext, wDrop, wSet, wUnp, wPar, wSti, wBrk, wCnt, wMut, muD, wSeq', wFor, wWhile, wLc, wRng1, wRng2, wZip, itemsD, nth, bindTg, bindTgs, noOw, wipeS, restore, wback_val, wback_nil, wback_bor, List.nodup_nil, List.nodup_cons, List.not_mem_nil, bors, resA, pairD, keyD, le_size, List.replicate_succ, List.replicate_zero, List.length_cons, List.length_nil, List.cons_append, List.nil_append, List.getElem?_cons_zero, List.getElem?_cons_succ, List.getElem?_nil, List.set_cons_zero, List.set_cons_succ, Option.isSome_some, List.map_cons, List.map_nil, List.all_cons, List.all_nil, List.any_cons, List.any_nil, Nat.reduceSub, Nat.reduceAdd, Nat.reduceLT, Nat.reduceLeDiff, reduceIte, reduceCtorEq, Bool.not_true, Bool.not_false, Bool.false_eq_true, and_true, true_and, List.drop_zero, List.drop_succ_cons, List.take_succ_cons, List.take_zero, lenD, intD, boolD, strD, listD, tupleD, allD, anyD, blsD, cmpB, cmpD, binD, addD, subD, mulD, fdivD, modD, powD, negD, idxD, slcD, truD, ltD, gtD, leD, geD, eqD_int, eqD_bl, eqD_str, eqD_non, L2.atI, ixN_lit, Int.reduceToNat, Option.bind_some, List.length_map, List.set_cons_zero, List.set_cons_succ, isNon, inD_ss, inStr_one, isiD, seqOf, lstOf, String.reduceNe, String.reduceEq, ne_eq, not_false_eq_true, not_true_eq_false, Bool.or_true, Bool.or_false, Bool.true_or, Bool.false_or, Bool.and_true, Bool.and_false, Bool.true_and, Bool.false_and, isT_NoneType_bool, isT_NoneType_int, isT_NoneType_str, isT_NoneType_list, isT_NoneType_tuple, isT_NoneType_dict, isT_bool_bool, isT_bool_int, isT_bool_str, isT_bool_list, isT_bool_tuple, isT_bool_dict, isT_int_bool, isT_int_int, isT_int_str, isT_int_list, isT_int_tuple, isT_int_dict, isT_str_bool, isT_str_int, isT_str_str, isT_str_list, isT_str_tuple, isT_str_dict, isT_list_bool, isT_list_int, isT_list_str, isT_list_list, isT_list_tuple, isT_list_dict, isT_tuple_bool, isT_tuple_int, isT_tuple_str, isT_tuple_list, isT_tuple_tuple, isT_tuple_dict, isT_dict_bool, isT_dict_int, isT_dict_str, isT_dict_list, isT_dict_tuple, isT_dict_dict, tyN_non, tyN_bl, tyN_int, tyN_str, tyN_lst, tyN_tup, tyN_klst, tyN_dic])
    (refine later ?_; simp only [dflF, kwF, shs, pickG, pickO, consO, Option.map_some, List.take_nil, wMeth, methD, joinD, strsOf_map, wSs_cons, wSs_nil, Later_nil, wS, wE, wT, wI, wX, wVl, wOl, wAv, mk3, mkT, mkI, opd, wIf, wOr, DL.wAnd, DL.wNot, wBool, wTru, wUn, wOp, wFn, wCons, wNil, wVCons, wVNil, wAvNil, wAvVal, wAvBor, wCall2, wC, wVar, wAndV, wOrV, wNotV, wIte, wLst, wTup, wDct, wChn, wSlc, partE, varOp, asOp, entry, content, resO, resOs, frz, wRet, wRetV, wRetN, wNext, wDrop, wSet, wUnp, wPar, wSti, wBrk, wCnt, wMut, muD, wSeq', wFor, wWhile, wLc, wRng1, wRng2, wZip, itemsD, nth, bindTg, bindTgs, noOw, wipeS, restore, wback_val, wback_nil, wback_bor, List.nodup_nil, List.nodup_cons, List.not_mem_nil, bors, resA, pairD, keyD, le_size, List.replicate_succ, List.replicate_zero, List.length_cons, List.length_nil, List.cons_append, List.nil_append, List.getElem?_cons_zero, List.getElem?_cons_succ, List.getElem?_nil, List.set_cons_zero, List.set_cons_succ, Option.isSome_some, List.map_cons, List.map_nil, List.all_cons, List.all_nil, List.any_cons, List.any_nil, Nat.reduceSub, Nat.reduceAdd, Nat.reduceLT, Nat.reduceLeDiff, reduceIte, reduceCtorEq, Bool.not_true, Bool.not_false, Bool.false_eq_true, and_true, true_and, List.drop_zero, List.drop_succ_cons, List.take_succ_cons, List.take_zero, lenD, intD, boolD, strD, listD, tupleD, allD, anyD, blsD, cmpB, cmpD, binD, addD, subD, mulD, fdivD, modD, powD, negD, idxD, slcD, truD, ltD, gtD, leD, geD, eqD_int, eqD_bl, eqD_str, eqD_non, L2.atI, ixN_lit, Int.reduceToNat, Option.bind_some, List.length_map, List.set_cons_zero, List.set_cons_succ, isNon, inD_ss, inStr_one, isiD, seqOf, lstOf, String.reduceNe, String.reduceEq, ne_eq, not_false_eq_true, not_true_eq_false, Bool.or_true, Bool.or_false, Bool.true_or, Bool.false_or, Bool.and_true, Bool.and_false, Bool.true_and, Bool.false_and, isT_NoneType_bool, isT_NoneType_int, isT_NoneType_str, isT_NoneType_list, isT_NoneType_tuple, isT_NoneType_dict, isT_bool_bool, isT_bool_int, isT_bool_str, isT_bool_list, isT_bool_tuple, isT_bool_dict, isT_int_bool, isT_int_int, isT_int_str, isT_int_list, isT_int_tuple, isT_int_dict, isT_str_bool, isT_str_int, isT_str_str, isT_str_list, isT_str_tuple, isT_str_dict, isT_list_bool, isT_list_int, isT_list_str, isT_list_list, isT_list_tuple, isT_list_dict, isT_tuple_bool, isT_tuple_int, isT_tuple_str, isT_tuple_list, isT_tuple_tuple, isT_tuple_dict, isT_dict_bool, isT_dict_int, isT_dict_str, isT_dict_list, isT_dict_tuple, isT_dict_dict, tyN_non, tyN_bl, tyN_int, tyN_str, tyN_lst, tyN_tup, tyN_klst, tyN_dic])
    exact hR _
  · simp only [dflF, kwF, shs, pickG, pickO, consO, Option.map_some, List.take_nil, wMeth, methD, joinD, strsOf_map, wSs_cons, wSs_nil, Later_nil, wS, wE, wT, wI, wX, wVl, wOl, wAv, mk3, mkT, mkI, opd, wIf, wOr, DL.wAnd, DL.wNot, wBool, wTru, wUn, wOp, wFn, wCons, wNil, wVCons, wVNil, wAvNil, wAvVal, wAvBor, wCall2, wC, wVar, wAndV, wOrV, wNotV, wIte, wLst, wTup, wDct, wChn, wSlc, partE, varOp, asOp, entry, content, resO, resOs, frz, wRet, wRetV, wRetN, wNext, wDrop, wSet, wUnp, wPar, wSti, wBrk, wCnt, wMut, muD, wSeq', wFor, wWhile, wLc, wRng1, wRng2, wZip, itemsD, nth, bindTg, bindTgs, noOw, wipeS, restore, wback_val, wback_nil, wback_bor, List.nodup_nil, List.nodup_cons, List.not_mem_nil, bors, resA, pairD, keyD, le_size, List.replicate_succ, List.replicate_zero, List.length_cons, List.length_nil, List.cons_append, List.nil_append, List.getElem?_cons_zero, List.getElem?_cons_succ, List.getElem?_nil, List.set_cons_zero, List.set_cons_succ, Option.isSome_some, List.map_cons, List.map_nil, List.all_cons, List.all_nil, List.any_cons, List.any_nil, Nat.reduceSub, Nat.reduceAdd, Nat.reduceLT, Nat.reduceLeDiff, reduceIte, reduceCtorEq, Bool.not_true, Bool.not_false, Bool.false_eq_true, and_true, true_and, List.drop_zero, List.drop_succ_cons, List.take_succ_cons, List.take_zero, lenD, intD, boolD, strD, listD, tupleD, allD, anyD, blsD, cmpB, cmpD, binD, addD, subD, mulD, fdivD, modD, powD, negD, idxD, slcD, truD, ltD, gtD, leD, geD, eqD_int, eqD_bl, eqD_str, eqD_non, L2.atI, ixN_lit, Int.reduceToNat, Option.bind_some, List.length_map, List.set_cons_zero, List.set_cons_succ, isNon, inD_ss, inStr_one, isiD, seqOf, lstOf, String.reduceNe, String.reduceEq, ne_eq, not_false_eq_true, not_true_eq_false, Bool.or_true, Bool.or_false, Bool.true_or, Bool.false_or, Bool.and_true, Bool.and_false, Bool.true_and, Bool.false_and, isT_NoneType_bool, isT_NoneType_int, isT_NoneType_str, isT_NoneType_list, isT_NoneType_tuple, isT_NoneType_dict, isT_bool_bool, isT_bool_int, isT_bool_str, isT_bool_list, isT_bool_tuple, isT_bool_dict, isT_int_bool, isT_int_int, isT_int_str, isT_int_list, isT_int_tuple, isT_int_dict, isT_str_bool, isT_str_int, isT_str_str, isT_str_list, isT_str_tuple, isT_str_dict, isT_list_bool, isT_list_int, isT_list_str, isT_list_list, isT_list_tuple, isT_list_dict, isT_tuple_bool, isT_tuple_int, isT_tuple_str, isT_tuple_list, isT_tuple_tuple, isT_tuple_dict, isT_dict_bool, isT_dict_int, isT_dict_str, isT_dict_list, isT_dict_tuple, isT_dict_dict, tyN_non, tyN_bl, tyN_int, tyN_str, tyN_lst, tyN_tup, tyN_klst, tyN_dic]
    (refine later ?_; simp only [dflF, kwF, shs, pickG, pickO, consO, Option.map_some, List.take_nil, wMeth, methD, joinD, strsOf_map, wSs_cons, wSs_nil, Later_nil, wS, wE, wT, wI, wX, wVl, wOl, wAv, mk3, mkT, mkI, opd, wIf, wOr, DL.wAnd, DL.wNot, wBool, wTru, wUn, wOp, wFn, wCons, wNil, wVCons, wVNil, wAvNil, wAvVal, wAvBor, wCall2, wC, wVar, wAndV, wOrV, wNotV, wIte, wLst, wTup, wDct, wChn, wSlc, partE, varOp, asOp, entry, content, resO, resOs, frz, wRet, wRetV, wRetN, wNext, wDrop, wSet, wUnp, wPar, wSti, wBrk, wCnt, wMut, muD, wSeq', wFor, wWhile, wLc, wRng1, wRng2, wZip, itemsD, nth, bindTg, bindTgs, noOw, wipeS, restore, wback_val, wback_nil, wback_bor, List.nodup_nil, List.nodup_cons, List.not_mem_nil, bors, resA, pairD, keyD, le_size, List.replicate_succ, List.replicate_zero, List.length_cons, List.length_nil, List.cons_append, List.nil_append, List.getElem?_cons_zero, List.getElem?_cons_succ, List.getElem?_nil, List.set_cons_zero, List.set_cons_succ, Option.isSome_some, List.map_cons, List.map_nil, List.all_cons, List.all_nil, List.any_cons, List.any_nil, Nat.reduceSub, Nat.reduceAdd, Nat.reduceLT, Nat.reduceLeDiff, reduceIte, reduceCtorEq, Bool.not_true, Bool.not_false, Bool.false_eq_true, and_true, true_and, List.drop_zero, List.drop_succ_cons, List.take_succ_cons, List.take_zero, lenD, intD, boolD, strD, listD, tupleD, allD, anyD, blsD, cmpB, cmpD, binD, addD, subD, mulD, fdivD, modD, powD, negD, idxD, slcD, truD, ltD, gtD, leD, geD, eqD_int, eqD_bl, eqD_str, eqD_non, L2.atI, ixN_lit, Int.reduceToNat, Option.bind_some, List.length_map, List.set_cons_zero, List.set_cons_succ, isNon, inD_ss, inStr_one, isiD, seqOf, lstOf, String.reduceNe, String.reduceEq, ne_eq, not_false_eq_true, not_true_eq_false, Bool.or_true, Bool.or_false, Bool.true_or, Bool.false_or, Bool.and_true, Bool.and_false, Bool.true_and, Bool.false_and, isT_NoneType_bool, isT_NoneType_int, isT_NoneType_str, isT_NoneType_list, isT_NoneType_tuple, isT_NoneType_dict, isT_bool_bool, isT_bool_int, isT_bool_str, isT_bool_list, isT_bool_tuple, isT_bool_dict, isT_int_bool, isT_int_int, isT_int_str, isT_int_list, isT_int_tuple, isT_int_dict, isT_str_bool, isT_str_int, isT_str_str, isT_str_list, isT_str_tuple, isT_str_dict, isT_list_bool, isT_list_int, isT_list_str, isT_list_list, isT_list_tuple, isT_list_dict, isT_tuple_bool, isT_tuple_int, isT_tuple_str, isT_tuple_list, isT_tuple_tuple, isT_tuple_dict, isT_dict_bool, isT_dict_int, isT_dict_str, isT_dict_list, isT_dict_tuple, isT_dict_dict, tyN_non, tyN_bl, tyN_int, tyN_str, tyN_lst, tyN_tup, tyN_klst, tyN_dic])
    (refine later ?_; simp only [dflF, kwF, shs, pickG, pickO, consO, Option.map_some, List.take_nil, wMeth, methD, joinD, strsOf_map, wSs_cons, wSs_nil, Later_nil, wS, wE, wT, wI, wX, wVl, wOl, wAv, mk3, mkT, mkI, opd, wIf, wOr, DL.wAnd, DL.wNot, wBool, wTru, wUn, wOp, wFn, wCons, wNil, wVCons, wVNil, wAvNil, wAvVal, wAvBor, wCall2, wC, wVar, wAndV, wOrV, wNotV, wIte, wLst, wTup, wDct, wChn, wSlc, partE, varOp, asOp, entry, content, resO, resOs, frz, wRet, wRetV, wRetN, wNext, wDrop, wSet, wUnp, wPar, wSti, wBrk, wCnt, wMut, muD, wSeq', wFor, wWhile, wLc, wRng1, wRng2, wZip, itemsD, nth, bindTg, bindTgs, noOw, wipeS, restore, wback_val, wback_nil, wback_bor, List.nodup_nil, List.nodup_cons, List.not_mem_nil, bors, resA, pairD, keyD, le_size, List.replicate_succ, List.replicate_zero, List.length_cons, List.length_nil, List.cons_append, List.nil_append, List.getElem?_cons_zero, List.getElem?_cons_succ, List.getElem?_nil, List.set_cons_zero, List.set_cons_succ, Option.isSome_some, List.map_cons, List.map_nil, List.all_cons, List.all_nil, List.any_cons, List.any_nil, Nat.reduceSub, Nat.reduceAdd, Nat.reduceLT, Nat.reduceLeDiff, reduceIte, reduceCtorEq, Bool.not_true, Bool.not_false, Bool.false_eq_true, and_true, true_and, List.drop_zero, List.drop_succ_cons, List.take_succ_cons, List.take_zero, lenD, intD, boolD, strD, listD, tupleD, allD, anyD, blsD, cmpB, cmpD, binD, addD, subD, mulD, fdivD, modD, powD, negD, idxD, slcD, truD, ltD, gtD, leD, geD, eqD_int, eqD_bl, eqD_str, eqD_non, L2.atI, ixN_lit, Int.reduceToNat, Option.bind_some, List.length_map, List.set_cons_zero, List.set_cons_succ, isNon, inD_ss, inStr_one, isiD, seqOf, lstOf, String.reduceNe, String.reduceEq, ne_eq, not_false_eq_true, not_true_eq_false, Bool.or_true, Bool.or_false, Bool.true_or, Bool.false_or, Bool.and_true, Bool.and_false, Bool.true_and, Bool.false_and, isT_NoneType_bool, isT_NoneType_int, isT_NoneType_str, isT_NoneType_list, isT_NoneType_tuple, isT_NoneType_dict, isT_bool_bool, isT_bool_int, isT_bool_str, isT_bool_list, isT_bool_tuple, isT_bool_dict, isT_int_bool, isT_int_int, isT_int_str, isT_int_list, isT_int_tuple, isT_int_dict, isT_str_bool, isT_str_int, isT_str_str, isT_str_list, isT_str_tuple, isT_str_dict, isT_list_bool, isT_list_int, isT_list_str, isT_list_list, isT_list_tuple, isT_list_dict, isT_tuple_bool, isT_tuple_int, isT_tuple_str, isT_tuple_list, isT_tuple_tuple, isT_tuple_dict, isT_dict_bool, isT_dict_int, isT_dict_str, isT_dict_list, isT_dict_tuple, isT_dict_dict, tyN_non, tyN_bl, tyN_int, tyN_str, tyN_lst, tyN_tup, tyN_klst, tyN_dic])
    (refine later ?_; simp only [dflF, kwF, shs, pickG, pickO, consO, Option.map_some, List.take_nil, wMeth, methD, joinD, strsOf_map, wSs_cons, wSs_nil, Later_nil, wS, wE, wT, wI, wX, wVl, wOl, wAv, mk3, mkT, mkI, opd, wIf, wOr, DL.wAnd, DL.wNot, wBool, wTru, wUn, wOp, wFn, wCons, wNil, wVCons, wVNil, wAvNil, wAvVal, wAvBor, wCall2, wC, wVar, wAndV, wOrV, wNotV, wIte, wLst, wTup, wDct, wChn, wSlc, partE, varOp, asOp, entry, content, resO, resOs, frz, wRet, wRetV, wRetN, wNext, wDrop, wSet, wUnp, wPar, wSti, wBrk, wCnt, wMut, muD, wSeq', wFor, wWhile, wLc, wRng1, wRng2, wZip, itemsD, nth, bindTg, bindTgs, noOw, wipeS, restore, wback_val, wback_nil, wback_bor, List.nodup_nil, List.nodup_cons, List.not_mem_nil, bors, resA, pairD, keyD, le_size, List.replicate_succ, List.replicate_zero, List.length_cons, List.length_nil, List.cons_append, List.nil_append, List.getElem?_cons_zero, List.getElem?_cons_succ, List.getElem?_nil, List.set_cons_zero, List.set_cons_succ, Option.isSome_some, List.map_cons, List.map_nil, List.all_cons, List.all_nil, List.any_cons, List.any_nil, Nat.reduceSub, Nat.reduceAdd, Nat.reduceLT, Nat.reduceLeDiff, reduceIte, reduceCtorEq, Bool.not_true, Bool.not_false, Bool.false_eq_true, and_true, true_and, List.drop_zero, List.drop_succ_cons, List.take_succ_cons, List.take_zero, lenD, intD, boolD, strD, listD, tupleD, allD, anyD, blsD, cmpB, cmpD, binD, addD, subD, mulD, fdivD, modD, powD, negD, idxD, slcD, truD, ltD, gtD, leD, geD, eqD_int, eqD_bl, eqD_str, eqD_non, L2.atI, ixN_lit, Int.reduceToNat, Option.bind_some, List.length_map, List.set_cons_zero, List.set_cons_succ, isNon, inD_ss, inStr_one, isiD, seqOf, lstOf, String.reduceNe, String.reduceEq, ne_eq, not_false_eq_true, not_true_eq_false, Bool.or_true, Bool.or_false, Bool.true_or, Bool.false_or, Bool.and_true, Bool.and_false, Bool.true_and, Bool.false_and, isT_NoneType_bool, isT_NoneType_int, isT_NoneType_str, isT_NoneType_list, isT_NoneType_tuple, isT_NoneType_dict, isT_bool_bool, isT_bool_int, isT_bool_str, isT_bool_list, isT_bool_tuple, isT_bool_dict, isT_int_bool, isT_int_int, isT_int_str, isT_int_list, isT_int_tuple, isT_int_dict, isT_str_bool, isT_str_int, isT_str_str, isT_str_list, isT_str_tuple, isT_str_dict, isT_list_bool, isT_list_int, isT_list_str, isT_list_list, isT_list_tuple, isT_list_dict, isT_tuple_bool, isT_tuple_int, isT_tuple_str, isT_tuple_list, isT_tuple_tuple, isT_tuple_dict, isT_dict_bool, isT_dict_int, isT_dict_str, isT_dict_list, isT_dict_tuple, isT_dict_dict, tyN_non, tyN_bl, tyN_int, tyN_str, tyN_lst, tyN_tup, tyN_klst, tyN_dic])
    (refine later ?_; simp only [dflF, kwF, shs, pickG, pickO, consO, Option.map_some, List.take_nil, wMeth, methD, joinD, strsOf_map, wSs_cons, wSs_nil, Later_nil, wS, wE, wT, wI, wX, wVl, wOl, wAv, mk3, mkT, mkI, opd, wIf, wOr, DL.wAnd, DL.wNot, wBool, wTru, wUn, wOp, wFn, wCons, wNil, wVCons, wVNil, wAvNil, wAvVal, wAvBor, wCall2, wC, wVar, wAndV, wOrV, wNotV, wIte, wLst, wTup, wDct, wChn, wSlc, partE, varOp, asOp, entry, content, resO, resOs, frz, wRet, wRetV, wRetN, wNext, wDrop, wSet, wUnp, wPar, wSti, wBrk, wCnt, wMut, muD, wSeq', wFor, wWhile, wLc, wRng1, wRng2, wZip, itemsD, nth, bindTg, bindTgs, noOw, wipeS, restore, wback_val, wback_nil, wback_bor, List.nodup_nil, List.nodup_cons, List.not_mem_nil, bors, resA, pairD, keyD, le_size, List.replicate_succ, List.replicate_zero, List.length_cons, List.length_nil, List.cons_append, List.nil_append, List.getElem?_cons_zero, List.getElem?_cons_succ, List.getElem?_nil, List.set_cons_zero, List.set_cons_succ, Option.isSome_some, List.map_cons, List.map_nil, List.all_cons, List.all_nil, List.any_cons, List.any_nil, Nat.reduceSub, Nat.reduceAdd, Nat.reduceLT, Nat.reduceLeDiff, reduceIte, reduceCtorEq, Bool.not_true, Bool.not_false, Bool.false_eq_true, and_true, true_and, List.drop_zero, List.drop_succ_cons, List.take_succ_cons, List.take_zero, lenD, intD, boolD, strD, listD, tupleD, allD, anyD, blsD, cmpB, cmpD, binD, addD, subD, mulD, fdivD, modD, powD, negD, idxD, slcD, truD, ltD, gtD, leD, geD, eqD_int, eqD_bl, eqD_str, eqD_non, L2.atI, ixN_lit, Int.reduceToNat, Option.bind_some, List.length_map, List.set_cons_zero, List.set_cons_succ, isNon, inD_ss, inStr_one, isiD, seqOf, lstOf, String.reduceNe, String.reduceEq, ne_eq, not_false_eq_true, not_true_eq_false, Bool.or_true, Bool.or_false, Bool.true_or, Bool.false_or, Bool.and_true, Bool.and_false, Bool.true_and, Bool.false_and, isT_NoneType_bool, isT_NoneType_int, isT_NoneType_str, isT_NoneType_list, isT_NoneType_tuple, isT_NoneType_dict, isT_bool_bool, isT_bool_int, isT_bool_str, isT_bool_list, isT_bool_tuple, isT_bool_dict, isT_int_bool, isT_int_int, isT_int_str, isT_int_list, isT_int_tuple, isT_int_dict, isT_str_bool, isT_str_int, isT_str_str, isT_str_list, isT_str_tuple, isT_str_dict, isT_list_bool, isT_list_int, isT_list_str, isT_list_list, isT_list_tuple, isT_list_dict, isT_tuple_bool, isT_tuple_int, isT_tuple_str, isT_tuple_list, isT_tuple_tuple, isT_tuple_dict, isT_dict_bool, isT_dict_int, isT_dict_str, isT_dict_list, isT_dict_tuple, isT_dict_dict, tyN_non, tyN_bl, tyN_int, tyN_str, tyN_lst, tyN_tup, tyN_klst, tyN_dic])
    (refine later ?_; simp only [dflF, kwF, shs, pickG, pickO, consO, Option.map_some, List.take_nil, wMeth, methD, joinD, strsOf_map, wSs_cons, wSs_nil, Later_nil, wS, wE, wT, wI, wX, wVl, wOl, wAv, mk3, mkT, mkI, opd, wIf, wOr, DL.wAnd, DL.wNot, wBool, wTru, wUn, wOp, wFn, wCons, wNil, wVCons, wVNil, wAvNil, wAvVal, wAvBor, wCall2, wC, wVar, wAndV, wOrV, wNotV, wIte, wLst, wTup, wDct, wChn, wSlc, partE, varOp, asOp, entry, content, resO, resOs, frz, wRet, wRetV, wRetN, wNext, wDrop, wSet, wUnp, wPar, wSti, wBrk, wCnt, wMut, muD, wSeq', wFor, wWhile, wLc, wRng1, wRng2, wZip, itemsD, nth, bindTg, bindTgs, noOw, wipeS, restore, wback_val, wback_nil, wback_bor, List.nodup_nil, List.nodup_cons, List.not_mem_nil, bors, resA, pairD, keyD, le_size, List.replicate_succ, List.replicate_zero, List.length_cons, List.length_nil, List.cons_append, List.nil_append, List.getElem?_cons_zero, List.getElem?_cons_succ, List.getElem?_nil, List.set_cons_zero, List.set_cons_succ, Option.isSome_some, List.map_cons, List.map_nil, List.all_cons, List.all_nil, List.any_cons, List.any_nil, Nat.reduceSub, Nat.reduceAdd, Nat.reduceLT, Nat.reduceLeDiff, reduceIte, reduceCtorEq, Bool.not_true, Bool.not_false, Bool.false_eq_true, and_true, true_and, List.drop_zero, List.drop_succ_cons, List.take_succ_cons, List.take_zero, lenD, intD, boolD, strD, listD, tupleD, allD, anyD, blsD, cmpB, cmpD, binD, addD, subD, mulD, fdivD, modD, powD, negD, idxD, slcD, truD, ltD, gtD, leD, geD, eqD_int, eqD_bl, eqD_str, eqD_non, L2.atI, ixN_lit, Int.reduceToNat, Option.bind_some, List.length_map, List.set_cons_zero, List.set_cons_succ, isNon, inD_ss, inStr_one, isiD, seqOf, lstOf, String.reduceNe, String.reduceEq, ne_eq, not_false_eq_true, not_true_eq_false, Bool.or_true, Bool.or_false, Bool.true_or, Bool.false_or, Bool.and_true, Bool.and_false, Bool.true_and, Bool.false_and, isT_NoneType_bool, isT_NoneType_int, isT_NoneType_str, isT_NoneType_list, isT_NoneType_tuple, isT_NoneType_dict, isT_bool_bool, isT_bool_int, isT_bool_str, isT_bool_list, isT_bool_tuple, isT_bool_dict, isT_int_bool, isT_int_int, isT_int_str, isT_int_list, isT_int_tuple, isT_int_dict, isT_str_bool, isT_str_int, isT_str_str, isT_str_list, isT_str_tuple, isT_str_dict, isT_list_bool, isT_list_int, isT_list_str, isT_list_list, isT_list_tuple, isT_list_dict, isT_tuple_bool, isT_tuple_int, isT_tuple_str, isT_tuple_list, isT_tuple_tuple, isT_tuple_dict, isT_dict_bool, isT_dict_int, isT_dict_str, isT_dict_list, isT_dict_tuple, isT_dict_dict, tyN_non, tyN_bl, tyN_int, tyN_str, tyN_lst, tyN_tup, tyN_klst, tyN_dic])
    rw [beq_self_eq_true]
    exact hR _
  · simp only [dflF, kwF, shs, pickG, pickO, consO, Option.map_some, List.take_nil, wMeth, methD, joinD, strsOf_map, wSs_cons, wSs_nil, Later_nil, wS, wE, wT, wI, wX, wVl, wOl, wAv, mk3, mkT, mkI, opd, wIf, wOr, DL.wAnd, DL.wNot, wBool, wTru, wUn, wOp, wFn, wCons, wNil, wVCons, wVNil, wAvNil, wAvVal, wAvBor, wCall2, wC, wVar, wAndV, wOrV, wNotV, wIte, wLst, wTup, wDct, wChn, wSlc, partE, varOp, asOp, entry, content, resO, resOs, frz, wRet, wRetV, wRetN, wNext, wDrop, wSet, wUnp, wPar, wSti, wBrk, wCnt, wMut, muD, wSeq', wFor, wWhile, wLc, wRng1, wRng2, wZip, itemsD, nth, bindTg, bindTgs, noOw, wipeS, restore, wback_val, wback_nil, wback_bor, List.nodup_nil, List.nodup_cons, List.not_mem_nil, bors, resA, pairD, keyD, le_size, List.replicate_succ, List.replicate_zero, List.length_cons, List.length_nil, List.cons_append, List.nil_append, List.getElem?_cons_zero, List.getElem?_cons_succ, List.getElem?_nil, List.set_cons_zero, List.set_cons_succ, Option.isSome_some, List.map_cons, List.map_nil, List.all_cons, List.all_nil, List.any_cons, List.any_nil, Nat.reduceSub, Nat.reduceAdd, Nat.reduceLT, Nat.reduceLeDiff, reduceIte, reduceCtorEq, Bool.not_true, Bool.not_false, Bool.false_eq_true, and_true, true_and, List.drop_zero, List.drop_succ_cons, List.take_succ_cons, List.take_zero, lenD, intD, boolD, strD, listD, tupleD, allD, anyD, blsD, cmpB, cmpD, binD, addD, subD, mulD, fdivD, modD, powD, negD, idxD, slcD, truD, ltD, gtD, leD, geD, eqD_int, eqD_bl, eqD_str, eqD_non, L2.atI, ixN_lit, Int.reduceToNat, Option.bind_some, List.length_map, List.set_cons_zero, List.set_cons_succ, isNon, inD_ss, inStr_one, isiD, seqOf, lstOf, String.reduceNe, String.reduceEq, ne_eq, not_false_eq_true, not_true_eq_false, Bool.or_true, Bool.or_false, Bool.true_or, Bool.false_or, Bool.and_true, Bool.and_false, Bool.true_and, Bool.false_and, isT_NoneType_bool, isT_NoneType_int, isT_NoneType_str, isT_NoneType_list, isT_NoneType_tuple, isT_NoneType_dict, isT_bool_bool, isT_bool_int, isT_bool_str, isT_bool_list, isT_bool_tuple, isT_bool_dict, isT_int_bool, isT_int_int, isT_int_str, isT_int_list, isT_int_tuple, isT_int_dict, isT_str_bool, isT_str_int, isT_str_str, isT_str_list, isT_str_tuple, isT_str_dict, isT_list_bool, isT_list_int, isT_list_str, isT_list_list, isT_list_tuple, isT_list_dict, isT_tuple_bool, isT_tuple_int, isT_tuple_str, isT_tuple_list, isT_tuple_tuple, isT_tuple_dict, isT_dict_bool, isT_dict_int, isT_dict_str, isT_dict_list, isT_dict_tuple, isT_dict_dict, tyN_non, tyN_bl, tyN_int, tyN_str, tyN_lst, tyN_tup, tyN_klst, tyN_dic]
    (refine later ?_; simp only [dflF, kwF, shs, pickG, pickO, consO, Option.map_some, List.take_nil, wMeth, methD, joinD, strsOf_map, wSs_cons, wSs_nil, Later_nil, wS, wE, wT, wI, wX, wVl, wOl, wAv, mk3, mkT, mkI, opd, wIf, wOr, DL.wAnd, DL.wNot, wBool, wTru, wUn, wOp, wFn, wCons, wNil, wVCons, wVNil, wAvNil, wAvVal, wAvBor, wCall2, wC, wVar, wAndV, wOrV, wNotV, wIte, wLst, wTup, wDct, wChn, wSlc, partE, varOp, asOp, entry, content, resO, resOs, frz, wRet, wRetV, wRetN, wNext, wDrop, wSet, wUnp, wPar, wSti, wBrk, wCnt, wMut, muD, wSeq', wFor, wWhile, wLc, wRng1, wRng2, wZip, itemsD, nth, bindTg, bindTgs, noOw, wipeS, restore, wback_val, wback_nil, wback_bor, List.nodup_nil, List.nodup_cons, List.not_mem_nil, bors, resA, pairD, keyD, le_size, List.replicate_succ, List.replicate_zero, List.length_cons, List.length_nil, List.cons_append, List.nil_append, List.getElem?_cons_zero, List.getElem?_cons_succ, List.getElem?_nil, List.set_cons_zero, List.set_cons_succ, Option.isSome_some, List.map_cons, List.map_nil, List.all_cons, List.all_nil, List.any_cons, List.any_nil, Nat.reduceSub, Nat.reduceAdd, Nat.reduceLT, Nat.reduceLeDiff, reduceIte, reduceCtorEq, Bool.not_true, Bool.not_false, Bool.false_eq_true, and_true, true_and, List.drop_zero, List.drop_succ_cons, List.take_succ_cons, List.take_zero, lenD, intD, boolD, strD, listD, tupleD, allD, anyD, blsD, cmpB, cmpD, binD, addD, subD, mulD, fdivD, modD, powD, negD, idxD, slcD, truD, ltD, gtD, leD, geD, eqD_int, eqD_bl, eqD_str, eqD_non, L2.atI, ixN_lit, Int.reduceToNat, Option.bind_some, List.length_map, List.set_cons_zero, List.set_cons_succ, isNon, inD_ss, inStr_one, isiD, seqOf, lstOf, String.reduceNe, String.reduceEq, ne_eq, not_false_eq_true, not_true_eq_false, Bool.or_true, Bool.or_false, Bool.true_or, Bool.false_or, Bool.and_true, Bool.and_false, Bool.true_and, Bool.false_and, isT_NoneType_bool, isT_NoneType_int, isT_NoneType_str, isT_NoneType_list, isT_NoneType_tuple, isT_NoneType_dict, isT_bool_bool, isT_bool_int, isT_bool_str, isT_bool_list, isT_bool_tuple, isT_bool_dict, isT_int_bool, isT_int_int, isT_int_str, isT_int_list, isT_int_tuple, isT_int_dict, isT_str_bool, isT_str_int, isT_str_str, isT_str_list, isT_str_tuple, isT_str_dict, isT_list_bool, isT_list_int, isT_list_str, isT_list_list, isT_list_tuple, isT_list_dict, isT_tuple_bool, isT_tuple_int, isT_tuple_str, isT_tuple_list, isT_tuple_tuple, isT_tuple_dict, isT_dict_bool, isT_dict_int, isT_dict_str, isT_dict_list, isT_dict_tuple, isT_dict_dict, tyN_non, tyN_bl, tyN_int, tyN_str, tyN_lst, tyN_tup, tyN_klst, tyN_dic])
    (refine later ?_; simp only [dflF, kwF, shs, pickG, pickO, consO, Option.map_some, List.take_nil, wMeth, methD, joinD, strsOf_map, wSs_cons, wSs_nil, Later_nil, wS, wE, wT, wI, wX, wVl, wOl, wAv, mk3, mkT, mkI, opd, wIf, wOr, DL.wAnd, DL.wNot, wBool, wTru, wUn, wOp, wFn, wCons, wNil, wVCons, wVNil, wAvNil, wAvVal, wAvBor, wCall2, wC, wVar, wAndV, wOrV, wNotV, wIte, wLst, wTup, wDct, wChn, wSlc, partE, varOp, asOp, entry, content, resO, resOs, frz, wRet, wRetV, wRetN, wNext, wDrop, wSet, wUnp, wPar, wSti, wBrk, wCnt, wMut, muD, wSeq', wFor, wWhile, wLc, wRng1, wRng2, wZip, itemsD, nth, bindTg, bindTgs, noOw, wipeS, restore, wback_val, wback_nil, wback_bor, List.nodup_nil, List.nodup_cons, List.not_mem_nil, bors, resA, pairD, keyD, le_size, List.replicate_succ, List.replicate_zero, List.length_cons, List.length_nil, List.cons_append, List.nil_append, List.getElem?_cons_zero, List.getElem?_cons_succ, List.getElem?_nil, List.set_cons_zero, List.set_cons_succ, Option.isSome_some, List.map_cons, List.map_nil, List.all_cons, List.all_nil, List.any_cons, List.any_nil, Nat.reduceSub, Nat.reduceAdd, Nat.reduceLT, Nat.reduceLeDiff, reduceIte, reduceCtorEq, Bool.not_true, Bool.not_false, Bool.false_eq_true, and_true, true_and, List.drop_zero, List.drop_succ_cons, List.take_succ_cons, List.take_zero, lenD, intD, boolD, strD, listD, tupleD, allD, anyD, blsD, cmpB, cmpD, binD, addD, subD, mulD, fdivD, modD, powD, negD, idxD, slcD, truD, ltD, gtD, leD, geD, eqD_int, eqD_bl, eqD_str, eqD_non, L2.atI, ixN_lit, Int.reduceToNat, Option.bind_some, List.length_map, List.set_cons_zero, List.set_cons_succ, isNon, inD_ss, inStr_one, isiD, seqOf, lstOf, String.reduceNe, String.reduceEq, ne_eq, not_false_eq_true, not_true_eq_false, Bool.or_true, Bool.or_false, Bool.true_or, Bool.false_or, Bool.and_true, Bool.and_false, Bool.true_and, Bool.false_and, isT_NoneType_bool, isT_NoneType_int, isT_NoneType_str, isT_NoneType_list, isT_NoneType_tuple, isT_NoneType_dict, isT_bool_bool, isT_bool_int, isT_bool_str, isT_bool_list, isT_bool_tuple, isT_bool_dict, isT_int_bool, isT_int_int, isT_int_str, isT_int_list, isT_int_tuple, isT_int_dict, isT_str_bool, isT_str_int, isT_str_str, isT_str_list, isT_str_tuple, isT_str_dict, isT_list_bool, isT_list_int, isT_list_str, isT_list_list, isT_list_tuple, isT_list_dict, isT_tuple_bool, isT_tuple_int, isT_tuple_str, isT_tuple_list, isT_tuple_tuple, isT_tuple_dict, isT_dict_bool, isT_dict_int, isT_dict_str, isT_dict_list, isT_dict_tuple, isT_dict_dict, tyN_non, tyN_bl, tyN_int, tyN_str, tyN_lst, tyN_tup, tyN_klst, tyN_dic])
    (refine later ?_; simp only [dflF, kwF, shs, pickG, pickO, consO, Option.map_some, List.take_nil, wMeth, methD, joinD, strsOf_map, wSs_cons, wSs_nil, Later_nil, wS, wE, wT, wI, wX, wVl, wOl, wAv, mk3, mkT, mkI, opd, wIf, wOr, DL.wAnd, DL.wNot, wBool, wTru, wUn, wOp, wFn, wCons, wNil, wVCons, wVNil, wAvNil, wAvVal, wAvBor, wCall2, wC, wVar, wAndV, wOrV, wNotV, wIte, wLst, wTup, wDct, wChn, wSlc, partE, varOp, asOp, entry, content, resO, resOs, frz, wRet, wRetV, wRetN, wNext, wDrop, wSet, wUnp, wPar, wSti, wBrk, wCnt, wMut, muD, wSeq', wFor, wWhile, wLc, wRng1, wRng2, wZip, itemsD, nth, bindTg, bindTgs, noOw, wipeS, restore, wback_val, wback_nil, wback_bor, List.nodup_nil, List.nodup_cons, List.not_mem_nil, bors, resA, pairD, keyD, le_size, List.replicate_succ, List.replicate_zero, List.length_cons, List.length_nil, List.cons_append, List.nil_append, List.getElem?_cons_zero, List.getElem?_cons_succ, List.getElem?_nil, List.set_cons_zero, List.set_cons_succ, Option.isSome_some, List.map_cons, List.map_nil, List.all_cons, List.all_nil, List.any_cons, List.any_nil, Nat.reduceSub, Nat.reduceAdd, Nat.reduceLT, Nat.reduceLeDiff, reduceIte, reduceCtorEq, Bool.not_true, Bool.not_false, Bool.false_eq_true, and_true, true_and, List.drop_zero, List.drop_succ_cons, List.take_succ_cons, List.take_zero, lenD, intD, boolD, strD, listD, tupleD, allD, anyD, blsD, cmpB, cmpD, binD, addD, subD, mulD, fdivD, modD, powD, negD, idxD, slcD, truD, ltD, gtD, leD, geD, eqD_int, eqD_bl, eqD_str, eqD_non, L2.atI, ixN_lit, Int.reduceToNat, Option.bind_some, List.length_map, List.set_cons_zero, List.set_cons_succ, isNon, inD_ss, inStr_one, isiD, seqOf, lstOf, String.reduceNe, String.reduceEq, ne_eq, not_false_eq_true, not_true_eq_false, Bool.or_true, Bool.or_false, Bool.true_or, Bool.false_or, Bool.and_true, Bool.and_false, Bool.true_and, Bool.false_and, isT_NoneType_bool, isT_NoneType_int, isT_NoneType_str, isT_NoneType_list, isT_NoneType_tuple, isT_NoneType_dict, isT_bool_bool, isT_bool_int, isT_bool_str, isT_bool_list, isT_bool_tuple, isT_bool_dict, isT_int_bool, isT_int_int, isT_int_str, isT_int_list, isT_int_tuple, isT_int_dict, isT_str_bool, isT_str_int, isT_str_str, isT_str_list, isT_str_tuple, isT_str_dict, isT_list_bool, isT_list_int, isT_list_str, isT_list_list, isT_list_tuple, isT_list_dict, isT_tuple_bool, isT_tuple_int, isT_tuple_str, isT_tuple_list, isT_tuple_tuple, isT_tuple_dict, isT_dict_bool, isT_dict_int, isT_dict_str, isT_dict_list, isT_dict_tuple, isT_dict_dict, tyN_non, tyN_bl, tyN_int, tyN_str, tyN_lst, tyN_tup, tyN_klst, tyN_dic])
    (refine later ?_; simp only [dflF, kwF, shs, pickG, pickO, consO, Option.map_some, List.take_nil, wMeth, methD, joinD, strsOf_map, wSs_cons, wSs_nil, Later_nil, wS, wE, wT, wI, wX, wVl, wOl, wAv, mk3, mkT, mkI, opd, wIf, wOr, DL.wAnd, DL.wNot, wBool, wTru, wUn, wOp, wFn, wCons, wNil, wVCons, wVNil, wAvNil, wAvVal, wAvBor, wCall2, wC, wVar, wAndV, wOrV, wNotV, wIte, wLst, wTup, wDct, wChn, wSlc, partE, varOp, asOp, entry, content, resO, resOs, frz, wRet, wRetV, wRetN, wNext, wDrop, wSet, wUnp, wPar, wSti, wBrk, wCnt, wMut, muD, wSeq', wFor, wWhile, wLc, wRng1, wRng2, wZip, itemsD, nth, bindTg, bindTgs, noOw, wipeS, restore, wback_val, wback_nil, wback_bor, List.nodup_nil, List.nodup_cons, List.not_mem_nil, bors, resA, pairD, keyD, le_size, List.replicate_succ, List.replicate_zero, List.length_cons, List.length_nil, List.cons_append, List.nil_append, List.getElem?_cons_zero, List.getElem?_cons_succ, List.getElem?_nil, List.set_cons_zero, List.set_cons_succ, Option.isSome_some, List.map_cons, List.map_nil, List.all_cons, List.all_nil, List.any_cons, List.any_nil, Nat.reduceSub, Nat.reduceAdd, Nat.reduceLT, Nat.reduceLeDiff, reduceIte, reduceCtorEq, Bool.not_true, Bool.not_false, Bool.false_eq_true, and_true, true_and, List.drop_zero, List.drop_succ_cons, List.take_succ_cons, List.take_zero, lenD, intD, boolD, strD, listD, tupleD, allD, anyD, blsD, cmpB, cmpD, binD, addD, subD, mulD, fdivD, modD, powD, negD, idxD, slcD, truD, ltD, gtD, leD, geD, eqD_int, eqD_bl, eqD_str, eqD_non, L2.atI, ixN_lit, Int.reduceToNat, Option.bind_some, List.length_map, List.set_cons_zero, List.set_cons_succ, isNon, inD_ss, inStr_one, isiD, seqOf, lstOf, String.reduceNe, String.reduceEq, ne_eq, not_false_eq_true, not_true_eq_false, Bool.or_true, Bool.or_false, Bool.true_or, Bool.false_or, Bool.and_true, Bool.and_false, Bool.true_and, Bool.false_and, isT_NoneType_bool, isT_NoneType_int, isT_NoneType_str, isT_NoneType_list, isT_NoneType_tuple, isT_NoneType_dict, isT_bool_bool, isT_bool_int, isT_bool_str, isT_bool_list, isT_bool_tuple, isT_bool_dict, isT_int_bool, isT_int_int, isT_int_str, isT_int_list, isT_int_tuple, isT_int_dict, isT_str_bool, isT_str_int, isT_str_str, isT_str_list, isT_str_tuple, isT_str_dict, isT_list_bool, isT_list_int, isT_list_str, isT_list_list, isT_list_tuple, isT_list_dict, isT_tuple_bool, isT_tuple_int, isT_tuple_str, isT_tuple_list, isT_tuple_tuple, isT_tuple_dict, isT_dict_bool, isT_dict_int, isT_dict_str, isT_dict_list, isT_dict_tuple, isT_dict_dict, tyN_non, tyN_bl, tyN_int, tyN_str, tyN_lst, tyN_tup, tyN_klst, tyN_dic])
    (refine later ?_; simp only [dflF, kwF, shs, pickG, pickO, consO, Option.map_some, List.take_nil, wMeth, methD, joinD, strsOf_map, wSs_cons, wSs_nil, Later_nil, wS, wE, wT, wI, wX, wVl, wOl, wAv, mk3, mkT, mkI, opd, wIf, wOr, DL.wAnd, DL.wNot, wBool, wTru, wUn, wOp, wFn, wCons, wNil, wVCons, wVNil, wAvNil, wAvVal, wAvBor, wCall2, wC, wVar, wAndV, wOrV, wNotV, wIte, wLst, wTup, wDct, wChn, wSlc, partE, varOp, asOp, entry, content, resO, resOs, frz, wRet, wRetV, wRetN, wNext, wDrop, wSet, wUnp, wPar, wSti, wBrk, wCnt, wMut, muD, wSeq', wFor, wWhile, wLc, wRng1, wRng2, wZip, itemsD, nth, bindTg, bindTgs, noOw, wipeS, restore, wback_val, wback_nil, wback_bor, List.nodup_nil, List.nodup_cons, List.not_mem_nil, bors, resA, pairD, keyD, le_size, List.replicate_succ, List.replicate_zero, List.length_cons, List.length_nil, List.cons_append, List.nil_append, List.getElem?_cons_zero, List.getElem?_cons_succ, List.getElem?_nil, List.set_cons_zero, List.set_cons_succ, Option.isSome_some, List.map_cons, List.map_nil, List.all_cons, List.all_nil, List.any_cons, List.any_nil, Nat.reduceSub, Nat.reduceAdd, Nat.reduceLT, Nat.reduceLeDiff, reduceIte, reduceCtorEq, Bool.not_true, Bool.not_false, Bool.false_eq_true, and_true, true_and, List.drop_zero, List.drop_succ_cons, List.take_succ_cons, List.take_zero, lenD, intD, boolD, strD, listD, tupleD, allD, anyD, blsD, cmpB, cmpD, binD, addD, subD, mulD, fdivD, modD, powD, negD, idxD, slcD, truD, ltD, gtD, leD, geD, eqD_int, eqD_bl, eqD_str, eqD_non, L2.atI, ixN_lit, Int.reduceToNat, Option.bind_some, List.length_map, List.set_cons_zero, List.set_cons_succ, isNon, inD_ss, inStr_one, isiD, seqOf, lstOf, String.reduceNe, String.reduceEq, ne_eq, not_false_eq_true, not_true_eq_false, Bool.or_true, Bool.or_false, Bool.true_or, Bool.false_or, Bool.and_true, Bool.and_false, Bool.true_and, Bool.false_and, isT_NoneType_bool, isT_NoneType_int, isT_NoneType_str, isT_NoneType_list, isT_NoneType_tuple, isT_NoneType_dict, isT_bool_bool, isT_bool_int, isT_bool_str, isT_bool_list, isT_bool_tuple, isT_bool_dict, isT_int_bool, isT_int_int, isT_int_str, isT_int_list, isT_int_tuple, isT_int_dict, isT_str_bool, isT_str_int, isT_str_str, isT_str_list, isT_str_tuple, isT_str_dict, isT_list_bool, isT_list_int, isT_list_str, isT_list_list, isT_list_tuple, isT_list_dict, isT_tuple_bool, isT_tuple_int, isT_tuple_str, isT_tuple_list, isT_tuple_tuple, isT_tuple_dict, isT_dict_bool, isT_dict_int, isT_dict_str, isT_dict_list, isT_dict_tuple, isT_dict_dict, tyN_non, tyN_bl, tyN_int, tyN_str, tyN_lst, tyN_tup, tyN_klst, tyN_dic])
    rw [beq_self_eq_true]
    exact hR _
  · simp only [dflF, kwF, shs, pickG, pickO, consO, Option.map_some, List.take_nil, wMeth, methD, joinD, strsOf_map, wSs_cons, wSs_nil, Later_nil, wS, wE, wT, wI, wX, wVl, wOl, wAv, mk3, mkT, mkI, opd, wIf, wOr, DL.wAnd, DL.wNot, wBool, wTru, wUn, wOp, wFn, wCons, wNil, wVCons, wVNil, wAvNil, wAvVal, wAvBor, wCall2, wC, wVar, wAndV, wOrV, wNotV, wIte, wLst, wTup, wDct, wChn, wSlc, partE, varOp, asOp, entry, content, resO, resOs, frz, wRet, wRetV, wRetN, wNext, wDrop, wSet, wUnp, wPar, wSti, wBrk, wCnt, wMut, muD, wSeq', wFor, wWhile, wLc, wRng1, wRng2, wZip, itemsD, nth, bindTg, bindTgs, noOw, wipeS, restore, wback_val, wback_nil, wback_bor, List.nodup_nil, List.nodup_cons, List.not_mem_nil, bors, resA, pairD, keyD, le_size, List.replicate_succ, List.replicate_zero, List.length_cons, List.length_nil, List.cons_append, List.nil_append, List.getElem?_cons_zero, List.getElem?_cons_succ, List.getElem?_nil, List.set_cons_zero, List.set_cons_succ, Option.isSome_some, List.map_cons, List.map_nil, List.all_cons, List.all_nil, List.any_cons, List.any_nil, Nat.reduceSub, Nat.reduceAdd, Nat.reduceLT, Nat.reduceLeDiff, reduceIte, reduceCtorEq, Bool.not_true, Bool.not_false, Bool.false_eq_true, and_true, true_and, List.drop_zero, List.drop_succ_cons, List.take_succ_cons, List.take_zero, lenD, intD, boolD, strD, listD, tupleD, allD, anyD, blsD, cmpB, cmpD, binD, addD, subD, mulD, fdivD, modD, powD, negD, idxD, slcD, truD, ltD, gtD, leD, geD, eqD_int, eqD_bl, eqD_str, eqD_non, L2.atI, ixN_lit, Int.reduceToNat, Option.bind_some, List.length_map, List.set_cons_zero, List.set_cons_succ, isNon, inD_ss, inStr_one, isiD, seqOf, lstOf, String.reduceNe, String.reduceEq, ne_eq, not_false_eq_true, not_true_eq_false, Bool.or_true, Bool.or_false, Bool.true_or, Bool.false_or, Bool.and_true, Bool.and_false, Bool.true_and, Bool.false_and, isT_NoneType_bool, isT_NoneType_int, isT_NoneType_str, isT_NoneType_list, isT_NoneType_tuple, isT_NoneType_dict, isT_bool_bool, isT_bool_int, isT_bool_str, isT_bool_list, isT_bool_tuple, isT_bool_dict, isT_int_bool, isT_int_int, isT_int_str, isT_int_list, isT_int_tuple, isT_int_dict, isT_str_bool, isT_str_int, isT_str_str, isT_str_list, isT_str_tuple, isT_str_dict, isT_list_bool, isT_list_int, isT_list_str, isT_list_list, isT_list_tuple, isT_list_dict, isT_tuple_bool, isT_tuple_int, isT_tuple_str, isT_tuple_list, isT_tuple_tuple, isT_tuple_dict, isT_dict_bool, isT_dict_int, isT_dict_str, isT_dict_list, isT_dict_tuple, isT_dict_dict, tyN_non, tyN_bl, tyN_int, tyN_str, tyN_lst, tyN_tup, tyN_klst, tyN_dic]
    (refine later ?_; simp only [dflF, kwF, shs, pickG, pickO, consO, Option.map_some, List.take_nil, wMeth, methD, joinD, strsOf_map, wSs_cons, wSs_nil, Later_nil, wS, wE, wT, wI, wX, wVl, wOl, wAv, mk3, mkT, mkI, opd, wIf, wOr, DL.wAnd, DL.wNot, wBool, wTru, wUn, wOp, wFn, wCons, wNil, wVCons, wVNil, wAvNil, wAvVal, wAvBor, wCall2, wC, wVar, wAndV, wOrV, wNotV, wIte, wLst, wTup, wDct, wChn, wSlc, partE, varOp, asOp, entry, content, resO, resOs, frz, wRet, wRetV, wRetN, wNext, wDrop, wSet, wUnp, wPar, wSti, wBrk, wCnt, wMut, muD, wSeq', wFor, wWhile, wLc, wRng1, wRng2, wZip, itemsD, nth, bindTg, bindTgs, noOw, wipeS, restore, wback_val, wback_nil, wback_bor, List.nodup_nil, List.nodup_cons, List.not_mem_nil, bors, resA, pairD, keyD, le_size, List.replicate_succ, List.replicate_zero, List.length_cons, List.length_nil, List.cons_append, List.nil_append, List.getElem?_cons_zero, List.getElem?_cons_succ, List.getElem?_nil, List.set_cons_zero, List.set_cons_succ, Option.isSome_some, List.map_cons, List.map_nil, List.all_cons, List.all_nil, List.any_cons, List.any_nil, Nat.reduceSub, Nat.reduceAdd, Nat.reduceLT, Nat.reduceLeDiff, reduceIte, reduceCtorEq, Bool.not_true, Bool.not_false, Bool.false_eq_true, and_true, true_and, List.drop_zero, List.drop_succ_cons, List.take_succ_cons, List.take_zero, lenD, intD, boolD, strD, listD, tupleD, allD, anyD, blsD, cmpB, cmpD, binD, addD, subD, mulD, fdivD, modD, powD, negD, idxD, slcD, truD, ltD, gtD, leD, geD, eqD_int, eqD_bl, eqD_str, eqD_non, L2.atI, ixN_lit, Int.reduceToNat, Option.bind_some, List.length_map, List.set_cons_zero, List.set_cons_succ, isNon, inD_ss, inStr_one, isiD, seqOf, lstOf, String.reduceNe, String.reduceEq, ne_eq, not_false_eq_true, not_true_eq_false, Bool.or_true, Bool.or_false, Bool.true_or, Bool.false_or, Bool.and_true, Bool.and_false, Bool.true_and, Bool.false_and, isT_NoneType_bool, isT_NoneType_int, isT_NoneType_str, isT_NoneType_list, isT_NoneType_tuple, isT_NoneType_dict, isT_bool_bool, isT_bool_int, isT_bool_str, isT_bool_list, isT_bool_tuple, isT_bool_dict, isT_int_bool, isT_int_int, isT_int_str, isT_int_list, isT_int_tuple, isT_int_dict, isT_str_bool, isT_str_int, isT_str_str, isT_str_list, isT_str_tuple, isT_str_dict, isT_list_bool, isT_list_int, isT_list_str, isT_list_list, isT_list_tuple, isT_list_dict, isT_tuple_bool, isT_tuple_int, isT_tuple_str, isT_tuple_list, isT_tuple_tuple, isT_tuple_dict, isT_dict_bool, isT_dict_int, isT_dict_str, isT_dict_list, isT_dict_tuple, isT_dict_dict, tyN_non, tyN_bl, tyN_int, tyN_str, tyN_lst, tyN_tup, tyN_klst, tyN_dic])
    (refine later ?_; simp only [dflF, kwF, shs, pickG, pickO, consO, Option.map_some, List.take_nil, wMeth, methD, joinD, strsOf_map, wSs_cons, wSs_nil, Later_nil, wS, wE, wT, wI, wX, wVl, wOl, wAv, mk3, mkT, mkI, opd, wIf, wOr, DL.wAnd, DL.wNot, wBool, wTru, wUn, wOp, wFn, wCons, wNil, wVCons, wVNil, wAvNil, wAvVal, wAvBor, wCall2, wC, wVar, wAndV, wOrV, wNotV, wIte, wLst, wTup, wDct, wChn, wSlc, partE, varOp, asOp, entry, content, resO, resOs, frz, wRet, wRetV, wRetN, wNext, wDrop, wSet, wUnp, wPar, wSti, wBrk, wCnt, wMut, muD, wSeq', wFor, wWhile, wLc, wRng1, wRng2, wZip, itemsD, nth, bindTg, bindTgs, noOw, wipeS, restore, wback_val, wback_nil, wback_bor, List.nodup_nil, List.nodup_cons, List.not_mem_nil, bors, resA, pairD, keyD, le_size, List.replicate_succ, List.replicate_zero, List.length_cons, List.length_nil, List.cons_append, List.nil_append, List.getElem?_cons_zero, List.getElem?_cons_succ, List.getElem?_nil, List.set_cons_zero, List.set_cons_succ, Option.isSome_some, List.map_cons, List.map_nil, List.all_cons, List.all_nil, List.any_cons, List.any_nil, Nat.reduceSub, Nat.reduceAdd, Nat.reduceLT, Nat.reduceLeDiff, reduceIte, reduceCtorEq, Bool.not_true, Bool.not_false, Bool.false_eq_true, and_true, true_and, List.drop_zero, List.drop_succ_cons, List.take_succ_cons, List.take_zero, lenD, intD, boolD, strD, listD, tupleD, allD, anyD, blsD, cmpB, cmpD, binD, addD, subD, mulD, fdivD, modD, powD, negD, idxD, slcD, truD, ltD, gtD, leD, geD, eqD_int, eqD_bl, eqD_str, eqD_non, L2.atI, ixN_lit, Int.reduceToNat, Option.bind_some, List.length_map, List.set_cons_zero, List.set_cons_succ, isNon, inD_ss, inStr_one, isiD, seqOf, lstOf, String.reduceNe, String.reduceEq, ne_eq, not_false_eq_true, not_true_eq_false, Bool.or_true, Bool.or_false, Bool.true_or, Bool.false_or, Bool.and_true, Bool.and_false, Bool.true_and, Bool.false_and, isT_NoneType_bool, isT_NoneType_int, isT_NoneType_str, isT_NoneType_list, isT_NoneType_tuple, isT_NoneType_dict, isT_bool_bool, isT_bool_int, isT_bool_str, isT_bool_list, isT_bool_tuple, isT_bool_dict, isT_int_bool, isT_int_int, isT_int_str, isT_int_list, isT_int_tuple, isT_int_dict, isT_str_bool, isT_str_int, isT_str_str, isT_str_list, isT_str_tuple, isT_str_dict, isT_list_bool, isT_list_int, isT_list_str, isT_list_list, isT_list_tuple, isT_list_dict, isT_tuple_bool, isT_tuple_int, isT_tuple_str, isT_tuple_list, isT_tuple_tuple, isT_tuple_dict, isT_dict_bool, isT_dict_int, isT_dict_str, isT_dict_list, isT_dict_tuple, isT_dict_dict, tyN_non, tyN_bl, tyN_int, tyN_str, tyN_lst, tyN_tup, tyN_klst, tyN_dic])
    (refine later ?_; simp only [dflF, kwF, shs, pickG, pickO, consO, Option.map_some, List.take_nil, wMeth, methD, joinD, strsOf_map, wSs_cons, wSs_nil, Later_nil, wS, wE, wT, wI, wX, wVl, wOl, wAv, mk3, mkT, mkI, opd, wIf, wOr, DL.wAnd, DL.wNot, wBool, wTru, wUn, wOp, wFn, wCons, wNil, wVCons, wVNil, wAvNil, wAvVal, wAvBor, wCall2, wC, wVar, wAndV, wOrV, wNotV, wIte, wLst, wTup, wDct, wChn, wSlc, partE, varOp, asOp, entry, content, resO, resOs, frz, wRet, wRetV, wRetN, wNext, wDrop, wSet, wUnp, wPar, wSti, wBrk, wCnt, wMut, muD, wSeq', wFor, wWhile, wLc, wRng1, wRng2, wZip, itemsD, nth, bindTg, bindTgs, noOw, wipeS, restore, wback_val, wback_nil, wback_bor, List.nodup_nil, List.nodup_cons, List.not_mem_nil, bors, resA, pairD, keyD, le_size, List.replicate_succ, List.replicate_zero, List.length_cons, List.length_nil, List.cons_append, List.nil_append, List.getElem?_cons_zero, List.getElem?_cons_succ, List.getElem?_nil, List.set_cons_zero, List.set_cons_succ, Option.isSome_some, List.map_cons, List.map_nil, List.all_cons, List.all_nil, List.any_cons, List.any_nil, Nat.reduceSub, Nat.reduceAdd, Nat.reduceLT, Nat.reduceLeDiff, reduceIte, reduceCtorEq, Bool.not_true, Bool.not_false, Bool.false_eq_true, and_true, true_and, List.drop_zero, List.drop_succ_cons, List.take_succ_cons, List.take_zero, lenD, intD, boolD, strD, listD, tupleD, allD, anyD, blsD, cmpB, cmpD, binD, addD, subD, mulD, fdivD, modD, powD, negD, idxD, slcD, truD, ltD, gtD, leD, geD, eqD_int, eqD_bl, eqD_str, eqD_non, L2.atI, ixN_lit, Int.reduceToNat, Option.bind_some, List.length_map, List.set_cons_zero, List.set_cons_succ, isNon, inD_ss, inStr_one, isiD, seqOf, lstOf, String.reduceNe, String.reduceEq, ne_eq, not_false_eq_true, not_true_eq_false, Bool.or_true, Bool.or_false, Bool.true_or, Bool.false_or, Bool.and_true, Bool.and_false, Bool.true_and, Bool.false_and, isT_NoneType_bool, isT_NoneType_int, isT_NoneType_str, isT_NoneType_list, isT_NoneType_tuple, isT_NoneType_dict, isT_bool_bool, isT_bool_int, isT_bool_str, isT_bool_list, isT_bool_tuple, isT_bool_dict, isT_int_bool, isT_int_int, isT_int_str, isT_int_list, isT_int_tuple, isT_int_dict, isT_str_bool, isT_str_int, isT_str_str, isT_str_list, isT_str_tuple, isT_str_dict, isT_list_bool, isT_list_int, isT_list_str, isT_list_list, isT_list_tuple, isT_list_dict, isT_tuple_bool, isT_tuple_int, isT_tuple_str, isT_tuple_list, isT_tuple_tuple, isT_tuple_dict, isT_dict_bool, isT_dict_int, isT_dict_str, isT_dict_list, isT_dict_tuple, isT_dict_dict, tyN_non, tyN_bl, tyN_int, tyN_str, tyN_lst, tyN_tup, tyN_klst, tyN_dic])
    (refine later ?_; simp only [dflF, kwF, shs, pickG, pickO, consO, Option.map_some, List.take_nil, wMeth, methD, joinD, strsOf_map, wSs_cons, wSs_nil, Later_nil, wS, wE, wT, wI, wX, wVl, wOl, wAv, mk3, mkT, mkI, opd, wIf, wOr, DL.wAnd, DL.wNot, wBool, wTru, wUn, wOp, wFn, wCons, wNil, wVCons, wVNil, wAvNil, wAvVal, wAvBor, wCall2, wC, wVar, wAndV, wOrV, wNotV, wIte, wLst, wTup, wDct, wChn, wSlc, partE, varOp, asOp, entry, content, resO, resOs, frz, wRet, wRetV, wRetN, wNext, wDrop, wSet, wUnp, wPar, wSti, wBrk, wCnt, wMut, muD, wSeq', wFor, wWhile, wLc, wRng1, wRng2, wZip, itemsD, nth, bindTg, bindTgs, noOw, wipeS, restore, wback_val, wback_nil, wback_bor, List.nodup_nil, List.nodup_cons, List.not_mem_nil, bors, resA, pairD, keyD, le_size, List.replicate_succ, List.replicate_zero, List.length_cons, List.length_nil, List.cons_append, List.nil_append, List.getElem?_cons_zero, List.getElem?_cons_succ, List.getElem?_nil, List.set_cons_zero, List.set_cons_succ, Option.isSome_some, List.map_cons, List.map_nil, List.all_cons, List.all_nil, List.any_cons, List.any_nil, Nat.reduceSub, Nat.reduceAdd, Nat.reduceLT, Nat.reduceLeDiff, reduceIte, reduceCtorEq, Bool.not_true, Bool.not_false, Bool.false_eq_true, and_true, true_and, List.drop_zero, List.drop_succ_cons, List.take_succ_cons, List.take_zero, lenD, intD, boolD, strD, listD, tupleD, allD, anyD, blsD, cmpB, cmpD, binD, addD, subD, mulD, fdivD, modD, powD, negD, idxD, slcD, truD, ltD, gtD, leD, geD, eqD_int, eqD_bl, eqD_str, eqD_non, L2.atI, ixN_lit, Int.reduceToNat, Option.bind_some, List.length_map, List.set_cons_zero, List.set_cons_succ, isNon, inD_ss, inStr_one, isiD, seqOf, lstOf, String.reduceNe, String.reduceEq, ne_eq, not_false_eq_true, not_true_eq_false, Bool.or_true, Bool.or_false, Bool.true_or, Bool.false_or, Bool.and_true, Bool.and_false, Bool.true_and, Bool.false_and, isT_NoneType_bool, isT_NoneType_int, isT_NoneType_str, isT_NoneType_list, isT_NoneType_tuple, isT_NoneType_dict, isT_bool_bool, isT_bool_int, isT_bool_str, isT_bool_list, isT_bool_tuple, isT_bool_dict, isT_int_bool, isT_int_int, isT_int_str, isT_int_list, isT_int_tuple, isT_int_dict, isT_str_bool, isT_str_int, isT_str_str, isT_str_list, isT_str_tuple, isT_str_dict, isT_list_bool, isT_list_int, isT_list_str, isT_list_list, isT_list_tuple, isT_list_dict, isT_tuple_bool, isT_tuple_int, isT_tuple_str, isT_tuple_list, isT_tuple_tuple, isT_tuple_dict, isT_dict_bool, isT_dict_int, isT_dict_str, isT_dict_list, isT_dict_tuple, isT_dict_dict, tyN_non, tyN_bl, tyN_int, tyN_str, tyN_lst, tyN_tup, tyN_klst, tyN_dic])
    (refine later ?_; simp only [dflF, kwF, shs, pickG, pickO, consO, Option.map_some, List.take_nil, wMeth, methD, joinD, strsOf_map, wSs_cons, wSs_nil, Later_nil, wS, wE, wT, wI, wX, wVl, wOl, wAv, mk3, mkT, mkI, opd, wIf, wOr, DL.wAnd, DL.wNot, wBool, wTru, wUn, wOp, wFn, wCons, wNil, wVCons, wVNil, wAvNil, wAvVal, wAvBor, wCall2, wC, wVar, wAndV, wOrV, wNotV, wIte, wLst, wTup, wDct, wChn, wSlc, partE, varOp, asOp, entry, content, resO, resOs, frz, wRet, wRetV, wRetN, wNext, wDrop, wSet, wUnp, wPar, wSti, wBrk, wCnt, wMut, muD, wSeq', wFor, wWhile, wLc, wRng1, wRng2, wZip, itemsD, nth, bindTg, bindTgs, noOw, wipeS, restore, wback_val, wback_nil, wback_bor, List.nodup_nil, List.nodup_cons, List.not_mem_nil, bors, resA, pairD, keyD, le_size, List.replicate_succ, List.replicate_zero, List.length_cons, List.length_nil, List.cons_append, List.nil_append, List.getElem?_cons_zero, List.getElem?_cons_succ, List.getElem?_nil, List.set_cons_zero, List.set_cons_succ, Option.isSome_some, List.map_cons, List.map_nil, List.all_cons, List.all_nil, List.any_cons, List.any_nil, Nat.reduceSub, Nat.reduceAdd, Nat.reduceLT, Nat.reduceLeDiff, reduceIte, reduceCtorEq, Bool.not_true, Bool.not_false, Bool.false_eq_true, and_true, true_and, List.drop_zero, List.drop_succ_cons, List.take_succ_cons, List.take_zero, lenD, intD, boolD, strD, listD, tupleD, allD, anyD, blsD, cmpB, cmpD, binD, addD, subD, mulD, fdivD, modD, powD, negD, idxD, slcD, truD, ltD, gtD, leD, geD, eqD_int, eqD_bl, eqD_str, eqD_non, L2.atI, ixN_lit, Int.reduceToNat, Option.bind_some, List.length_map, List.set_cons_zero, List.set_cons_succ, isNon, inD_ss, inStr_one, isiD, seqOf, lstOf, String.reduceNe, String.reduceEq, ne_eq, not_false_eq_true, not_true_eq_false, Bool.or_true, Bool.or_false, Bool.true_or, Bool.false_or, Bool.and_true, Bool.and_false, Bool.true_and, Bool.false_and, isT_NoneType_bool, isT_NoneType_int, isT_NoneType_str, isT_NoneType_list, isT_NoneType_tuple, isT_NoneType_dict, isT_bool_bool, isT_bool_int, isT_bool_str, isT_bool_list, isT_bool_tuple, isT_bool_dict, isT_int_bool, isT_int_int, isT_int_str, isT_int_list, isT_int_tuple, isT_int_dict, isT_str_bool, isT_str_int, isT_str_str, isT_str_list, isT_str_tuple, isT_str_dict, isT_list_bool, isT_list_int, isT_list_str, isT_list_list, isT_list_tuple, isT_list_dict, isT_tuple_bool, isT_tuple_int, isT_tuple_str, isT_tuple_list, isT_tuple_tuple, isT_tuple_dict, isT_dict_bool, isT_dict_int, isT_dict_str, isT_dict_list, isT_dict_tuple, isT_dict_dict, tyN_non, tyN_bl, tyN_int, tyN_str, tyN_lst, tyN_tup, tyN_klst, tyN_dic])
    rw [beq_self_eq_true]
    exact hR _
  · simp only [dflF, kwF, shs, pickG, pickO, consO, Option.map_some, List.take_nil, wMeth, methD, joinD, strsOf_map, wSs_cons, wSs_nil, Later_nil, wS, wE, wT, wI, wX, wVl, wOl, wAv, mk3, mkT, mkI, opd, wIf, wOr, DL.wAnd, DL.wNot, wBool, wTru, wUn, wOp, wFn, wCons, wNil, wVCons, wVNil, wAvNil, wAvVal, wAvBor, wCall2, wC, wVar, wAndV, wOrV, wNotV, wIte, wLst, wTup, wDct, wChn, wSlc, partE, varOp, asOp, entry, content, resO, resOs, frz, wRet, wRetV, wRetN, wNext, wDrop, wSet, wUnp, wPar, wSti, wBrk, wCnt, wMut, muD, wSeq', wFor, wWhile, wLc, wRng1, wRng2, wZip, itemsD, nth, bindTg, bindTgs, noOw, wipeS, restore, wback_val, wback_nil, wback_bor, List.nodup_nil, List.nodup_cons, List.not_mem_nil, bors, resA, pairD, keyD, le_size, List.replicate_succ, List.replicate_zero, List.length_cons, List.length_nil, List.cons_append, List.nil_append, List.getElem?_cons_zero, List.getElem?_cons_succ, List.getElem?_nil, List.set_cons_zero, List.set_cons_succ, Option.isSome_some, List.map_cons, List.map_nil, List.all_cons, List.all_nil, List.any_cons, List.any_nil, Nat.reduceSub, Nat.reduceAdd, Nat.reduceLT, Nat.reduceLeDiff, reduceIte, reduceCtorEq, Bool.not_true, Bool.not_false, Bool.false_eq_true, and_true, true_and, List.drop_zero, List.drop_succ_cons, List.take_succ_cons, List.take_zero, lenD, intD, boolD, strD, listD, tupleD, allD, anyD, blsD, cmpB, cmpD, binD, addD, subD, mulD, fdivD, modD, powD, negD, idxD, slcD, truD, ltD, gtD, leD, geD, eqD_int, eqD_bl, eqD_str, eqD_non, L2.atI, ixN_lit, Int.reduceToNat, Option.bind_some, List.length_map, List.set_cons_zero, List.set_cons_succ, isNon, inD_ss, inStr_one, isiD, seqOf, lstOf, String.reduceNe, String.reduceEq, ne_eq, not_false_eq_true, not_true_eq_false, Bool.or_true, Bool.or_false, Bool.true_or, Bool.false_or, Bool.and_true, Bool.and_false, Bool.true_and, Bool.false_and, isT_NoneType_bool, isT_NoneType_int, isT_NoneType_str, isT_NoneType_list, isT_NoneType_tuple, isT_NoneType_dict, isT_bool_bool, isT_bool_int, isT_bool_str, isT_bool_list, isT_bool_tuple, isT_bool_dict, isT_int_bool, isT_int_int, isT_int_str, isT_int_list, isT_int_tuple, isT_int_dict, isT_str_bool, isT_str_int, isT_str_str, isT_str_list, isT_str_tuple, isT_str_dict, isT_list_bool, isT_list_int, isT_list_str, isT_list_list, isT_list_tuple, isT_list_dict, isT_tuple_bool, isT_tuple_int, isT_tuple_str, isT_tuple_list, isT_tuple_tuple, isT_tuple_dict, isT_dict_bool, isT_dict_int, isT_dict_str, isT_dict_list, isT_dict_tuple, isT_dict_dict, tyN_non, tyN_bl, tyN_int, tyN_str, tyN_lst, tyN_tup, tyN_klst, tyN_dic]
    (refine later ?_; simp only [dflF, kwF, shs, pickG, pickO, consO, Option.map_some, List.take_nil, wMeth, methD, joinD, strsOf_map, wSs_cons, wSs_nil, Later_nil, wS, wE, wT, wI, wX, wVl, wOl, wAv, mk3, mkT, mkI, opd, wIf, wOr, DL.wAnd, DL.wNot, wBool, wTru, wUn, wOp, wFn, wCons, wNil, wVCons, wVNil, wAvNil, wAvVal, wAvBor, wCall2, wC, wVar, wAndV, wOrV, wNotV, wIte, wLst, wTup, wDct, wChn, wSlc, partE, varOp, asOp, entry, content, resO, resOs, frz, wRet, wRetV, wRetN, wNext, wDrop, wSet, wUnp, wPar, wSti, wBrk, wCnt, wMut, muD, wSeq', wFor, wWhile, wLc, wRng1, wRng2, wZip, itemsD, nth, bindTg, bindTgs, noOw, wipeS, restore, wback_val, wback_nil, wback_bor, List.nodup_nil, List.nodup_cons, List.not_mem_nil, bors, resA, pairD, keyD, le_size, List.replicate_succ, List.replicate_zero, List.length_cons, List.length_nil, List.cons_append, List.nil_append, List.getElem?_cons_zero, List.getElem?_cons_succ, List.getElem?_nil, List.set_cons_zero, List.set_cons_succ, Option.isSome_some, List.map_cons, List.map_nil, List.all_cons, List.all_nil, List.any_cons, List.any_nil, Nat.reduceSub, Nat.reduceAdd, Nat.reduceLT, Nat.reduceLeDiff, reduceIte, reduceCtorEq, Bool.not_true, Bool.not_false, Bool.false_eq_true, and_true, true_and, List.drop_zero, List.drop_succ_cons, List.take_succ_cons, List.take_zero, lenD, intD, boolD, strD, listD, tupleD, allD, anyD, blsD, cmpB, cmpD, binD, addD, subD, mulD, fdivD, modD, powD, negD, idxD, slcD, truD, ltD, gtD, leD, geD, eqD_int, eqD_bl, eqD_str, eqD_non, L2.atI, ixN_lit, Int.reduceToNat, Option.bind_some, List.length_map, List.set_cons_zero, List.set_cons_succ, isNon, inD_ss, inStr_one, isiD, seqOf, lstOf, String.reduceNe, String.reduceEq, ne_eq, not_false_eq_true, not_true_eq_false, Bool.or_true, Bool.or_false, Bool.true_or, Bool.false_or, Bool.and_true, Bool.and_false, Bool.true_and, Bool.false_and, isT_NoneType_bool, isT_NoneType_int, isT_NoneType_str, isT_NoneType_list, isT_NoneType_tuple, isT_NoneType_dict, isT_bool_bool, isT_bool_int, isT_bool_str, isT_bool_list, isT_bool_tuple, isT_bool_dict, isT_int_bool, isT_int_int, isT_int_str, isT_int_list, isT_int_tuple, isT_int_dict, isT_str_bool, isT_str_int, isT_str_str, isT_str_list, isT_str_tuple, isT_str_dict, isT_list_bool, isT_list_int, isT_list_str, isT_list_list, isT_list_tuple, isT_list_dict, isT_tuple_bool, isT_tuple_int, isT_tuple_str, isT_tuple_list, isT_tuple_tuple, isT_tuple_dict, isT_dict_bool, isT_dict_int, isT_dict_str, isT_dict_list, isT_dict_tuple, isT_dict_dict, tyN_non, tyN_bl, tyN_int, tyN_str, tyN_lst, tyN_tup, tyN_klst, tyN_dic])
    rw [beq_self_eq_true, if_pos rfl, zip_self]
    refine ⟨by rw [List.length_map]; exact Nat.le_trans hl (by decide), ?_⟩
    refine lcGo_mapg _ (fun _ => .bl true) _ _ (fun x m => ⟨_, rfl, rfl, fun Q q => ?_⟩) ?_
    · simp only [dflF, kwF, shs, pickG, pickO, consO, Option.map_some, List.take_nil, wMeth, methD, joinD, strsOf_map, wSs_cons, wSs_nil, Later_nil, wS, wE, wT, wI, wX, wVl, wOl, wAv, mk3, mkT, mkI, opd, wIf, wOr, DL.wAnd, DL.wNot, wBool, wTru, wUn, wOp, wFn, wCons, wNil, wVCons, wVNil, wAvNil, wAvVal, wAvBor, wCall2, wC, wVar, wAndV, wOrV, wNotV, wIte, wLst, wTup, wDct, wChn, wSlc, partE, varOp, asOp, entry, content, resO, resOs, frz, wRet, wRetV, wRetN, wNext, wDrop, wSet, wUnp, wPar, wSti, wBrk, wCnt, wMut, muD, wSeq', wFor, wWhile, wLc, wRng1, wRng2, wZip, itemsD, nth, bindTg, bindTgs, noOw, wipeS, restore, wback_val, wback_nil, wback_bor, List.nodup_nil, List.nodup_cons, List.not_mem_nil, bors, resA, pairD, keyD, le_size, List.replicate_succ, List.replicate_zero, List.length_cons, List.length_nil, List.cons_append, List.nil_append, List.getElem?_cons_zero, List.getElem?_cons_succ, List.getElem?_nil, List.set_cons_zero, List.set_cons_succ, Option.isSome_some, List.map_cons, List.map_nil, List.all_cons, List.all_nil, List.any_cons, List.any_nil, Nat.reduceSub, Nat.reduceAdd, Nat.reduceLT, Nat.reduceLeDiff, reduceIte, reduceCtorEq, Bool.not_true, Bool.not_false, Bool.false_eq_true, and_true, true_and, List.drop_zero, List.drop_succ_cons, List.take_succ_cons, List.take_zero, lenD, intD, boolD, strD, listD, tupleD, allD, anyD, blsD, cmpB, cmpD, binD, addD, subD, mulD, fdivD, modD, powD, negD, idxD, slcD, truD, ltD, gtD, leD, geD, eqD_int, eqD_bl, eqD_str, eqD_non, L2.atI, ixN_lit, Int.reduceToNat, Option.bind_some, List.length_map, List.set_cons_zero, List.set_cons_succ, isNon, inD_ss, inStr_one, isiD, seqOf, lstOf, String.reduceNe, String.reduceEq, ne_eq, not_false_eq_true, not_true_eq_false, Bool.or_true, Bool.or_false, Bool.true_or, Bool.false_or, Bool.and_true, Bool.and_false, Bool.true_and, Bool.false_and, isT_NoneType_bool, isT_NoneType_int, isT_NoneType_str, isT_NoneType_list, isT_NoneType_tuple, isT_NoneType_dict, isT_bool_bool, isT_bool_int, isT_bool_str, isT_bool_list, isT_bool_tuple, isT_bool_dict, isT_int_bool, isT_int_int, isT_int_str, isT_int_list, isT_int_tuple, isT_int_dict, isT_str_bool, isT_str_int, isT_str_str, isT_str_list, isT_str_tuple, isT_str_dict, isT_list_bool, isT_list_int, isT_list_str, isT_list_list, isT_list_tuple, isT_list_dict, isT_tuple_bool, isT_tuple_int, isT_tuple_str, isT_tuple_list, isT_tuple_tuple, isT_tuple_dict, isT_dict_bool, isT_dict_int, isT_dict_str, isT_dict_list, isT_dict_tuple, isT_dict_dict, tyN_non, tyN_bl, tyN_int, tyN_str, tyN_lst, tyN_tup, tyN_klst, tyN_dic]
      exact ⟨x, rfl, hx x m, fun o => q _ rfl⟩
    · rw [blsOf_const]
      have e : ((xs.map fun _ => true).all id) = true := List.all_eq_true.mpr fun b hb => by rw [List.mem_map] at hb; obtain ⟨_, _, rfl⟩ := hb; rfl
      simp only [e]
      exact hR _
  · simp only [dflF, kwF, shs, pickG, pickO, consO, Option.map_some, List.take_nil, wMeth, methD, joinD, strsOf_map, wSs_cons, wSs_nil, Later_nil, wS, wE, wT, wI, wX, wVl, wOl, wAv, mk3, mkT, mkI, opd, wIf, wOr, DL.wAnd, DL.wNot, wBool, wTru, wUn, wOp, wFn, wCons, wNil, wVCons, wVNil, wAvNil, wAvVal, wAvBor, wCall2, wC, wVar, wAndV, wOrV, wNotV, wIte, wLst, wTup, wDct, wChn, wSlc, partE, varOp, asOp, entry, content, resO, resOs, frz, wRet, wRetV, wRetN, wNext, wDrop, wSet, wUnp, wPar, wSti, wBrk, wCnt, wMut, muD, wSeq', wFor, wWhile, wLc, wRng1, wRng2, wZip, itemsD, nth, bindTg, bindTgs, noOw, wipeS, restore, wback_val, wback_nil, wback_bor, List.nodup_nil, List.nodup_cons, List.not_mem_nil, bors, resA, pairD, keyD, le_size, List.replicate_succ, List.replicate_zero, List.length_cons, List.length_nil, List.cons_append, List.nil_append, List.getElem?_cons_zero, List.getElem?_cons_succ, List.getElem?_nil, List.set_cons_zero, List.set_cons_succ, Option.isSome_some, List.map_cons, List.map_nil, List.all_cons, List.all_nil, List.any_cons, List.any_nil, Nat.reduceSub, Nat.reduceAdd, Nat.reduceLT, Nat.reduceLeDiff, reduceIte, reduceCtorEq, Bool.not_true, Bool.not_false, Bool.false_eq_true, and_true, true_and, List.drop_zero, List.drop_succ_cons, List.take_succ_cons, List.take_zero, lenD, intD, boolD, strD, listD, tupleD, allD, anyD, blsD, cmpB, cmpD, binD, addD, subD, mulD, fdivD, modD, powD, negD, idxD, slcD, truD, ltD, gtD, leD, geD, eqD_int, eqD_bl, eqD_str, eqD_non, L2.atI, ixN_lit, Int.reduceToNat, Option.bind_some, List.length_map, List.set_cons_zero, List.set_cons_succ, isNon, inD_ss, inStr_one, isiD, seqOf, lstOf, String.reduceNe, String.reduceEq, ne_eq, not_false_eq_true, not_true_eq_false, Bool.or_true, Bool.or_false, Bool.true_or, Bool.false_or, Bool.and_true, Bool.and_false, Bool.true_and, Bool.false_and, isT_NoneType_bool, isT_NoneType_int, isT_NoneType_str, isT_NoneType_list, isT_NoneType_tuple, isT_NoneType_dict, isT_bool_bool, isT_bool_int, isT_bool_str, isT_bool_list, isT_bool_tuple, isT_bool_dict, isT_int_bool, isT_int_int, isT_int_str, isT_int_list, isT_int_tuple, isT_int_dict, isT_str_bool, isT_str_int, isT_str_str, isT_str_list, isT_str_tuple, isT_str_dict, isT_list_bool, isT_list_int, isT_list_str, isT_list_list, isT_list_tuple, isT_list_dict, isT_tuple_bool, isT_tuple_int, isT_tuple_str, isT_tuple_list, isT_tuple_tuple, isT_tuple_dict, isT_dict_bool, isT_dict_int, isT_dict_str, isT_dict_list, isT_dict_tuple, isT_dict_dict, tyN_non, tyN_bl, tyN_int, tyN_str, tyN_lst, tyN_tup, tyN_klst, tyN_dic]
    (refine later ?_; simp only [dflF, kwF, shs, pickG, pickO, consO, Option.map_some, List.take_nil, wMeth, methD, joinD, strsOf_map, wSs_cons, wSs_nil, Later_nil, wS, wE, wT, wI, wX, wVl, wOl, wAv, mk3, mkT, mkI, opd, wIf, wOr, DL.wAnd, DL.wNot, wBool, wTru, wUn, wOp, wFn, wCons, wNil, wVCons, wVNil, wAvNil, wAvVal, wAvBor, wCall2, wC, wVar, wAndV, wOrV, wNotV, wIte, wLst, wTup, wDct, wChn, wSlc, partE, varOp, asOp, entry, content, resO, resOs, frz, wRet, wRetV, wRetN, wNext, wDrop, wSet, wUnp, wPar, wSti, wBrk, wCnt, wMut, muD, wSeq', wFor, wWhile, wLc, wRng1, wRng2, wZip, itemsD, nth, bindTg, bindTgs, noOw, wipeS, restore, wback_val, wback_nil, wback_bor, List.nodup_nil, List.nodup_cons, List.not_mem_nil, bors, resA, pairD, keyD, le_size, List.replicate_succ, List.replicate_zero, List.length_cons, List.length_nil, List.cons_append, List.nil_append, List.getElem?_cons_zero, List.getElem?_cons_succ, List.getElem?_nil, List.set_cons_zero, List.set_cons_succ, Option.isSome_some, List.map_cons, List.map_nil, List.all_cons, List.all_nil, List.any_cons, List.any_nil, Nat.reduceSub, Nat.reduceAdd, Nat.reduceLT, Nat.reduceLeDiff, reduceIte, reduceCtorEq, Bool.not_true, Bool.not_false, Bool.false_eq_true, and_true, true_and, List.drop_zero, List.drop_succ_cons, List.take_succ_cons, List.take_zero, lenD, intD, boolD, strD, listD, tupleD, allD, anyD, blsD, cmpB, cmpD, binD, addD, subD, mulD, fdivD, modD, powD, negD, idxD, slcD, truD, ltD, gtD, leD, geD, eqD_int, eqD_bl, eqD_str, eqD_non, L2.atI, ixN_lit, Int.reduceToNat, Option.bind_some, List.length_map, List.set_cons_zero, List.set_cons_succ, isNon, inD_ss, inStr_one, isiD, seqOf, lstOf, String.reduceNe, String.reduceEq, ne_eq, not_false_eq_true, not_true_eq_false, Bool.or_true, Bool.or_false, Bool.true_or, Bool.false_or, Bool.and_true, Bool.and_false, Bool.true_and, Bool.false_and, isT_NoneType_bool, isT_NoneType_int, isT_NoneType_str, isT_NoneType_list, isT_NoneType_tuple, isT_NoneType_dict, isT_bool_bool, isT_bool_int, isT_bool_str, isT_bool_list, isT_bool_tuple, isT_bool_dict, isT_int_bool, isT_int_int, isT_int_str, isT_int_list, isT_int_tuple, isT_int_dict, isT_str_bool, isT_str_int, isT_str_str, isT_str_list, isT_str_tuple, isT_str_dict, isT_list_bool, isT_list_int, isT_list_str, isT_list_list, isT_list_tuple, isT_list_dict, isT_tuple_bool, isT_tuple_int, isT_tuple_str, isT_tuple_list, isT_tuple_tuple, isT_tuple_dict, isT_dict_bool, isT_dict_int, isT_dict_str, isT_dict_list, isT_dict_tuple, isT_dict_dict, tyN_non, tyN_bl, tyN_int, tyN_str, tyN_lst, tyN_tup, tyN_klst, tyN_dic])
    rw [beq_self_eq_true, if_pos rfl, zip_self]
    refine ⟨by rw [List.length_map]; exact Nat.le_trans hl (by decide), ?_⟩
    refine lcGo_mapg _ (fun _ => .bl true) _ _ (fun x m => ⟨_, rfl, rfl, fun Q q => ?_⟩) ?_
    · simp only [dflF, kwF, shs, pickG, pickO, consO, Option.map_some, List.take_nil, wMeth, methD, joinD, strsOf_map, wSs_cons, wSs_nil, Later_nil, wS, wE, wT, wI, wX, wVl, wOl, wAv, mk3, mkT, mkI, opd, wIf, wOr, DL.wAnd, DL.wNot, wBool, wTru, wUn, wOp, wFn, wCons, wNil, wVCons, wVNil, wAvNil, wAvVal, wAvBor, wCall2, wC, wVar, wAndV, wOrV, wNotV, wIte, wLst, wTup, wDct, wChn, wSlc, partE, varOp, asOp, entry, content, resO, resOs, frz, wRet, wRetV, wRetN, wNext, wDrop, wSet, wUnp, wPar, wSti, wBrk, wCnt, wMut, muD, wSeq', wFor, wWhile, wLc, wRng1, wRng2, wZip, itemsD, nth, bindTg, bindTgs, noOw, wipeS, restore, wback_val, wback_nil, wback_bor, List.nodup_nil, List.nodup_cons, List.not_mem_nil, bors, resA, pairD, keyD, le_size, List.replicate_succ, List.replicate_zero, List.length_cons, List.length_nil, List.cons_append, List.nil_append, List.getElem?_cons_zero, List.getElem?_cons_succ, List.getElem?_nil, List.set_cons_zero, List.set_cons_succ, Option.isSome_some, List.map_cons, List.map_nil, List.all_cons, List.all_nil, List.any_cons, List.any_nil, Nat.reduceSub, Nat.reduceAdd, Nat.reduceLT, Nat.reduceLeDiff, reduceIte, reduceCtorEq, Bool.not_true, Bool.not_false, Bool.false_eq_true, and_true, true_and, List.drop_zero, List.drop_succ_cons, List.take_succ_cons, List.take_zero, lenD, intD, boolD, strD, listD, tupleD, allD, anyD, blsD, cmpB, cmpD, binD, addD, subD, mulD, fdivD, modD, powD, negD, idxD, slcD, truD, ltD, gtD, leD, geD, eqD_int, eqD_bl, eqD_str, eqD_non, L2.atI, ixN_lit, Int.reduceToNat, Option.bind_some, List.length_map, List.set_cons_zero, List.set_cons_succ, isNon, inD_ss, inStr_one, isiD, seqOf, lstOf, String.reduceNe, String.reduceEq, ne_eq, not_false_eq_true, not_true_eq_false, Bool.or_true, Bool.or_false, Bool.true_or, Bool.false_or, Bool.and_true, Bool.and_false, Bool.true_and, Bool.false_and, isT_NoneType_bool, isT_NoneType_int, isT_NoneType_str, isT_NoneType_list, isT_NoneType_tuple, isT_NoneType_dict, isT_bool_bool, isT_bool_int, isT_bool_str, isT_bool_list, isT_bool_tuple, isT_bool_dict, isT_int_bool, isT_int_int, isT_int_str, isT_int_list, isT_int_tuple, isT_int_dict, isT_str_bool, isT_str_int, isT_str_str, isT_str_list, isT_str_tuple, isT_str_dict, isT_list_bool, isT_list_int, isT_list_str, isT_list_list, isT_list_tuple, isT_list_dict, isT_tuple_bool, isT_tuple_int, isT_tuple_str, isT_tuple_list, isT_tuple_tuple, isT_tuple_dict, isT_dict_bool, isT_dict_int, isT_dict_str, isT_dict_list, isT_dict_tuple, isT_dict_dict, tyN_non, tyN_bl, tyN_int, tyN_str, tyN_lst, tyN_tup, tyN_klst, tyN_dic]
      exact ⟨x, rfl, hx x m, fun o => q _ rfl⟩
    · rw [blsOf_const]
      have e : ((xs.map fun _ => true).all id) = true := List.all_eq_true.mpr fun b hb => by rw [List.mem_map] at hb; obtain ⟨_, _, rfl⟩ := hb; rfl
      simp only [e]
      exact hR _
theorem ok__law_like {P : Program} {w : World} {K : PySem.W.Frag} {mg : Str → Option Value} {base : Heap} (V : VE K mg) : ∃ fd, FunD K "_law_like" "_law_like" (defArgs (top 12)) (defBody (top 12)) (defScope (top 12)) [] [] (He.ga K "_law_like") fd ∧ ∀ n, FnOk P w K mg base CX0 (n + 0) (He.ga K "_law_like") fd ["_law_told", "_law_due"] (spOf K (F__law_like n)) := by
  obtain ⟨fd, Fd⟩ := V.def_ 5 (d := dd "_law_like" 12 []) rfl
  refine ⟨fd, Fd, fun n => ?_⟩
  induction n with
  | zero => exact fnOk_fal
  | succ n ih =>
    have cjr := callJ (lv := n + 0) ih (Nat.le_refl _) (V.glo 5 rfl) Fd.kp (FunD.bindsN Fd (fun _ _ _ _ _ _ us hl => match us, hl with | [_, _], _ => rfl)) 2
    exact ok_cast (fn_ok (F := F__law_like (n + 1)) Fd (d__law_like (n + 0)) (mkTab (.cons cjr .nil) (.cons rfl (.cons rfl (.cons rfl .nil))) (show ([("len", 1), ("all", 1), ("bool", 1)] : List (Str × Nat)).all (fun c => decide (c.1 ∈ FR)) = true by decide +kernel) .nil .nil noAt_ok V.free) rfl (p__law_like n)) (by show n + 0 + 1 = n + 1 + 0; omega)
theorem cj__law_like_2 {P : Program} {w : World} {K : PySem.W.Frag} {mg : Str → Option Value} {base : Heap} {lv : Nat} (V : VE K mg) (h : 2 ≤ lv) : CallJ P w K mg base lv "_law_like" 2 [] (F__law_like 2) := by
  obtain ⟨fd, Fd, F⟩ := ok__law_like (P := P) (w := w) (base := base) V
  have F := F 2
  exact callJ F h (V.glo 5 rfl) Fd.kp (FunD.bindsN Fd (fun _ _ _ _ _ _ us hl => match us, hl with | [_, _], _ => rfl)) 2
def C__law_is_number (lv : Nat) : CC := { N := ["_law_thing", "_law_low"], sc := defScope (top 13), lv := lv, kp := [], brw := [], calls := [], bis := [], cons := [], fr := FR }
def b__law_is_number : List S := [(.ret (.and (.isi (.var 0) ["int"]) (.and (.nt (.isi (.var 0) ["bool"])) (.cmp .GtE (.var 0) (.var 1)))))]
theorem sc__law_is_number : FnScope ["_law_thing", "_law_low"] ["_law_thing", "_law_low"] (defScope (top 13)) := ⟨rfl, rfl, rfl, by decide +kernel, rfl, by decide +kernel, by decide +kernel⟩
theorem d__law_is_number (lv : Nat) : DefC (C__law_is_number lv) ["_law_thing", "_law_low"] (defArgs (top 13)) (defBody (top 13)) (defScope (top 13)) b__law_is_number := ⟨sc__law_is_number, rfl, rfl, (show ∀ i ∈ ([] : List Nat), i < 2 by decide), by kernel_rfl⟩
abbrev M__law_is_number : Sem := mkSem [] [] [] [] [] noAt
def numLow : D → Int → Bool
  | .int i, a => decide (a ≤ i)
  | _, _ => false
def F__law_is_number : FS := fun args R => ∃ d a, args = [.sh d, .sh (.int a)] ∧ tyN d ≠ "?" ∧ ∀ o, R (.sh (.bl (numLow d a))) o
theorem p__law_is_number : ∀ args R, F__law_is_number args R → runF [] 2 2 (wSs M__law_is_number b__law_is_number) args R := by
  rintro args R ⟨d, a, rfl, hd, hR⟩
  refine ⟨rfl, ?_⟩
  unfold b__law_is_number
  cases d with
  | ins C ns vs => exact absurd rfl hd
  | ty n => exact absurd rfl hd
  | gl n => exact absurd rfl hd
  | _ =>
    simp only [dflF, kwF, shs, pickG, pickO, consO, Option.map_some, List.take_nil, wMeth, methD, joinD, strsOf_map, wSs_cons, wSs_nil, Later_nil, wS, wE, wT, wI, wX, wVl, wOl, wAv, mk3, mkT, mkI, opd, wIf, wOr, DL.wAnd, DL.wNot, wBool, wTru, wUn, wOp, wFn, wCons, wNil, wVCons, wVNil, wAvNil, wAvVal, wAvBor, wCall2, wC, wVar, wAndV, wOrV, wNotV, wIte, wLst, wTup, wDct, wChn, wSlc, partE, varOp, asOp, entry, content, resO, resOs, frz, wRet, wRetV, wRetN, wNext, wDrop, wSet, wUnp, wPar, wSti, wBrk, wCnt, wMut, muD, wSeq', wFor, wWhile, wLc, wRng1, wRng2, wZip, itemsD, nth, bindTg, bindTgs, noOw, wipeS, restore, wback_val, wback_nil, wback_bor, List.nodup_nil, List.nodup_cons, List.not_mem_nil, bors, resA, pairD, keyD, le_size, List.replicate_succ, List.replicate_zero, List.length_cons, List.length_nil, List.cons_append, List.nil_append, List.getElem?_cons_zero, List.getElem?_cons_succ, List.getElem?_nil, List.set_cons_zero, List.set_cons_succ, Option.isSome_some, List.map_cons, List.map_nil, List.all_cons, List.all_nil, List.any_cons, List.any_nil, Nat.reduceSub, Nat.reduceAdd, Nat.reduceLT, Nat.reduceLeDiff, reduceIte, reduceCtorEq, Bool.not_true, Bool.not_false, Bool.false_eq_true, and_true, true_and, List.drop_zero, List.drop_succ_cons, List.take_succ_cons, List.take_zero, lenD, intD, boolD, strD, listD, tupleD, allD, anyD, blsD, cmpB, cmpD, binD, addD, subD, mulD, fdivD, modD, powD, negD, idxD, slcD, truD, ltD, gtD, leD, geD, eqD_int, eqD_bl, eqD_str, eqD_non, L2.atI, ixN_lit, Int.reduceToNat, Option.bind_some, List.length_map, List.set_cons_zero, List.set_cons_succ, isNon, inD_ss, inStr_one, isiD, seqOf, lstOf, String.reduceNe, String.reduceEq, ne_eq, not_false_eq_true, not_true_eq_false, Bool.or_true, Bool.or_false, Bool.true_or, Bool.false_or, Bool.and_true, Bool.and_false, Bool.true_and, Bool.false_and, isT_NoneType_bool, isT_NoneType_int, isT_NoneType_str, isT_NoneType_list, isT_NoneType_tuple, isT_NoneType_dict, isT_bool_bool, isT_bool_int, isT_bool_str, isT_bool_list, isT_bool_tuple, isT_bool_dict, isT_int_bool, isT_int_int, isT_int_str, isT_int_list, isT_int_tuple, isT_int_dict, isT_str_bool, isT_str_int, isT_str_str, isT_str_list, isT_str_tuple, isT_str_dict, isT_list_bool, isT_list_int, isT_list_str, isT_list_list, isT_list_tuple, isT_list_dict, isT_tuple_bool, isT_tuple_int, isT_tuple_str, isT_tuple_list, isT_tuple_tuple, isT_tuple_dict, isT_dict_bool, isT_dict_int, isT_dict_str, isT_dict_list, isT_dict_tuple, isT_dict_dict, tyN_non, tyN_bl, tyN_int, tyN_str, tyN_lst, tyN_tup, tyN_klst, tyN_dic]
    exact hR _
theorem ok__law_is_number {P : Program} {w : World} {K : PySem.W.Frag} {mg : Str → Option Value} {base : Heap} (V : VE K mg) : ∃ fd, FunD K "_law_is_number" "_law_is_number" (defArgs (top 13)) (defBody (top 13)) (defScope (top 13)) [] [] (He.ga K "_law_is_number") fd ∧ FnOk P w K mg base CX0 1 (He.ga K "_law_is_number") fd ["_law_thing", "_law_low"] (spOf K F__law_is_number) := by
  obtain ⟨fd, Fd⟩ := V.def_ 6 (d := dd "_law_is_number" 13 []) rfl
  exact ⟨fd, Fd, fn_ok Fd (d__law_is_number 0) (mkTab .nil .nil (show ([] : List (Str × Nat)).all (fun c => decide (c.1 ∈ FR)) = true by decide +kernel) .nil .nil noAt_ok V.free) rfl p__law_is_number⟩
theorem cj__law_is_number_2 {P : Program} {w : World} {K : PySem.W.Frag} {mg : Str → Option Value} {base : Heap} {lv : Nat} (V : VE K mg) (h : 1 ≤ lv) : CallJ P w K mg base lv "_law_is_number" 2 [] F__law_is_number := by
  obtain ⟨fd, Fd, F⟩ := ok__law_is_number (P := P) (w := w) (base := base) V
  exact callJ F h (V.glo 6 rfl) Fd.kp (FunD.bindsN Fd (fun _ _ _ _ _ _ us hl => match us, hl with | [_, _], _ => rfl)) 2
def C__law_within (lv : Nat) : CC := { N := ["_law_thing", "_law_low", "_law_high"], sc := defScope (top 16), lv := lv, kp := [], brw := [], calls := [("_law_is_number", 2, [])], bis := [], cons := [], fr := FR }
def b__law_within : List S := [(.ret (.and (.call 0 [(.var 0), (.var 1)] []) (.or (.cmp .Is (.var 2) .non) (.cmp .LtE (.var 0) (.var 2)))))]
theorem sc__law_within : FnScope ["_law_thing", "_law_low", "_law_high"] ["_law_thing", "_law_low", "_law_high"] (defScope (top 16)) := ⟨rfl, rfl, rfl, by decide +kernel, rfl, by decide +kernel, by decide +kernel⟩
theorem d__law_within (lv : Nat) : DefC (C__law_within lv) ["_law_thing", "_law_low", "_law_high"] (defArgs (top 16)) (defBody (top 16)) (defScope (top 16)) b__law_within := ⟨sc__law_within, rfl, rfl, (show ∀ i ∈ ([] : List Nat), i < 3 by decide), by kernel_rfl⟩
abbrev M__law_within : Sem := mkSem [] [F__law_is_number] [] [] [] noAt
def F__law_within : FS := fun args R => ∃ d a m, args = [.sh d, .sh (.int a), .sh m] ∧ tyN d ≠ "?" ∧ topOk m ∧ ∀ o, R (.sh (.bl (numB d a m))) o
theorem p__law_within : ∀ args R, F__law_within args R → runF [] 3 3 (wSs M__law_within b__law_within) args R := by
  rintro args R ⟨d, a, m, rfl, hd, hm, hR⟩
  refine ⟨rfl, ?_⟩
  unfold b__law_within
  rcases hm with rfl | ⟨b, rfl⟩
  · have e1 : numB d a .non = numLow d a := by cases d <;> rfl
    rw [e1] at hR
    simp only [dflF, kwF, shs, pickG, pickO, consO, Option.map_some, List.take_nil, wMeth, methD, joinD, strsOf_map, wSs_cons, wSs_nil, Later_nil, wS, wE, wT, wI, wX, wVl, wOl, wAv, mk3, mkT, mkI, opd, wIf, wOr, DL.wAnd, DL.wNot, wBool, wTru, wUn, wOp, wFn, wCons, wNil, wVCons, wVNil, wAvNil, wAvVal, wAvBor, wCall2, wC, wVar, wAndV, wOrV, wNotV, wIte, wLst, wTup, wDct, wChn, wSlc, partE, varOp, asOp, entry, content, resO, resOs, frz, wRet, wRetV, wRetN, wNext, wDrop, wSet, wUnp, wPar, wSti, wBrk, wCnt, wMut, muD, wSeq', wFor, wWhile, wLc, wRng1, wRng2, wZip, itemsD, nth, bindTg, bindTgs, noOw, wipeS, restore, wback_val, wback_nil, wback_bor, List.nodup_nil, List.nodup_cons, List.not_mem_nil, bors, resA, pairD, keyD, le_size, List.replicate_succ, List.replicate_zero, List.length_cons, List.length_nil, List.cons_append, List.nil_append, List.getElem?_cons_zero, List.getElem?_cons_succ, List.getElem?_nil, List.set_cons_zero, List.set_cons_succ, Option.isSome_some, List.map_cons, List.map_nil, List.all_cons, List.all_nil, List.any_cons, List.any_nil, Nat.reduceSub, Nat.reduceAdd, Nat.reduceLT, Nat.reduceLeDiff, reduceIte, reduceCtorEq, Bool.not_true, Bool.not_false, Bool.false_eq_true, and_true, true_and, List.drop_zero, List.drop_succ_cons, List.take_succ_cons, List.take_zero, lenD, intD, boolD, strD, listD, tupleD, allD, anyD, blsD, cmpB, cmpD, binD, addD, subD, mulD, fdivD, modD, powD, negD, idxD, slcD, truD, ltD, gtD, leD, geD, eqD_int, eqD_bl, eqD_str, eqD_non, L2.atI, ixN_lit, Int.reduceToNat, Option.bind_some, List.length_map, List.set_cons_zero, List.set_cons_succ, isNon, inD_ss, inStr_one, isiD, seqOf, lstOf, String.reduceNe, String.reduceEq, ne_eq, not_false_eq_true, not_true_eq_false, Bool.or_true, Bool.or_false, Bool.true_or, Bool.false_or, Bool.and_true, Bool.and_false, Bool.true_and, Bool.false_and, isT_NoneType_bool, isT_NoneType_int, isT_NoneType_str, isT_NoneType_list, isT_NoneType_tuple, isT_NoneType_dict, isT_bool_bool, isT_bool_int, isT_bool_str, isT_bool_list, isT_bool_tuple, isT_bool_dict, isT_int_bool, isT_int_int, isT_int_str, isT_int_list, isT_int_tuple, isT_int_dict, isT_str_bool, isT_str_int, isT_str_str, isT_str_list, isT_str_tuple, isT_str_dict, isT_list_bool, isT_list_int, isT_list_str, isT_list_list, isT_list_tuple, isT_list_dict, isT_tuple_bool, isT_tuple_int, isT_tuple_str, isT_tuple_list, isT_tuple_tuple, isT_tuple_dict, isT_dict_bool, isT_dict_int, isT_dict_str, isT_dict_list, isT_dict_tuple, isT_dict_dict, tyN_non, tyN_bl, tyN_int, tyN_str, tyN_lst, tyN_tup, tyN_klst, tyN_dic]
    refine ⟨d, a, rfl, hd, fun o => ?_⟩
    dsimp only
    split
    · rename_i h
      rw [h] at hR
      exact hR _
    · exact hR _
  · by_cases hi : ∃ i, d = .int i
    · obtain ⟨i, rfl⟩ := hi
      have e2 : numB (.int i) a (.int b) = (numLow (.int i) a && decide (i ≤ b)) := rfl
      rw [e2] at hR
      simp only [dflF, kwF, shs, pickG, pickO, consO, Option.map_some, List.take_nil, wMeth, methD, joinD, strsOf_map, wSs_cons, wSs_nil, Later_nil, wS, wE, wT, wI, wX, wVl, wOl, wAv, mk3, mkT, mkI, opd, wIf, wOr, DL.wAnd, DL.wNot, wBool, wTru, wUn, wOp, wFn, wCons, wNil, wVCons, wVNil, wAvNil, wAvVal, wAvBor, wCall2, wC, wVar, wAndV, wOrV, wNotV, wIte, wLst, wTup, wDct, wChn, wSlc, partE, varOp, asOp, entry, content, resO, resOs, frz, wRet, wRetV, wRetN, wNext, wDrop, wSet, wUnp, wPar, wSti, wBrk, wCnt, wMut, muD, wSeq', wFor, wWhile, wLc, wRng1, wRng2, wZip, itemsD, nth, bindTg, bindTgs, noOw, wipeS, restore, wback_val, wback_nil, wback_bor, List.nodup_nil, List.nodup_cons, List.not_mem_nil, bors, resA, pairD, keyD, le_size, List.replicate_succ, List.replicate_zero, List.length_cons, List.length_nil, List.cons_append, List.nil_append, List.getElem?_cons_zero, List.getElem?_cons_succ, List.getElem?_nil, List.set_cons_zero, List.set_cons_succ, Option.isSome_some, List.map_cons, List.map_nil, List.all_cons, List.all_nil, List.any_cons, List.any_nil, Nat.reduceSub, Nat.reduceAdd, Nat.reduceLT, Nat.reduceLeDiff, reduceIte, reduceCtorEq, Bool.not_true, Bool.not_false, Bool.false_eq_true, and_true, true_and, List.drop_zero, List.drop_succ_cons, List.take_succ_cons, List.take_zero, lenD, intD, boolD, strD, listD, tupleD, allD, anyD, blsD, cmpB, cmpD, binD, addD, subD, mulD, fdivD, modD, powD, negD, idxD, slcD, truD, ltD, gtD, leD, geD, eqD_int, eqD_bl, eqD_str, eqD_non, L2.atI, ixN_lit, Int.reduceToNat, Option.bind_some, List.length_map, List.set_cons_zero, List.set_cons_succ, isNon, inD_ss, inStr_one, isiD, seqOf, lstOf, String.reduceNe, String.reduceEq, ne_eq, not_false_eq_true, not_true_eq_false, Bool.or_true, Bool.or_false, Bool.true_or, Bool.false_or, Bool.and_true, Bool.and_false, Bool.true_and, Bool.false_and, isT_NoneType_bool, isT_NoneType_int, isT_NoneType_str, isT_NoneType_list, isT_NoneType_tuple, isT_NoneType_dict, isT_bool_bool, isT_bool_int, isT_bool_str, isT_bool_list, isT_bool_tuple, isT_bool_dict, isT_int_bool, isT_int_int, isT_int_str, isT_int_list, isT_int_tuple, isT_int_dict, isT_str_bool, isT_str_int, isT_str_str, isT_str_list, isT_str_tuple, isT_str_dict, isT_list_bool, isT_list_int, isT_list_str, isT_list_list, isT_list_tuple, isT_list_dict, isT_tuple_bool, isT_tuple_int, isT_tuple_str, isT_tuple_list, isT_tuple_tuple, isT_tuple_dict, isT_dict_bool, isT_dict_int, isT_dict_str, isT_dict_list, isT_dict_tuple, isT_dict_dict, tyN_non, tyN_bl, tyN_int, tyN_str, tyN_lst, tyN_tup, tyN_klst, tyN_dic]
      refine ⟨_, a, rfl, hd, fun o => ?_⟩
      dsimp only
      split
      · rename_i h
        rw [h, Bool.true_and] at hR
        exact hR _
      · rename_i h
        have h : numLow (.int i) a = false := by simpa using h
        rw [h, Bool.false_and] at hR
        rw [h]
        exact hR _
    · have e2 : numB d a (.int b) = false := by cases d <;> first | rfl | exact absurd ⟨_, rfl⟩ hi
      have e3 : numLow d a = false := by cases d <;> first | rfl | exact absurd ⟨_, rfl⟩ hi
      rw [e2] at hR
      simp only [dflF, kwF, shs, pickG, pickO, consO, Option.map_some, List.take_nil, wMeth, methD, joinD, strsOf_map, wSs_cons, wSs_nil, Later_nil, wS, wE, wT, wI, wX, wVl, wOl, wAv, mk3, mkT, mkI, opd, wIf, wOr, DL.wAnd, DL.wNot, wBool, wTru, wUn, wOp, wFn, wCons, wNil, wVCons, wVNil, wAvNil, wAvVal, wAvBor, wCall2, wC, wVar, wAndV, wOrV, wNotV, wIte, wLst, wTup, wDct, wChn, wSlc, partE, varOp, asOp, entry, content, resO, resOs, frz, wRet, wRetV, wRetN, wNext, wDrop, wSet, wUnp, wPar, wSti, wBrk, wCnt, wMut, muD, wSeq', wFor, wWhile, wLc, wRng1, wRng2, wZip, itemsD, nth, bindTg, bindTgs, noOw, wipeS, restore, wback_val, wback_nil, wback_bor, List.nodup_nil, List.nodup_cons, List.not_mem_nil, bors, resA, pairD, keyD, le_size, List.replicate_succ, List.replicate_zero, List.length_cons, List.length_nil, List.cons_append, List.nil_append, List.getElem?_cons_zero, List.getElem?_cons_succ, List.getElem?_nil, List.set_cons_zero, List.set_cons_succ, Option.isSome_some, List.map_cons, List.map_nil, List.all_cons, List.all_nil, List.any_cons, List.any_nil, Nat.reduceSub, Nat.reduceAdd, Nat.reduceLT, Nat.reduceLeDiff, reduceIte, reduceCtorEq, Bool.not_true, Bool.not_false, Bool.false_eq_true, and_true, true_and, List.drop_zero, List.drop_succ_cons, List.take_succ_cons, List.take_zero, lenD, intD, boolD, strD, listD, tupleD, allD, anyD, blsD, cmpB, cmpD, binD, addD, subD, mulD, fdivD, modD, powD, negD, idxD, slcD, truD, ltD, gtD, leD, geD, eqD_int, eqD_bl, eqD_str, eqD_non, L2.atI, ixN_lit, Int.reduceToNat, Option.bind_some, List.length_map, List.set_cons_zero, List.set_cons_succ, isNon, inD_ss, inStr_one, isiD, seqOf, lstOf, String.reduceNe, String.reduceEq, ne_eq, not_false_eq_true, not_true_eq_false, Bool.or_true, Bool.or_false, Bool.true_or, Bool.false_or, Bool.and_true, Bool.and_false, Bool.true_and, Bool.false_and, isT_NoneType_bool, isT_NoneType_int, isT_NoneType_str, isT_NoneType_list, isT_NoneType_tuple, isT_NoneType_dict, isT_bool_bool, isT_bool_int, isT_bool_str, isT_bool_list, isT_bool_tuple, isT_bool_dict, isT_int_bool, isT_int_int, isT_int_str, isT_int_list, isT_int_tuple, isT_int_dict, isT_str_bool, isT_str_int, isT_str_str, isT_str_list, isT_str_tuple, isT_str_dict, isT_list_bool, isT_list_int, isT_list_str, isT_list_list, isT_list_tuple, isT_list_dict, isT_tuple_bool, isT_tuple_int, isT_tuple_str, isT_tuple_list, isT_tuple_tuple, isT_tuple_dict, isT_dict_bool, isT_dict_int, isT_dict_str, isT_dict_list, isT_dict_tuple, isT_dict_dict, tyN_non, tyN_bl, tyN_int, tyN_str, tyN_lst, tyN_tup, tyN_klst, tyN_dic]
      refine ⟨_, a, rfl, hd, fun o => ?_⟩
      dsimp only
      rw [e3]
      simp only [Bool.false_eq_true, if_false]
      exact hR _
theorem ok__law_within {P : Program} {w : World} {K : PySem.W.Frag} {mg : Str → Option Value} {base : Heap} (V : VE K mg) : ∃ fd, FunD K "_law_within" "_law_within" (defArgs (top 16)) (defBody (top 16)) (defScope (top 16)) [] [] (He.ga K "_law_within") fd ∧ FnOk P w K mg base CX0 2 (He.ga K "_law_within") fd ["_law_thing", "_law_low", "_law_high"] (spOf K F__law_within) := by
  obtain ⟨fd, Fd⟩ := V.def_ 9 (d := dd "_law_within" 16 []) rfl
  exact ⟨fd, Fd, fn_ok Fd (d__law_within 1) (mkTab (.cons (cj__law_is_number_2 V (by first | decide | omega)) .nil) .nil (show ([] : List (Str × Nat)).all (fun c => decide (c.1 ∈ FR)) = true by decide +kernel) .nil .nil noAt_ok V.free) rfl p__law_within⟩
theorem cj__law_within_3 {P : Program} {w : World} {K : PySem.W.Frag} {mg : Str → Option Value} {base : Heap} {lv : Nat} (V : VE K mg) (h : 2 ≤ lv) : CallJ P w K mg base lv "_law_within" 3 [] F__law_within := by
  obtain ⟨fd, Fd, F⟩ := ok__law_within (P := P) (w := w) (base := base) V
  exact callJ F h (V.glo 9 rfl) Fd.kp (FunD.bindsN Fd (fun _ _ _ _ _ _ us hl => match us, hl with | [_, _, _], _ => rfl)) 3
def C__law_is_title (lv : Nat) : CC := { N := ["_law_thing", "_law_sign"], sc := defScope (top 14), lv := lv, kp := [], brw := [], calls := [], bis := [("len", 1)], cons := [], fr := FR }
def b__law_is_title : List S := [(.ifs (.or (.nt (.isi (.var 0) ["str"])) (.or (.cmp .Lt (.bi 0 [(.var 0)]) (.int 1)) (.cmp .Gt (.bi 0 [(.var 0)]) (.int 8)))) [(.ret (.bl false))] []), (.ret (.cmp .Eq (.lc (.var 1) (.nm 1) (.var 0) [(.cmp .NotIn (.var 1) (.str "abcdefghijklmnopqrstuvwxyz"))] [1]) (.lst [])))]
theorem sc__law_is_title : FnScope ["_law_thing", "_law_sign"] ["_law_thing"] (defScope (top 14)) := ⟨rfl, rfl, rfl, by decide +kernel, rfl, by decide +kernel, by decide +kernel⟩
theorem d__law_is_title (lv : Nat) : DefC (C__law_is_title lv) ["_law_thing"] (defArgs (top 14)) (defBody (top 14)) (defScope (top 14)) b__law_is_title := ⟨sc__law_is_title, rfl, rfl, (show ∀ i ∈ ([] : List Nat), i < 1 by decide), by kernel_rfl⟩
abbrev M__law_is_title : Sem := mkSem [] [] [lenD] [] [] noAt
def F__law_is_title : FS := fun args R => ∃ d, args = [.sh d] ∧ Thing d ∧ ∀ o, R (.sh (.bl (nameB d))) o
theorem p__law_is_title : ∀ args R, F__law_is_title args R → runF [] 1 2 (wSs M__law_is_title b__law_is_title) args R := by
  rintro args R ⟨d, rfl, hd, hR⟩
  refine ⟨rfl, ?_⟩
  unfold b__law_is_title
  by_cases hs : ∃ z, d = .str z
  · obtain ⟨z, rfl⟩ := hs
    obtain ⟨hl, hc⟩ := hd.2 z rfl
    simp only [dflF, kwF, shs, pickG, pickO, consO, Option.map_some, List.take_nil, wMeth, methD, joinD, strsOf_map, wSs_cons, wSs_nil, Later_nil, wS, wE, wT, wI, wX, wVl, wOl, wAv, mk3, mkT, mkI, opd, wIf, wOr, DL.wAnd, DL.wNot, wBool, wTru, wUn, wOp, wFn, wCons, wNil, wVCons, wVNil, wAvNil, wAvVal, wAvBor, wCall2, wC, wVar, wAndV, wOrV, wNotV, wIte, wLst, wTup, wDct, wChn, wSlc, partE, varOp, asOp, entry, content, resO, resOs, frz, wRet, wRetV, wRetN, wNext, wDrop, wSet, wUnp, wPar, wSti, wBrk, wCnt, wMut, muD, wSeq', wFor, wWhile, wLc, wRng1, wRng2, wZip, itemsD, nth, bindTg, bindTgs, noOw, wipeS, restore, wback_val, wback_nil, wback_bor, List.nodup_nil, List.nodup_cons, List.not_mem_nil, bors, resA, pairD, keyD, le_size, List.replicate_succ, List.replicate_zero, List.length_cons, List.length_nil, List.cons_append, List.nil_append, List.getElem?_cons_zero, List.getElem?_cons_succ, List.getElem?_nil, List.set_cons_zero, List.set_cons_succ, Option.isSome_some, List.map_cons, List.map_nil, List.all_cons, List.all_nil, List.any_cons, List.any_nil, Nat.reduceSub, Nat.reduceAdd, Nat.reduceLT, Nat.reduceLeDiff, reduceIte, reduceCtorEq, Bool.not_true, Bool.not_false, Bool.false_eq_true, and_true, true_and, List.drop_zero, List.drop_succ_cons, List.take_succ_cons, List.take_zero, lenD, intD, boolD, strD, listD, tupleD, allD, anyD, blsD, cmpB, cmpD, binD, addD, subD, mulD, fdivD, modD, powD, negD, idxD, slcD, truD, ltD, gtD, leD, geD, eqD_int, eqD_bl, eqD_str, eqD_non, L2.atI, ixN_lit, Int.reduceToNat, Option.bind_some, List.length_map, List.set_cons_zero, List.set_cons_succ, isNon, inD_ss, inStr_one, isiD, seqOf, lstOf, String.reduceNe, String.reduceEq, ne_eq, not_false_eq_true, not_true_eq_false, Bool.or_true, Bool.or_false, Bool.true_or, Bool.false_or, Bool.and_true, Bool.and_false, Bool.true_and, Bool.false_and, isT_NoneType_bool, isT_NoneType_int, isT_NoneType_str, isT_NoneType_list, isT_NoneType_tuple, isT_NoneType_dict, isT_bool_bool, isT_bool_int, isT_bool_str, isT_bool_list, isT_bool_tuple, isT_bool_dict, isT_int_bool, isT_int_int, isT_int_str, isT_int_list, isT_int_tuple, isT_int_dict, isT_str_bool, isT_str_int, isT_str_str, isT_str_list, isT_str_tuple, isT_str_dict, isT_list_bool, isT_list_int, isT_list_str, isT_list_list, isT_list_tuple, isT_list_dict, isT_tuple_bool, isT_tuple_int, isT_tuple_str, isT_tuple_list, isT_tuple_tuple, isT_tuple_dict, isT_dict_bool, isT_dict_int, isT_dict_str, isT_dict_list, isT_dict_tuple, isT_dict_dict, tyN_non, tyN_bl, tyN_int, tyN_str, tyN_lst, tyN_tup, tyN_klst, tyN_dic]
    refine ⟨Nat.le_trans hl (by decide), ?_⟩
    have nf : ¬ (1 ≤ (z.length : Int) ∧ (z.length : Int) ≤ 8) → nameB (.str z) = false := fun h => by
      show (decide (1 ≤ z.length) && decide (z.length ≤ 8) && _) = false
      by_cases c1 : 1 ≤ z.length
      · by_cases c2 : z.length ≤ 8
        · exact absurd ⟨by omega, by omega⟩ h
        · simp [c2]
      · simp [c1]
    split
    · rename_i h1
      have h1 := of_decide_eq_true h1
      rw [← nf fun h => by omega]
      exact hR _
    · rename_i h1
      refine ⟨Nat.le_trans hl (by decide), ?_⟩
      split
      · rename_i h2
        have h2 := of_decide_eq_true h2
        rw [← nf fun h => by omega]
        exact hR _
      · rename_i h2
        have h1 : ¬ ((z.length : Int) < 1) := fun h => h1 (decide_eq_true h)
        have h2 : ¬ (8 < (z.length : Int)) := fun h => h2 (decide_eq_true h)
        (refine later ?_; simp only [dflF, kwF, shs, pickG, pickO, consO, Option.map_some, List.take_nil, wMeth, methD, joinD, strsOf_map, wSs_cons, wSs_nil, Later_nil, wS, wE, wT, wI, wX, wVl, wOl, wAv, mk3, mkT, mkI, opd, wIf, wOr, DL.wAnd, DL.wNot, wBool, wTru, wUn, wOp, wFn, wCons, wNil, wVCons, wVNil, wAvNil, wAvVal, wAvBor, wCall2, wC, wVar, wAndV, wOrV, wNotV, wIte, wLst, wTup, wDct, wChn, wSlc, partE, varOp, asOp, entry, content, resO, resOs, frz, wRet, wRetV, wRetN, wNext, wDrop, wSet, wUnp, wPar, wSti, wBrk, wCnt, wMut, muD, wSeq', wFor, wWhile, wLc, wRng1, wRng2, wZip, itemsD, nth, bindTg, bindTgs, noOw, wipeS, restore, wback_val, wback_nil, wback_bor, List.nodup_nil, List.nodup_cons, List.not_mem_nil, bors, resA, pairD, keyD, le_size, List.replicate_succ, List.replicate_zero, List.length_cons, List.length_nil, List.cons_append, List.nil_append, List.getElem?_cons_zero, List.getElem?_cons_succ, List.getElem?_nil, List.set_cons_zero, List.set_cons_succ, Option.isSome_some, List.map_cons, List.map_nil, List.all_cons, List.all_nil, List.any_cons, List.any_nil, Nat.reduceSub, Nat.reduceAdd, Nat.reduceLT, Nat.reduceLeDiff, reduceIte, reduceCtorEq, Bool.not_true, Bool.not_false, Bool.false_eq_true, and_true, true_and, List.drop_zero, List.drop_succ_cons, List.take_succ_cons, List.take_zero, lenD, intD, boolD, strD, listD, tupleD, allD, anyD, blsD, cmpB, cmpD, binD, addD, subD, mulD, fdivD, modD, powD, negD, idxD, slcD, truD, ltD, gtD, leD, geD, eqD_int, eqD_bl, eqD_str, eqD_non, L2.atI, ixN_lit, Int.reduceToNat, Option.bind_some, List.length_map, List.set_cons_zero, List.set_cons_succ, isNon, inD_ss, inStr_one, isiD, seqOf, lstOf, String.reduceNe, String.reduceEq, ne_eq, not_false_eq_true, not_true_eq_false, Bool.or_true, Bool.or_false, Bool.true_or, Bool.false_or, Bool.and_true, Bool.and_false, Bool.true_and, Bool.false_and, isT_NoneType_bool, isT_NoneType_int, isT_NoneType_str, isT_NoneType_list, isT_NoneType_tuple, isT_NoneType_dict, isT_bool_bool, isT_bool_int, isT_bool_str, isT_bool_list, isT_bool_tuple, isT_bool_dict, isT_int_bool, isT_int_int, isT_int_str, isT_int_list, isT_int_tuple, isT_int_dict, isT_str_bool, isT_str_int, isT_str_str, isT_str_list, isT_str_tuple, isT_str_dict, isT_list_bool, isT_list_int, isT_list_str, isT_list_list, isT_list_tuple, isT_list_dict, isT_tuple_bool, isT_tuple_int, isT_tuple_str, isT_tuple_list, isT_tuple_tuple, isT_tuple_dict, isT_dict_bool, isT_dict_int, isT_dict_str, isT_dict_list, isT_dict_tuple, isT_dict_dict, tyN_non, tyN_bl, tyN_int, tyN_str, tyN_lst, tyN_tup, tyN_klst, tyN_dic])
        refine ⟨by rw [charsD_len]; exact Nat.le_trans hl (by decide), ?_⟩
        unfold charsD
        refine lcGo_filtg _ (fun c => .str ⟨#[c]⟩) (fun c => !decide (c ∈ letters.cps.toList)) _ _ (fun c hc => ⟨_, rfl, rfl, fun Q q => ?_, fun _ Q q => ?_⟩) ?_
        · simp only [dflF, kwF, shs, pickG, pickO, consO, Option.map_some, List.take_nil, wMeth, methD, joinD, strsOf_map, wSs_cons, wSs_nil, Later_nil, wS, wE, wT, wI, wX, wVl, wOl, wAv, mk3, mkT, mkI, opd, wIf, wOr, DL.wAnd, DL.wNot, wBool, wTru, wUn, wOp, wFn, wCons, wNil, wVCons, wVNil, wAvNil, wAvVal, wAvBor, wCall2, wC, wVar, wAndV, wOrV, wNotV, wIte, wLst, wTup, wDct, wChn, wSlc, partE, varOp, asOp, entry, content, resO, resOs, frz, wRet, wRetV, wRetN, wNext, wDrop, wSet, wUnp, wPar, wSti, wBrk, wCnt, wMut, muD, wSeq', wFor, wWhile, wLc, wRng1, wRng2, wZip, itemsD, nth, bindTg, bindTgs, noOw, wipeS, restore, wback_val, wback_nil, wback_bor, List.nodup_nil, List.nodup_cons, List.not_mem_nil, bors, resA, pairD, keyD, le_size, List.replicate_succ, List.replicate_zero, List.length_cons, List.length_nil, List.cons_append, List.nil_append, List.getElem?_cons_zero, List.getElem?_cons_succ, List.getElem?_nil, List.set_cons_zero, List.set_cons_succ, Option.isSome_some, List.map_cons, List.map_nil, List.all_cons, List.all_nil, List.any_cons, List.any_nil, Nat.reduceSub, Nat.reduceAdd, Nat.reduceLT, Nat.reduceLeDiff, reduceIte, reduceCtorEq, Bool.not_true, Bool.not_false, Bool.false_eq_true, and_true, true_and, List.drop_zero, List.drop_succ_cons, List.take_succ_cons, List.take_zero, lenD, intD, boolD, strD, listD, tupleD, allD, anyD, blsD, cmpB, cmpD, binD, addD, subD, mulD, fdivD, modD, powD, negD, idxD, slcD, truD, ltD, gtD, leD, geD, eqD_int, eqD_bl, eqD_str, eqD_non, L2.atI, ixN_lit, Int.reduceToNat, Option.bind_some, List.length_map, List.set_cons_zero, List.set_cons_succ, isNon, inD_ss, inStr_one, isiD, seqOf, lstOf, String.reduceNe, String.reduceEq, ne_eq, not_false_eq_true, not_true_eq_false, Bool.or_true, Bool.or_false, Bool.true_or, Bool.false_or, Bool.and_true, Bool.and_false, Bool.true_and, Bool.false_and, isT_NoneType_bool, isT_NoneType_int, isT_NoneType_str, isT_NoneType_list, isT_NoneType_tuple, isT_NoneType_dict, isT_bool_bool, isT_bool_int, isT_bool_str, isT_bool_list, isT_bool_tuple, isT_bool_dict, isT_int_bool, isT_int_int, isT_int_str, isT_int_list, isT_int_tuple, isT_int_dict, isT_str_bool, isT_str_int, isT_str_str, isT_str_list, isT_str_tuple, isT_str_dict, isT_list_bool, isT_list_int, isT_list_str, isT_list_list, isT_list_tuple, isT_list_dict, isT_tuple_bool, isT_tuple_int, isT_tuple_str, isT_tuple_list, isT_tuple_tuple, isT_tuple_dict, isT_dict_bool, isT_dict_int, isT_dict_str, isT_dict_list, isT_dict_tuple, isT_dict_dict, tyN_non, tyN_bl, tyN_int, tyN_str, tyN_lst, tyN_tup, tyN_klst, tyN_dic]
          exact q
        · simp only [dflF, kwF, shs, pickG, pickO, consO, Option.map_some, List.take_nil, wMeth, methD, joinD, strsOf_map, wSs_cons, wSs_nil, Later_nil, wS, wE, wT, wI, wX, wVl, wOl, wAv, mk3, mkT, mkI, opd, wIf, wOr, DL.wAnd, DL.wNot, wBool, wTru, wUn, wOp, wFn, wCons, wNil, wVCons, wVNil, wAvNil, wAvVal, wAvBor, wCall2, wC, wVar, wAndV, wOrV, wNotV, wIte, wLst, wTup, wDct, wChn, wSlc, partE, varOp, asOp, entry, content, resO, resOs, frz, wRet, wRetV, wRetN, wNext, wDrop, wSet, wUnp, wPar, wSti, wBrk, wCnt, wMut, muD, wSeq', wFor, wWhile, wLc, wRng1, wRng2, wZip, itemsD, nth, bindTg, bindTgs, noOw, wipeS, restore, wback_val, wback_nil, wback_bor, List.nodup_nil, List.nodup_cons, List.not_mem_nil, bors, resA, pairD, keyD, le_size, List.replicate_succ, List.replicate_zero, List.length_cons, List.length_nil, List.cons_append, List.nil_append, List.getElem?_cons_zero, List.getElem?_cons_succ, List.getElem?_nil, List.set_cons_zero, List.set_cons_succ, Option.isSome_some, List.map_cons, List.map_nil, List.all_cons, List.all_nil, List.any_cons, List.any_nil, Nat.reduceSub, Nat.reduceAdd, Nat.reduceLT, Nat.reduceLeDiff, reduceIte, reduceCtorEq, Bool.not_true, Bool.not_false, Bool.false_eq_true, and_true, true_and, List.drop_zero, List.drop_succ_cons, List.take_succ_cons, List.take_zero, lenD, intD, boolD, strD, listD, tupleD, allD, anyD, blsD, cmpB, cmpD, binD, addD, subD, mulD, fdivD, modD, powD, negD, idxD, slcD, truD, ltD, gtD, leD, geD, eqD_int, eqD_bl, eqD_str, eqD_non, L2.atI, ixN_lit, Int.reduceToNat, Option.bind_some, List.length_map, List.set_cons_zero, List.set_cons_succ, isNon, inD_ss, inStr_one, isiD, seqOf, lstOf, String.reduceNe, String.reduceEq, ne_eq, not_false_eq_true, not_true_eq_false, Bool.or_true, Bool.or_false, Bool.true_or, Bool.false_or, Bool.and_true, Bool.and_false, Bool.true_and, Bool.false_and, isT_NoneType_bool, isT_NoneType_int, isT_NoneType_str, isT_NoneType_list, isT_NoneType_tuple, isT_NoneType_dict, isT_bool_bool, isT_bool_int, isT_bool_str, isT_bool_list, isT_bool_tuple, isT_bool_dict, isT_int_bool, isT_int_int, isT_int_str, isT_int_list, isT_int_tuple, isT_int_dict, isT_str_bool, isT_str_int, isT_str_str, isT_str_list, isT_str_tuple, isT_str_dict, isT_list_bool, isT_list_int, isT_list_str, isT_list_list, isT_list_tuple, isT_list_dict, isT_tuple_bool, isT_tuple_int, isT_tuple_str, isT_tuple_list, isT_tuple_tuple, isT_tuple_dict, isT_dict_bool, isT_dict_int, isT_dict_str, isT_dict_list, isT_dict_tuple, isT_dict_dict, tyN_non, tyN_bl, tyN_int, tyN_str, tyN_lst, tyN_tup, tyN_klst, tyN_dic]
          exact q _ rfl
        · simp only [dflF, kwF, shs, pickG, pickO, consO, Option.map_some, List.take_nil, wMeth, methD, joinD, strsOf_map, wSs_cons, wSs_nil, Later_nil, wS, wE, wT, wI, wX, wVl, wOl, wAv, mk3, mkT, mkI, opd, wIf, wOr, DL.wAnd, DL.wNot, wBool, wTru, wUn, wOp, wFn, wCons, wNil, wVCons, wVNil, wAvNil, wAvVal, wAvBor, wCall2, wC, wVar, wAndV, wOrV, wNotV, wIte, wLst, wTup, wDct, wChn, wSlc, partE, varOp, asOp, entry, content, resO, resOs, frz, wRet, wRetV, wRetN, wNext, wDrop, wSet, wUnp, wPar, wSti, wBrk, wCnt, wMut, muD, wSeq', wFor, wWhile, wLc, wRng1, wRng2, wZip, itemsD, nth, bindTg, bindTgs, noOw, wipeS, restore, wback_val, wback_nil, wback_bor, List.nodup_nil, List.nodup_cons, List.not_mem_nil, bors, resA, pairD, keyD, le_size, List.replicate_succ, List.replicate_zero, List.length_cons, List.length_nil, List.cons_append, List.nil_append, List.getElem?_cons_zero, List.getElem?_cons_succ, List.getElem?_nil, List.set_cons_zero, List.set_cons_succ, Option.isSome_some, List.map_cons, List.map_nil, List.all_cons, List.all_nil, List.any_cons, List.any_nil, Nat.reduceSub, Nat.reduceAdd, Nat.reduceLT, Nat.reduceLeDiff, reduceIte, reduceCtorEq, Bool.not_true, Bool.not_false, Bool.false_eq_true, and_true, true_and, List.drop_zero, List.drop_succ_cons, List.take_succ_cons, List.take_zero, lenD, intD, boolD, strD, listD, tupleD, allD, anyD, blsD, cmpB, cmpD, binD, addD, subD, mulD, fdivD, modD, powD, negD, idxD, slcD, truD, ltD, gtD, leD, geD, eqD_int, eqD_bl, eqD_str, eqD_non, L2.atI, ixN_lit, Int.reduceToNat, Option.bind_some, List.length_map, List.set_cons_zero, List.set_cons_succ, isNon, inD_ss, inStr_one, isiD, seqOf, lstOf, String.reduceNe, String.reduceEq, ne_eq, not_false_eq_true, not_true_eq_false, Bool.or_true, Bool.or_false, Bool.true_or, Bool.false_or, Bool.and_true, Bool.and_false, Bool.true_and, Bool.false_and, isT_NoneType_bool, isT_NoneType_int, isT_NoneType_str, isT_NoneType_list, isT_NoneType_tuple, isT_NoneType_dict, isT_bool_bool, isT_bool_int, isT_bool_str, isT_bool_list, isT_bool_tuple, isT_bool_dict, isT_int_bool, isT_int_int, isT_int_str, isT_int_list, isT_int_tuple, isT_int_dict, isT_str_bool, isT_str_int, isT_str_str, isT_str_list, isT_str_tuple, isT_str_dict, isT_list_bool, isT_list_int, isT_list_str, isT_list_list, isT_list_tuple, isT_list_dict, isT_tuple_bool, isT_tuple_int, isT_tuple_str, isT_tuple_list, isT_tuple_tuple, isT_tuple_dict, isT_dict_bool, isT_dict_int, isT_dict_str, isT_dict_list, isT_dict_tuple, isT_dict_dict, tyN_non, tyN_bl, tyN_int, tyN_str, tyN_lst, tyN_tup, tyN_klst, tyN_dic]
          refine eqD_list (toPs_map (fun c => D.str ⟨#[c]⟩) (fun c => .str ⟨#[c]⟩) (fun _ => rfl) _) (show toPs [] = some [] from rfl) (shaped_list fun p m => ?_) rfl ?_
          · rw [List.mem_map] at m
            obtain ⟨c, m, rfl⟩ := m
            rw [List.mem_filter] at m
            exact ⟨char_ok (hc c m.1), rfl⟩
          · have e : nameB (.str z) = PyData.eqv (.list ((z.cps.toList.filter fun c => !decide (c ∈ letters.cps.toList)).map fun c => .str ⟨#[c]⟩)) (.list []) := by
              show (decide (1 ≤ z.length) && decide (z.length ≤ 8) && _) = _
              rw [decide_eq_true (by omega : 1 ≤ z.length), decide_eq_true (by omega : z.length ≤ 8)]
              show (z.cps.toList.all fun c => decide (c ∈ letters.cps.toList)) = _
              generalize z.cps.toList = l
              induction l with
              | nil => rfl
              | cons a l ih =>
                rw [List.all_cons, List.filter_cons]
                by_cases ha : a ∈ letters.cps.toList
                · rw [decide_eq_true ha, Bool.true_and, ih, if_neg (by decide)]
                · rw [decide_eq_false ha, Bool.false_and, if_pos (by decide)]
                  rfl
            show R (.sh (.bl (PyData.eqv _ _))) _
            rw [← e]
            exact hR _
  · have hn : ∀ z, d ≠ .str z := fun z e => hs ⟨z, e⟩
    simp only [dflF, kwF, shs, pickG, pickO, consO, Option.map_some, List.take_nil, wMeth, methD, joinD, strsOf_map, wSs_cons, wSs_nil, Later_nil, wS, wE, wT, wI, wX, wVl, wOl, wAv, mk3, mkT, mkI, opd, wIf, wOr, DL.wAnd, DL.wNot, wBool, wTru, wUn, wOp, wFn, wCons, wNil, wVCons, wVNil, wAvNil, wAvVal, wAvBor, wCall2, wC, wVar, wAndV, wOrV, wNotV, wIte, wLst, wTup, wDct, wChn, wSlc, partE, varOp, asOp, entry, content, resO, resOs, frz, wRet, wRetV, wRetN, wNext, wDrop, wSet, wUnp, wPar, wSti, wBrk, wCnt, wMut, muD, wSeq', wFor, wWhile, wLc, wRng1, wRng2, wZip, itemsD, nth, bindTg, bindTgs, noOw, wipeS, restore, wback_val, wback_nil, wback_bor, List.nodup_nil, List.nodup_cons, List.not_mem_nil, bors, resA, pairD, keyD, le_size, List.replicate_succ, List.replicate_zero, List.length_cons, List.length_nil, List.cons_append, List.nil_append, List.getElem?_cons_zero, List.getElem?_cons_succ, List.getElem?_nil, List.set_cons_zero, List.set_cons_succ, Option.isSome_some, List.map_cons, List.map_nil, List.all_cons, List.all_nil, List.any_cons, List.any_nil, Nat.reduceSub, Nat.reduceAdd, Nat.reduceLT, Nat.reduceLeDiff, reduceIte, reduceCtorEq, Bool.not_true, Bool.not_false, Bool.false_eq_true, and_true, true_and, List.drop_zero, List.drop_succ_cons, List.take_succ_cons, List.take_zero, lenD, intD, boolD, strD, listD, tupleD, allD, anyD, blsD, cmpB, cmpD, binD, addD, subD, mulD, fdivD, modD, powD, negD, idxD, slcD, truD, ltD, gtD, leD, geD, eqD_int, eqD_bl, eqD_str, eqD_non, L2.atI, ixN_lit, Int.reduceToNat, Option.bind_some, List.length_map, List.set_cons_zero, List.set_cons_succ, isNon, inD_ss, inStr_one, isiD, seqOf, lstOf, String.reduceNe, String.reduceEq, ne_eq, not_false_eq_true, not_true_eq_false, Bool.or_true, Bool.or_false, Bool.true_or, Bool.false_or, Bool.and_true, Bool.and_false, Bool.true_and, Bool.false_and, isT_NoneType_bool, isT_NoneType_int, isT_NoneType_str, isT_NoneType_list, isT_NoneType_tuple, isT_NoneType_dict, isT_bool_bool, isT_bool_int, isT_bool_str, isT_bool_list, isT_bool_tuple, isT_bool_dict, isT_int_bool, isT_int_int, isT_int_str, isT_int_list, isT_int_tuple, isT_int_dict, isT_str_bool, isT_str_int, isT_str_str, isT_str_list, isT_str_tuple, isT_str_dict, isT_list_bool, isT_list_int, isT_list_str, isT_list_list, isT_list_tuple, isT_list_dict, isT_tuple_bool, isT_tuple_int, isT_tuple_str, isT_tuple_list, isT_tuple_tuple, isT_tuple_dict, isT_dict_bool, isT_dict_int, isT_dict_str, isT_dict_list, isT_dict_tuple, isT_dict_dict, tyN_non, tyN_bl, tyN_int, tyN_str, tyN_lst, tyN_tup, tyN_klst, tyN_dic]
    rw [isT_str hd.1 hn]
    refine ⟨hd.1, ?_⟩
    simp only [dflF, kwF, shs, pickG, pickO, consO, Option.map_some, List.take_nil, wMeth, methD, joinD, strsOf_map, wSs_cons, wSs_nil, Later_nil, wS, wE, wT, wI, wX, wVl, wOl, wAv, mk3, mkT, mkI, opd, wIf, wOr, DL.wAnd, DL.wNot, wBool, wTru, wUn, wOp, wFn, wCons, wNil, wVCons, wVNil, wAvNil, wAvVal, wAvBor, wCall2, wC, wVar, wAndV, wOrV, wNotV, wIte, wLst, wTup, wDct, wChn, wSlc, partE, varOp, asOp, entry, content, resO, resOs, frz, wRet, wRetV, wRetN, wNext, wDrop, wSet, wUnp, wPar, wSti, wBrk, wCnt, wMut, muD, wSeq', wFor, wWhile, wLc, wRng1, wRng2, wZip, itemsD, nth, bindTg, bindTgs, noOw, wipeS, restore, wback_val, wback_nil, wback_bor, List.nodup_nil, List.nodup_cons, List.not_mem_nil, bors, resA, pairD, keyD, le_size, List.replicate_succ, List.replicate_zero, List.length_cons, List.length_nil, List.cons_append, List.nil_append, List.getElem?_cons_zero, List.getElem?_cons_succ, List.getElem?_nil, List.set_cons_zero, List.set_cons_succ, Option.isSome_some, List.map_cons, List.map_nil, List.all_cons, List.all_nil, List.any_cons, List.any_nil, Nat.reduceSub, Nat.reduceAdd, Nat.reduceLT, Nat.reduceLeDiff, reduceIte, reduceCtorEq, Bool.not_true, Bool.not_false, Bool.false_eq_true, and_true, true_and, List.drop_zero, List.drop_succ_cons, List.take_succ_cons, List.take_zero, lenD, intD, boolD, strD, listD, tupleD, allD, anyD, blsD, cmpB, cmpD, binD, addD, subD, mulD, fdivD, modD, powD, negD, idxD, slcD, truD, ltD, gtD, leD, geD, eqD_int, eqD_bl, eqD_str, eqD_non, L2.atI, ixN_lit, Int.reduceToNat, Option.bind_some, List.length_map, List.set_cons_zero, List.set_cons_succ, isNon, inD_ss, inStr_one, isiD, seqOf, lstOf, String.reduceNe, String.reduceEq, ne_eq, not_false_eq_true, not_true_eq_false, Bool.or_true, Bool.or_false, Bool.true_or, Bool.false_or, Bool.and_true, Bool.and_false, Bool.true_and, Bool.false_and, isT_NoneType_bool, isT_NoneType_int, isT_NoneType_str, isT_NoneType_list, isT_NoneType_tuple, isT_NoneType_dict, isT_bool_bool, isT_bool_int, isT_bool_str, isT_bool_list, isT_bool_tuple, isT_bool_dict, isT_int_bool, isT_int_int, isT_int_str, isT_int_list, isT_int_tuple, isT_int_dict, isT_str_bool, isT_str_int, isT_str_str, isT_str_list, isT_str_tuple, isT_str_dict, isT_list_bool, isT_list_int, isT_list_str, isT_list_list, isT_list_tuple, isT_list_dict, isT_tuple_bool, isT_tuple_int, isT_tuple_str, isT_tuple_list, isT_tuple_tuple, isT_tuple_dict, isT_dict_bool, isT_dict_int, isT_dict_str, isT_dict_list, isT_dict_tuple, isT_dict_dict, tyN_non, tyN_bl, tyN_int, tyN_str, tyN_lst, tyN_tup, tyN_klst, tyN_dic]
    have e : nameB d = false := by
      cases d <;> first | rfl | exact absurd rfl (hn _)
    rw [e] at hR
    exact hR _
theorem ok__law_is_title {P : Program} {w : World} {K : PySem.W.Frag} {mg : Str → Option Value} {base : Heap} (V : VE K mg) : ∃ fd, FunD K "_law_is_title" "_law_is_title" (defArgs (top 14)) (defBody (top 14)) (defScope (top 14)) [] [] (He.ga K "_law_is_title") fd ∧ FnOk P w K mg base CX0 1 (He.ga K "_law_is_title") fd ["_law_thing"] (spOf K F__law_is_title) := by
  obtain ⟨fd, Fd⟩ := V.def_ 7 (d := dd "_law_is_title" 14 []) rfl
  exact ⟨fd, Fd, fn_ok Fd (d__law_is_title 0) (mkTab .nil (.cons rfl .nil) (show ([("len", 1)] : List (Str × Nat)).all (fun c => decide (c.1 ∈ FR)) = true by decide +kernel) .nil .nil noAt_ok V.free) rfl p__law_is_title⟩
theorem cj__law_is_title_1 {P : Program} {w : World} {K : PySem.W.Frag} {mg : Str → Option Value} {base : Heap} {lv : Nat} (V : VE K mg) (h : 1 ≤ lv) : CallJ P w K mg base lv "_law_is_title" 1 [] F__law_is_title := by
  obtain ⟨fd, Fd, F⟩ := ok__law_is_title (P := P) (w := w) (base := base) V
  exact callJ F h (V.glo 7 rfl) Fd.kp (FunD.bindsN Fd (fun _ _ _ _ _ _ us hl => match us, hl with | [_], _ => rfl)) 1
end K01

namespace K01
open PySem DL
open L2 (V FnOk FunD CX0 defArgs defBody defScope SqL FnScope KBn)
def okB (z : Str) : Bool := decide (z.length ≤ 1000) && z.cps.toList.all fun c => decide (c < 0x110000)
theorem okB_ok {z : Str} (h : okB z = true) : okS z := by
  unfold okB at h
  rw [Bool.and_eq_true] at h
  exact ⟨of_decide_eq_true h.1, fun c hc => of_decide_eq_true (List.all_eq_true.mp h.2 c hc)⟩
def thingB : D → Bool
  | .str z => okB z
  | .ins _ _ _ => false
  | .ty _ => false
  | .gl _ => false
  | _ => true
theorem thing_of {d : D} (h : thingB d = true) : Thing d := by
  cases d with
  | str z => exact ⟨by simp only [tyN_str, ne_eq, String.reduceEq, not_false_eq_true], fun y e => by cases e; exact okB_ok h⟩
  | ins a b c => cases h
  | ty a => cases h
  | gl a => cases h
  | _ => exact ⟨by simp only [tyN_non, tyN_bl, tyN_int, tyN_lst, tyN_tup, tyN_klst, tyN_dic, ne_eq, String.reduceEq, not_false_eq_true], fun y e => by cases e⟩
theorem thing_all {x : D} {xs : List D} (m : x ∈ xs) (h : xs.all thingB = true) : Thing x := thing_of (List.all_eq_true.mp h x m)
/-- ints of a list, positive and small -/
def posB : D → Bool
  | .int i => decide (0 < i) && decide (i < 9999999999)
  | _ => false
theorem pos_all {x : D} {xs : List D} (m : x ∈ xs) (h : xs.all posB = true) : ∃ i, x = .int i ∧ 0 < i ∧ i < 9999999999 := by
  have := List.all_eq_true.mp h x m
  cases x with
  | int i =>
    have h' : (decide (0 < i) && decide (i < 9999999999)) = true := this
    rw [Bool.and_eq_true] at h'
    exact ⟨i, rfl, of_decide_eq_true h'.1, of_decide_eq_true h'.2⟩
  | _ => cases this
def C__law_odd (lv : Nat) : CC := { N := ["_law_bag_here"], sc := defScope (top 15), lv := lv, kp := [0], brw := [0], calls := [("_law_of", 2, [])], bis := [], cons := [], fr := FR }
def b__law_odd : List S := [(.ret (.call 0 [(.bor 0), (.lst [.non, (.bl true), (.bl false), (.int 0), (.int 1), (.neg (.int 1)), (.int 3), (.int 97), (.str ""), (.str "A"), (.str "a b"), (.str "abcdefghi"), (.str "a"), (.tup []), (.lst []), (.dct [] []), (.lst [(.str "a")]), (.tup [(.str "a"), (.str "b")]), (.lst [.non]), (.tup [(.tup [(.int 0), (.int 1)])]), (.dct [(.str "a"), (.int 1)] []), (.int 1000001), (.str "a\n"), (.tup [(.int 1)]), (.int 9999999999)])] []))]
theorem sc__law_odd : FnScope ["_law_bag_here"] ["_law_bag_here"] (defScope (top 15)) := ⟨rfl, rfl, rfl, by decide +kernel, rfl, by decide +kernel, by decide +kernel⟩
theorem d__law_odd (lv : Nat) : DefC (C__law_odd lv) ["_law_bag_here"] (defArgs (top 15)) (defBody (top 15)) (defScope (top 15)) b__law_odd := ⟨sc__law_odd, rfl, rfl, (show ∀ i ∈ ([0] : List Nat), i < 1 by decide), by kernel_rfl⟩
abbrev M__law_odd : Sem := mkSem [0] [F__law_of] [] [] [] noAt
def F__law_odd : FS := fun args R => ∃ d, args = [.ow d] ∧ BagOk d ∧ ∀ x d', Thing x → BagOk d' → R (.sh x) [.ow d']
theorem p__law_odd : ∀ args R, F__law_odd args R → runF [0] 1 1 (wSs M__law_odd b__law_odd) args R := by
  rintro args R ⟨d, rfl, hd, hR⟩
  refine ⟨rfl, ?_⟩
  unfold b__law_odd
  simp only [dflF, kwF, shs, pickG, pickO, consO, Option.map_some, List.take_nil, wMeth, methD, joinD, strsOf_map, wSs_cons, wSs_nil, Later_nil, wS, wE, wT, wI, wX, wVl, wOl, wAv, mk3, mkT, mkI, opd, wIf, wOr, DL.wAnd, DL.wNot, wBool, wTru, wUn, wOp, wFn, wCons, wNil, wVCons, wVNil, wAvNil, wAvVal, wAvBor, wCall2, wC, wVar, wAndV, wOrV, wNotV, wIte, wLst, wTup, wDct, wChn, wSlc, partE, varOp, asOp, entry, content, resO, resOs, frz, wRet, wRetV, wRetN, wNext, wDrop, wSet, wUnp, wPar, wSti, wBrk, wCnt, wMut, muD, wSeq', wFor, wWhile, wLc, wRng1, wRng2, wZip, itemsD, nth, bindTg, bindTgs, noOw, wipeS, restore, wback_val, wback_nil, wback_bor, List.nodup_nil, List.nodup_cons, List.not_mem_nil, bors, resA, pairD, keyD, le_size, List.replicate_succ, List.replicate_zero, List.length_cons, List.length_nil, List.cons_append, List.nil_append, List.getElem?_cons_zero, List.getElem?_cons_succ, List.getElem?_nil, List.set_cons_zero, List.set_cons_succ, Option.isSome_some, List.map_cons, List.map_nil, List.all_cons, List.all_nil, List.any_cons, List.any_nil, Nat.reduceSub, Nat.reduceAdd, Nat.reduceLT, Nat.reduceLeDiff, reduceIte, reduceCtorEq, Bool.not_true, Bool.not_false, Bool.false_eq_true, and_true, true_and, List.drop_zero, List.drop_succ_cons, List.take_succ_cons, List.take_zero, lenD, intD, boolD, strD, listD, tupleD, allD, anyD, blsD, cmpB, cmpD, binD, addD, subD, mulD, fdivD, modD, powD, negD, idxD, slcD, truD, ltD, gtD, leD, geD, eqD_int, eqD_bl, eqD_str, eqD_non, L2.atI, ixN_lit, Int.reduceToNat, Option.bind_some, List.length_map, List.set_cons_zero, List.set_cons_succ, isNon, inD_ss, inStr_one, isiD, seqOf, lstOf, String.reduceNe, String.reduceEq, ne_eq, not_false_eq_true, not_true_eq_false, Bool.or_true, Bool.or_false, Bool.true_or, Bool.false_or, Bool.and_true, Bool.and_false, Bool.true_and, Bool.false_and, isT_NoneType_bool, isT_NoneType_int, isT_NoneType_str, isT_NoneType_list, isT_NoneType_tuple, isT_NoneType_dict, isT_bool_bool, isT_bool_int, isT_bool_str, isT_bool_list, isT_bool_tuple, isT_bool_dict, isT_int_bool, isT_int_int, isT_int_str, isT_int_list, isT_int_tuple, isT_int_dict, isT_str_bool, isT_str_int, isT_str_str, isT_str_list, isT_str_tuple, isT_str_dict, isT_list_bool, isT_list_int, isT_list_str, isT_list_list, isT_list_tuple, isT_list_dict, isT_tuple_bool, isT_tuple_int, isT_tuple_str, isT_tuple_list, isT_tuple_tuple, isT_tuple_dict, isT_dict_bool, isT_dict_int, isT_dict_str, isT_dict_list, isT_dict_tuple, isT_dict_dict, tyN_non, tyN_bl, tyN_int, tyN_str, tyN_lst, tyN_tup, tyN_klst, tyN_dic]
  refine ⟨d, _, _, rfl, hd, rfl, by decide, by decide, fun x d' hx hd' => ?_⟩
  exact hR x d' (thing_all hx (by decide +kernel)) hd'
theorem ok__law_odd {P : Program} {w : World} {K : PySem.W.Frag} {mg : Str → Option Value} {base : Heap} (V : VE K mg) : ∃ fd, FunD K "_law_odd" "_law_odd" (defArgs (top 15)) (defBody (top 15)) (defScope (top 15)) [] [] (He.ga K "_law_odd") fd ∧ FnOk P w K mg base CX0 3 (He.ga K "_law_odd") fd ["_law_bag_here"] (spOf K F__law_odd) := by
  obtain ⟨fd, Fd⟩ := V.def_ 8 (d := dd "_law_odd" 15 []) rfl
  exact ⟨fd, Fd, fn_ok Fd (d__law_odd 2) (mkTab (.cons (cj__law_of_2 V (by first | decide | omega)) .nil) .nil (show ([] : List (Str × Nat)).all (fun c => decide (c.1 ∈ FR)) = true by decide +kernel) .nil .nil noAt_ok V.free) rfl p__law_odd⟩
theorem cj__law_odd_1 {P : Program} {w : World} {K : PySem.W.Frag} {mg : Str → Option Value} {base : Heap} {lv : Nat} (V : VE K mg) (h : 3 ≤ lv) : CallJ P w K mg base lv "_law_odd" 1 [] F__law_odd := by
  obtain ⟨fd, Fd, F⟩ := ok__law_odd (P := P) (w := w) (base := base) V
  exact callJ F h (V.glo 8 rfl) Fd.kp (FunD.bindsN Fd (fun _ _ _ _ _ _ us hl => match us, hl with | [_], _ => rfl)) 1
def C__law_far (lv : Nat) : CC := { N := ["_law_bag_here", "_law_size"], sc := defScope (top 17), lv := lv, kp := [0], brw := [0], calls := [("_law_draw", 2, []), ("_law_of", 2, [])], bis := [], cons := [], fr := FR }
def b__law_far : List S := [(.set 1 (.call 0 [(.bor 0), (.call 1 [(.bor 0), (.lst [(.int 2), (.int 10), (.int 100), (.int 1000001), (.int 9999990000)])] [])] [])), (.ret (.ite (.cmp .Gt (.call 0 [(.bor 0), (.int 3)] []) (.int 0)) (.var 1) (.neg (.var 1))))]
theorem sc__law_far : FnScope ["_law_bag_here", "_law_size"] ["_law_bag_here"] (defScope (top 17)) := ⟨rfl, rfl, rfl, by decide +kernel, rfl, by decide +kernel, by decide +kernel⟩
theorem d__law_far (lv : Nat) : DefC (C__law_far lv) ["_law_bag_here"] (defArgs (top 17)) (defBody (top 17)) (defScope (top 17)) b__law_far := ⟨sc__law_far, rfl, rfl, (show ∀ i ∈ ([0] : List Nat), i < 1 by decide), by kernel_rfl⟩
abbrev M__law_far : Sem := mkSem [0] [F__law_draw, F__law_of] [] [] [] noAt
def F__law_far : FS := fun args R => ∃ d, args = [.ow d] ∧ BagOk d ∧ ∀ (i : Int) d', -10000000000 < i → i < 10000000000 → BagOk d' → R (.sh (.int i)) [.ow d']
theorem p__law_far : ∀ args R, F__law_far args R → runF [0] 1 2 (wSs M__law_far b__law_far) args R := by
  rintro args R ⟨d, rfl, hd, hR⟩
  refine ⟨rfl, ?_⟩
  unfold b__law_far
  simp only [dflF, kwF, shs, pickG, pickO, consO, Option.map_some, List.take_nil, wMeth, methD, joinD, strsOf_map, wSs_cons, wSs_nil, Later_nil, wS, wE, wT, wI, wX, wVl, wOl, wAv, mk3, mkT, mkI, opd, wIf, wOr, DL.wAnd, DL.wNot, wBool, wTru, wUn, wOp, wFn, wCons, wNil, wVCons, wVNil, wAvNil, wAvVal, wAvBor, wCall2, wC, wVar, wAndV, wOrV, wNotV, wIte, wLst, wTup, wDct, wChn, wSlc, partE, varOp, asOp, entry, content, resO, resOs, frz, wRet, wRetV, wRetN, wNext, wDrop, wSet, wUnp, wPar, wSti, wBrk, wCnt, wMut, muD, wSeq', wFor, wWhile, wLc, wRng1, wRng2, wZip, itemsD, nth, bindTg, bindTgs, noOw, wipeS, restore, wback_val, wback_nil, wback_bor, List.nodup_nil, List.nodup_cons, List.not_mem_nil, bors, resA, pairD, keyD, le_size, List.replicate_succ, List.replicate_zero, List.length_cons, List.length_nil, List.cons_append, List.nil_append, List.getElem?_cons_zero, List.getElem?_cons_succ, List.getElem?_nil, List.set_cons_zero, List.set_cons_succ, Option.isSome_some, List.map_cons, List.map_nil, List.all_cons, List.all_nil, List.any_cons, List.any_nil, Nat.reduceSub, Nat.reduceAdd, Nat.reduceLT, Nat.reduceLeDiff, reduceIte, reduceCtorEq, Bool.not_true, Bool.not_false, Bool.false_eq_true, and_true, true_and, List.drop_zero, List.drop_succ_cons, List.take_succ_cons, List.take_zero, lenD, intD, boolD, strD, listD, tupleD, allD, anyD, blsD, cmpB, cmpD, binD, addD, subD, mulD, fdivD, modD, powD, negD, idxD, slcD, truD, ltD, gtD, leD, geD, eqD_int, eqD_bl, eqD_str, eqD_non, L2.atI, ixN_lit, Int.reduceToNat, Option.bind_some, List.length_map, List.set_cons_zero, List.set_cons_succ, isNon, inD_ss, inStr_one, isiD, seqOf, lstOf, String.reduceNe, String.reduceEq, ne_eq, not_false_eq_true, not_true_eq_false, Bool.or_true, Bool.or_false, Bool.true_or, Bool.false_or, Bool.and_true, Bool.and_false, Bool.true_and, Bool.false_and, isT_NoneType_bool, isT_NoneType_int, isT_NoneType_str, isT_NoneType_list, isT_NoneType_tuple, isT_NoneType_dict, isT_bool_bool, isT_bool_int, isT_bool_str, isT_bool_list, isT_bool_tuple, isT_bool_dict, isT_int_bool, isT_int_int, isT_int_str, isT_int_list, isT_int_tuple, isT_int_dict, isT_str_bool, isT_str_int, isT_str_str, isT_str_list, isT_str_tuple, isT_str_dict, isT_list_bool, isT_list_int, isT_list_str, isT_list_list, isT_list_tuple, isT_list_dict, isT_tuple_bool, isT_tuple_int, isT_tuple_str, isT_tuple_list, isT_tuple_tuple, isT_tuple_dict, isT_dict_bool, isT_dict_int, isT_dict_str, isT_dict_list, isT_dict_tuple, isT_dict_dict, tyN_non, tyN_bl, tyN_int, tyN_str, tyN_lst, tyN_tup, tyN_klst, tyN_dic]
  refine ⟨d, _, _, rfl, hd, rfl, by decide, by decide, fun x d' hx hd' => ?_⟩
  obtain ⟨n, rfl, h1, h2⟩ := pos_all hx (by decide +kernel)
  simp only [dflF, kwF, shs, pickG, pickO, consO, Option.map_some, List.take_nil, wMeth, methD, joinD, strsOf_map, wSs_cons, wSs_nil, Later_nil, wS, wE, wT, wI, wX, wVl, wOl, wAv, mk3, mkT, mkI, opd, wIf, wOr, DL.wAnd, DL.wNot, wBool, wTru, wUn, wOp, wFn, wCons, wNil, wVCons, wVNil, wAvNil, wAvVal, wAvBor, wCall2, wC, wVar, wAndV, wOrV, wNotV, wIte, wLst, wTup, wDct, wChn, wSlc, partE, varOp, asOp, entry, content, resO, resOs, frz, wRet, wRetV, wRetN, wNext, wDrop, wSet, wUnp, wPar, wSti, wBrk, wCnt, wMut, muD, wSeq', wFor, wWhile, wLc, wRng1, wRng2, wZip, itemsD, nth, bindTg, bindTgs, noOw, wipeS, restore, wback_val, wback_nil, wback_bor, List.nodup_nil, List.nodup_cons, List.not_mem_nil, bors, resA, pairD, keyD, le_size, List.replicate_succ, List.replicate_zero, List.length_cons, List.length_nil, List.cons_append, List.nil_append, List.getElem?_cons_zero, List.getElem?_cons_succ, List.getElem?_nil, List.set_cons_zero, List.set_cons_succ, Option.isSome_some, List.map_cons, List.map_nil, List.all_cons, List.all_nil, List.any_cons, List.any_nil, Nat.reduceSub, Nat.reduceAdd, Nat.reduceLT, Nat.reduceLeDiff, reduceIte, reduceCtorEq, Bool.not_true, Bool.not_false, Bool.false_eq_true, and_true, true_and, List.drop_zero, List.drop_succ_cons, List.take_succ_cons, List.take_zero, lenD, intD, boolD, strD, listD, tupleD, allD, anyD, blsD, cmpB, cmpD, binD, addD, subD, mulD, fdivD, modD, powD, negD, idxD, slcD, truD, ltD, gtD, leD, geD, eqD_int, eqD_bl, eqD_str, eqD_non, L2.atI, ixN_lit, Int.reduceToNat, Option.bind_some, List.length_map, List.set_cons_zero, List.set_cons_succ, isNon, inD_ss, inStr_one, isiD, seqOf, lstOf, String.reduceNe, String.reduceEq, ne_eq, not_false_eq_true, not_true_eq_false, Bool.or_true, Bool.or_false, Bool.true_or, Bool.false_or, Bool.and_true, Bool.and_false, Bool.true_and, Bool.false_and, isT_NoneType_bool, isT_NoneType_int, isT_NoneType_str, isT_NoneType_list, isT_NoneType_tuple, isT_NoneType_dict, isT_bool_bool, isT_bool_int, isT_bool_str, isT_bool_list, isT_bool_tuple, isT_bool_dict, isT_int_bool, isT_int_int, isT_int_str, isT_int_list, isT_int_tuple, isT_int_dict, isT_str_bool, isT_str_int, isT_str_str, isT_str_list, isT_str_tuple, isT_str_dict, isT_list_bool, isT_list_int, isT_list_str, isT_list_list, isT_list_tuple, isT_list_dict, isT_tuple_bool, isT_tuple_int, isT_tuple_str, isT_tuple_list, isT_tuple_tuple, isT_tuple_dict, isT_dict_bool, isT_dict_int, isT_dict_str, isT_dict_list, isT_dict_tuple, isT_dict_dict, tyN_non, tyN_bl, tyN_int, tyN_str, tyN_lst, tyN_tup, tyN_klst, tyN_dic]
  refine ⟨d', n, rfl, hd', h1, by omega, fun v d2 h3 h4 hd2 => ?_⟩
  simp only [dflF, kwF, shs, pickG, pickO, consO, Option.map_some, List.take_nil, wMeth, methD, joinD, strsOf_map, wSs_cons, wSs_nil, Later_nil, wS, wE, wT, wI, wX, wVl, wOl, wAv, mk3, mkT, mkI, opd, wIf, wOr, DL.wAnd, DL.wNot, wBool, wTru, wUn, wOp, wFn, wCons, wNil, wVCons, wVNil, wAvNil, wAvVal, wAvBor, wCall2, wC, wVar, wAndV, wOrV, wNotV, wIte, wLst, wTup, wDct, wChn, wSlc, partE, varOp, asOp, entry, content, resO, resOs, frz, wRet, wRetV, wRetN, wNext, wDrop, wSet, wUnp, wPar, wSti, wBrk, wCnt, wMut, muD, wSeq', wFor, wWhile, wLc, wRng1, wRng2, wZip, itemsD, nth, bindTg, bindTgs, noOw, wipeS, restore, wback_val, wback_nil, wback_bor, List.nodup_nil, List.nodup_cons, List.not_mem_nil, bors, resA, pairD, keyD, le_size, List.replicate_succ, List.replicate_zero, List.length_cons, List.length_nil, List.cons_append, List.nil_append, List.getElem?_cons_zero, List.getElem?_cons_succ, List.getElem?_nil, List.set_cons_zero, List.set_cons_succ, Option.isSome_some, List.map_cons, List.map_nil, List.all_cons, List.all_nil, List.any_cons, List.any_nil, Nat.reduceSub, Nat.reduceAdd, Nat.reduceLT, Nat.reduceLeDiff, reduceIte, reduceCtorEq, Bool.not_true, Bool.not_false, Bool.false_eq_true, and_true, true_and, List.drop_zero, List.drop_succ_cons, List.take_succ_cons, List.take_zero, lenD, intD, boolD, strD, listD, tupleD, allD, anyD, blsD, cmpB, cmpD, binD, addD, subD, mulD, fdivD, modD, powD, negD, idxD, slcD, truD, ltD, gtD, leD, geD, eqD_int, eqD_bl, eqD_str, eqD_non, L2.atI, ixN_lit, Int.reduceToNat, Option.bind_some, List.length_map, List.set_cons_zero, List.set_cons_succ, isNon, inD_ss, inStr_one, isiD, seqOf, lstOf, String.reduceNe, String.reduceEq, ne_eq, not_false_eq_true, not_true_eq_false, Bool.or_true, Bool.or_false, Bool.true_or, Bool.false_or, Bool.and_true, Bool.and_false, Bool.true_and, Bool.false_and, isT_NoneType_bool, isT_NoneType_int, isT_NoneType_str, isT_NoneType_list, isT_NoneType_tuple, isT_NoneType_dict, isT_bool_bool, isT_bool_int, isT_bool_str, isT_bool_list, isT_bool_tuple, isT_bool_dict, isT_int_bool, isT_int_int, isT_int_str, isT_int_list, isT_int_tuple, isT_int_dict, isT_str_bool, isT_str_int, isT_str_str, isT_str_list, isT_str_tuple, isT_str_dict, isT_list_bool, isT_list_int, isT_list_str, isT_list_list, isT_list_tuple, isT_list_dict, isT_tuple_bool, isT_tuple_int, isT_tuple_str, isT_tuple_list, isT_tuple_tuple, isT_tuple_dict, isT_dict_bool, isT_dict_int, isT_dict_str, isT_dict_list, isT_dict_tuple, isT_dict_dict, tyN_non, tyN_bl, tyN_int, tyN_str, tyN_lst, tyN_tup, tyN_klst, tyN_dic]
  (refine later ?_; simp only [dflF, kwF, shs, pickG, pickO, consO, Option.map_some, List.take_nil, wMeth, methD, joinD, strsOf_map, wSs_cons, wSs_nil, Later_nil, wS, wE, wT, wI, wX, wVl, wOl, wAv, mk3, mkT, mkI, opd, wIf, wOr, DL.wAnd, DL.wNot, wBool, wTru, wUn, wOp, wFn, wCons, wNil, wVCons, wVNil, wAvNil, wAvVal, wAvBor, wCall2, wC, wVar, wAndV, wOrV, wNotV, wIte, wLst, wTup, wDct, wChn, wSlc, partE, varOp, asOp, entry, content, resO, resOs, frz, wRet, wRetV, wRetN, wNext, wDrop, wSet, wUnp, wPar, wSti, wBrk, wCnt, wMut, muD, wSeq', wFor, wWhile, wLc, wRng1, wRng2, wZip, itemsD, nth, bindTg, bindTgs, noOw, wipeS, restore, wback_val, wback_nil, wback_bor, List.nodup_nil, List.nodup_cons, List.not_mem_nil, bors, resA, pairD, keyD, le_size, List.replicate_succ, List.replicate_zero, List.length_cons, List.length_nil, List.cons_append, List.nil_append, List.getElem?_cons_zero, List.getElem?_cons_succ, List.getElem?_nil, List.set_cons_zero, List.set_cons_succ, Option.isSome_some, List.map_cons, List.map_nil, List.all_cons, List.all_nil, List.any_cons, List.any_nil, Nat.reduceSub, Nat.reduceAdd, Nat.reduceLT, Nat.reduceLeDiff, reduceIte, reduceCtorEq, Bool.not_true, Bool.not_false, Bool.false_eq_true, and_true, true_and, List.drop_zero, List.drop_succ_cons, List.take_succ_cons, List.take_zero, lenD, intD, boolD, strD, listD, tupleD, allD, anyD, blsD, cmpB, cmpD, binD, addD, subD, mulD, fdivD, modD, powD, negD, idxD, slcD, truD, ltD, gtD, leD, geD, eqD_int, eqD_bl, eqD_str, eqD_non, L2.atI, ixN_lit, Int.reduceToNat, Option.bind_some, List.length_map, List.set_cons_zero, List.set_cons_succ, isNon, inD_ss, inStr_one, isiD, seqOf, lstOf, String.reduceNe, String.reduceEq, ne_eq, not_false_eq_true, not_true_eq_false, Bool.or_true, Bool.or_false, Bool.true_or, Bool.false_or, Bool.and_true, Bool.and_false, Bool.true_and, Bool.false_and, isT_NoneType_bool, isT_NoneType_int, isT_NoneType_str, isT_NoneType_list, isT_NoneType_tuple, isT_NoneType_dict, isT_bool_bool, isT_bool_int, isT_bool_str, isT_bool_list, isT_bool_tuple, isT_bool_dict, isT_int_bool, isT_int_int, isT_int_str, isT_int_list, isT_int_tuple, isT_int_dict, isT_str_bool, isT_str_int, isT_str_str, isT_str_list, isT_str_tuple, isT_str_dict, isT_list_bool, isT_list_int, isT_list_str, isT_list_list, isT_list_tuple, isT_list_dict, isT_tuple_bool, isT_tuple_int, isT_tuple_str, isT_tuple_list, isT_tuple_tuple, isT_tuple_dict, isT_dict_bool, isT_dict_int, isT_dict_str, isT_dict_list, isT_dict_tuple, isT_dict_dict, tyN_non, tyN_bl, tyN_int, tyN_str, tyN_lst, tyN_tup, tyN_klst, tyN_dic])
  refine ⟨d2, 3, rfl, hd2, by decide, by decide, fun v2 d3 h5 h6 hd3 => ?_⟩
  simp only [dflF, kwF, shs, pickG, pickO, consO, Option.map_some, List.take_nil, wMeth, methD, joinD, strsOf_map, wSs_cons, wSs_nil, Later_nil, wS, wE, wT, wI, wX, wVl, wOl, wAv, mk3, mkT, mkI, opd, wIf, wOr, DL.wAnd, DL.wNot, wBool, wTru, wUn, wOp, wFn, wCons, wNil, wVCons, wVNil, wAvNil, wAvVal, wAvBor, wCall2, wC, wVar, wAndV, wOrV, wNotV, wIte, wLst, wTup, wDct, wChn, wSlc, partE, varOp, asOp, entry, content, resO, resOs, frz, wRet, wRetV, wRetN, wNext, wDrop, wSet, wUnp, wPar, wSti, wBrk, wCnt, wMut, muD, wSeq', wFor, wWhile, wLc, wRng1, wRng2, wZip, itemsD, nth, bindTg, bindTgs, noOw, wipeS, restore, wback_val, wback_nil, wback_bor, List.nodup_nil, List.nodup_cons, List.not_mem_nil, bors, resA, pairD, keyD, le_size, List.replicate_succ, List.replicate_zero, List.length_cons, List.length_nil, List.cons_append, List.nil_append, List.getElem?_cons_zero, List.getElem?_cons_succ, List.getElem?_nil, List.set_cons_zero, List.set_cons_succ, Option.isSome_some, List.map_cons, List.map_nil, List.all_cons, List.all_nil, List.any_cons, List.any_nil, Nat.reduceSub, Nat.reduceAdd, Nat.reduceLT, Nat.reduceLeDiff, reduceIte, reduceCtorEq, Bool.not_true, Bool.not_false, Bool.false_eq_true, and_true, true_and, List.drop_zero, List.drop_succ_cons, List.take_succ_cons, List.take_zero, lenD, intD, boolD, strD, listD, tupleD, allD, anyD, blsD, cmpB, cmpD, binD, addD, subD, mulD, fdivD, modD, powD, negD, idxD, slcD, truD, ltD, gtD, leD, geD, eqD_int, eqD_bl, eqD_str, eqD_non, L2.atI, ixN_lit, Int.reduceToNat, Option.bind_some, List.length_map, List.set_cons_zero, List.set_cons_succ, isNon, inD_ss, inStr_one, isiD, seqOf, lstOf, String.reduceNe, String.reduceEq, ne_eq, not_false_eq_true, not_true_eq_false, Bool.or_true, Bool.or_false, Bool.true_or, Bool.false_or, Bool.and_true, Bool.and_false, Bool.true_and, Bool.false_and, isT_NoneType_bool, isT_NoneType_int, isT_NoneType_str, isT_NoneType_list, isT_NoneType_tuple, isT_NoneType_dict, isT_bool_bool, isT_bool_int, isT_bool_str, isT_bool_list, isT_bool_tuple, isT_bool_dict, isT_int_bool, isT_int_int, isT_int_str, isT_int_list, isT_int_tuple, isT_int_dict, isT_str_bool, isT_str_int, isT_str_str, isT_str_list, isT_str_tuple, isT_str_dict, isT_list_bool, isT_list_int, isT_list_str, isT_list_list, isT_list_tuple, isT_list_dict, isT_tuple_bool, isT_tuple_int, isT_tuple_str, isT_tuple_list, isT_tuple_tuple, isT_tuple_dict, isT_dict_bool, isT_dict_int, isT_dict_str, isT_dict_list, isT_dict_tuple, isT_dict_dict, tyN_non, tyN_bl, tyN_int, tyN_str, tyN_lst, tyN_tup, tyN_klst, tyN_dic]
  split
  · exact hR v d3 (by omega) (by omega) hd3
  · exact hR (-v) d3 (by omega) (by omega) hd3
theorem ok__law_far {P : Program} {w : World} {K : PySem.W.Frag} {mg : Str → Option Value} {base : Heap} (V : VE K mg) : ∃ fd, FunD K "_law_far" "_law_far" (defArgs (top 17)) (defBody (top 17)) (defScope (top 17)) [] [] (He.ga K "_law_far") fd ∧ FnOk P w K mg base CX0 3 (He.ga K "_law_far") fd ["_law_bag_here"] (spOf K F__law_far) := by
  obtain ⟨fd, Fd⟩ := V.def_ 10 (d := dd "_law_far" 17 []) rfl
  exact ⟨fd, Fd, fn_ok Fd (d__law_far 2) (mkTab (.cons (cj__law_draw_2 V (by first | decide | omega)) (.cons (cj__law_of_2 V (by first | decide | omega)) .nil)) .nil (show ([] : List (Str × Nat)).all (fun c => decide (c.1 ∈ FR)) = true by decide +kernel) .nil .nil noAt_ok V.free) rfl p__law_far⟩
theorem cj__law_far_1 {P : Program} {w : World} {K : PySem.W.Frag} {mg : Str → Option Value} {base : Heap} {lv : Nat} (V : VE K mg) (h : 3 ≤ lv) : CallJ P w K mg base lv "_law_far" 1 [] F__law_far := by
  obtain ⟨fd, Fd, F⟩ := ok__law_far (P := P) (w := w) (base := base) V
  exact callJ F h (V.glo 10 rfl) Fd.kp (FunD.bindsN Fd (fun _ _ _ _ _ _ us hl => match us, hl with | [_], _ => rfl)) 1
def C__law_text (lv : Nat) : CC := { N := ["_law_bag_here", "_law_pick", "_law_signs", "_law_many", "_law_found", "_law_k"], sc := defScope (top 18), lv := lv, kp := [0], brw := [0], calls := [("_law_draw", 2, []), ("_law_of", 2, [])], bis := [], cons := [], fr := FR }
def b__law_text : List S := [(.set 1 (.call 0 [(.bor 0), (.int 4)] [])), (.set 2 (.str "abcdefghijklmnopqrstuvwxyz")), (.ifs (.cmp .Eq (.var 1) (.int 0)) [(.set 2 (.str "abzABZ019_- .\n\tcar"))] []), (.set 3 (.call 1 [(.bor 0), (.lst [(.int 0), (.int 1), (.int 2), (.int 7), (.int 8), (.int 8), (.int 9), (.int 9), (.int 12), (.call 0 [(.bor 0), (.int 10)] [])])] [])), (.set 4 (.lc (.call 1 [(.bor 0), (.var 2)] []) (.nm 5) (.rng [(.var 3)]) [] [5])), (.ifs (.and (.cmp .Eq (.var 1) (.int 1)) (.cmp .Gt (.var 3) (.int 0))) [(.sti 4 (.call 0 [(.bor 0), (.var 3)] []) (.call 1 [(.bor 0), (.lst [(.str "A"), (.str "Z"), (.str "0"), (.str "_"), (.str " "), (.str "\n"), (.str "{"), (.str "@")])] []))] []), (.ret (.meth "join" (.str "") [(.var 4)]))]
theorem sc__law_text : FnScope ["_law_bag_here", "_law_pick", "_law_signs", "_law_many", "_law_found", "_law_k"] ["_law_bag_here"] (defScope (top 18)) := ⟨rfl, rfl, rfl, by decide +kernel, rfl, by decide +kernel, by decide +kernel⟩
theorem d__law_text (lv : Nat) : DefC (C__law_text lv) ["_law_bag_here"] (defArgs (top 18)) (defBody (top 18)) (defScope (top 18)) b__law_text := ⟨sc__law_text, rfl, rfl, (show ∀ i ∈ ([0] : List Nat), i < 1 by decide), by kernel_rfl⟩
abbrev M__law_text : Sem := mkSem [0] [F__law_draw, F__law_of] [] [] [] noAt
def F__law_text : FS := fun args R => ∃ d, args = [.ow d] ∧ BagOk d ∧ ∀ z d', z.length ≤ 100 → okS z → BagOk d' → R (.sh (.str z)) [.ow d']
/-- a text's pieces -/
def Bits (zs : List Str) : Prop := ∀ z ∈ zs, z.length ≤ 1 ∧ ∀ c ∈ z.cps.toList, c < 0x110000
theorem bits_of : ∀ {rs : List D}, (∀ y ∈ rs, ∃ z, y = .str z ∧ z.length ≤ 1 ∧ ∀ c ∈ z.cps.toList, c < 0x110000) → ∃ zs : List Str, rs = zs.map .str ∧ Bits zs
  | [], h => ⟨[], rfl, fun z m => by cases m⟩
  | y :: rs, h => by
    obtain ⟨z, rfl, h1, h2⟩ := h y (.head _)
    obtain ⟨zs, rfl, hz⟩ := bits_of fun y m => h y (.tail _ m)
    exact ⟨z :: zs, rfl, fun x m => (List.mem_cons.mp m).elim (fun e => e ▸ ⟨h1, h2⟩) (hz x)⟩
theorem mem_joinL : ∀ {ls : List (List Nat)} {c : Nat}, c ∈ TL.joinL [] ls → ∃ l ∈ ls, c ∈ l
  | [], c, h => by cases h
  | [p], c, h => ⟨p, .head _, h⟩
  | p :: q :: r, c, h => by
    have h' : c ∈ p ++ ([] ++ TL.joinL [] (q :: r)) := h
    rw [List.nil_append, List.mem_append] at h'
    rcases h' with h' | h'
    · exact ⟨p, .head _, h'⟩
    · obtain ⟨l, m, hc⟩ := mem_joinL h'
      exact ⟨l, .tail _ m, hc⟩
theorem bits_sum : ∀ {zs : List Str}, Bits zs → (zs.map (·.length)).sum ≤ zs.length
  | [], h => Nat.le_refl _
  | z :: zs, h => by
    have ih := bits_sum (zs := zs) fun z m => h z (.tail _ m)
    have h1 := (h z (.head _)).1
    rw [List.map_cons, List.sum_cons, List.length_cons]
    omega
theorem join_ok {e : Str} (he : e.cps.toList = []) {zs : List Str} (h : Bits zs) (hl : zs.length ≤ 100) : (Txt.join e zs).length ≤ 100 ∧ okS (Txt.join e zs) := by
  rw [TL.join_eq]
  have h0 : e.length = 0 := by rw [TL.len_tl]; show e.cps.toList.length = 0; rw [he]; rfl
  have h1 := StrLaws.join_length_le e zs
  have h2 := bits_sum h
  rw [h0] at h1
  refine ⟨by omega, by omega, fun c hc => ?_⟩
  have hc' : c ∈ TL.tl (Str.join e zs) := hc
  rw [TL.tl_join, show TL.tl e = [] from he] at hc'
  obtain ⟨l, m, hc⟩ := mem_joinL hc'
  rw [List.mem_map] at m
  obtain ⟨z, m, rfl⟩ := m
  exact (h z m).2 c hc
theorem bits_set {zs : List Str} {j : Nat} {z : Str} (h : Bits zs) (hz : z.length ≤ 1 ∧ ∀ c ∈ z.cps.toList, c < 0x110000) : Bits (zs.set j z) := fun x m => by
  rcases List.mem_or_eq_of_mem_set m with m | rfl
  · exact h x m
  · exact hz
def bitB : D → Bool
  | .str z => decide (z.length ≤ 1) && z.cps.toList.all fun c => decide (c < 0x110000)
  | _ => false
theorem bit_of {x : D} (h : bitB x = true) : ∃ z, x = .str z ∧ z.length ≤ 1 ∧ ∀ c ∈ z.cps.toList, c < 0x110000 := by
  cases x with
  | str z =>
    have h' : (decide (z.length ≤ 1) && z.cps.toList.all fun c => decide (c < 0x110000)) = true := h
    rw [Bool.and_eq_true] at h'
    exact ⟨z, rfl, of_decide_eq_true h'.1, fun c hc => of_decide_eq_true (List.all_eq_true.mp h'.2 c hc)⟩
  | _ => cases h
theorem p__law_text : ∀ args R, F__law_text args R → runF [0] 1 6 (wSs M__law_text b__law_text) args R := by
  rintro args R ⟨d, rfl, hd, hR⟩
  refine ⟨rfl, ?_⟩
  have tail : ∀ (sg : Str) (v : Int) (d2 : D), 0 < sg.length → sg.length ≤ 100 → (∀ c ∈ sg.cps.toList, c < 0x110000) → BagOk d2 → Later M__law_text (b__law_text.drop 3) (topN [0] 1 R) [.ow d2, .sh (.int v), .sh (.str sg), .no, .no, .no] := by
    intro sg v d2 hs0 hs1 hsc hd2
    refine later ?_
    unfold b__law_text
    simp only [dflF, kwF, shs, pickG, pickO, consO, Option.map_some, List.take_nil, wMeth, methD, joinD, strsOf_map, wSs_cons, wSs_nil, Later_nil, wS, wE, wT, wI, wX, wVl, wOl, wAv, mk3, mkT, mkI, opd, wIf, wOr, DL.wAnd, DL.wNot, wBool, wTru, wUn, wOp, wFn, wCons, wNil, wVCons, wVNil, wAvNil, wAvVal, wAvBor, wCall2, wC, wVar, wAndV, wOrV, wNotV, wIte, wLst, wTup, wDct, wChn, wSlc, partE, varOp, asOp, entry, content, resO, resOs, frz, wRet, wRetV, wRetN, wNext, wDrop, wSet, wUnp, wPar, wSti, wBrk, wCnt, wMut, muD, wSeq', wFor, wWhile, wLc, wRng1, wRng2, wZip, itemsD, nth, bindTg, bindTgs, noOw, wipeS, restore, wback_val, wback_nil, wback_bor, List.nodup_nil, List.nodup_cons, List.not_mem_nil, bors, resA, pairD, keyD, le_size, List.replicate_succ, List.replicate_zero, List.length_cons, List.length_nil, List.cons_append, List.nil_append, List.getElem?_cons_zero, List.getElem?_cons_succ, List.getElem?_nil, List.set_cons_zero, List.set_cons_succ, Option.isSome_some, List.map_cons, List.map_nil, List.all_cons, List.all_nil, List.any_cons, List.any_nil, Nat.reduceSub, Nat.reduceAdd, Nat.reduceLT, Nat.reduceLeDiff, reduceIte, reduceCtorEq, Bool.not_true, Bool.not_false, Bool.false_eq_true, and_true, true_and, List.drop_zero, List.drop_succ_cons, List.take_succ_cons, List.take_zero, lenD, intD, boolD, strD, listD, tupleD, allD, anyD, blsD, cmpB, cmpD, binD, addD, subD, mulD, fdivD, modD, powD, negD, idxD, slcD, truD, ltD, gtD, leD, geD, eqD_int, eqD_bl, eqD_str, eqD_non, L2.atI, ixN_lit, Int.reduceToNat, Option.bind_some, List.length_map, List.set_cons_zero, List.set_cons_succ, isNon, inD_ss, inStr_one, isiD, seqOf, lstOf, String.reduceNe, String.reduceEq, ne_eq, not_false_eq_true, not_true_eq_false, Bool.or_true, Bool.or_false, Bool.true_or, Bool.false_or, Bool.and_true, Bool.and_false, Bool.true_and, Bool.false_and, isT_NoneType_bool, isT_NoneType_int, isT_NoneType_str, isT_NoneType_list, isT_NoneType_tuple, isT_NoneType_dict, isT_bool_bool, isT_bool_int, isT_bool_str, isT_bool_list, isT_bool_tuple, isT_bool_dict, isT_int_bool, isT_int_int, isT_int_str, isT_int_list, isT_int_tuple, isT_int_dict, isT_str_bool, isT_str_int, isT_str_str, isT_str_list, isT_str_tuple, isT_str_dict, isT_list_bool, isT_list_int, isT_list_str, isT_list_list, isT_list_tuple, isT_list_dict, isT_tuple_bool, isT_tuple_int, isT_tuple_str, isT_tuple_list, isT_tuple_tuple, isT_tuple_dict, isT_dict_bool, isT_dict_int, isT_dict_str, isT_dict_list, isT_dict_tuple, isT_dict_dict, tyN_non, tyN_bl, tyN_int, tyN_str, tyN_lst, tyN_tup, tyN_klst, tyN_dic]
    refine ⟨d2, 10, rfl, hd2, by decide, by decide, fun w d3 h3 h4 hd3 => ?_⟩
    simp only [dflF, kwF, shs, pickG, pickO, consO, Option.map_some, List.take_nil, wMeth, methD, joinD, strsOf_map, wSs_cons, wSs_nil, Later_nil, wS, wE, wT, wI, wX, wVl, wOl, wAv, mk3, mkT, mkI, opd, wIf, wOr, DL.wAnd, DL.wNot, wBool, wTru, wUn, wOp, wFn, wCons, wNil, wVCons, wVNil, wAvNil, wAvVal, wAvBor, wCall2, wC, wVar, wAndV, wOrV, wNotV, wIte, wLst, wTup, wDct, wChn, wSlc, partE, varOp, asOp, entry, content, resO, resOs, frz, wRet, wRetV, wRetN, wNext, wDrop, wSet, wUnp, wPar, wSti, wBrk, wCnt, wMut, muD, wSeq', wFor, wWhile, wLc, wRng1, wRng2, wZip, itemsD, nth, bindTg, bindTgs, noOw, wipeS, restore, wback_val, wback_nil, wback_bor, List.nodup_nil, List.nodup_cons, List.not_mem_nil, bors, resA, pairD, keyD, le_size, List.replicate_succ, List.replicate_zero, List.length_cons, List.length_nil, List.cons_append, List.nil_append, List.getElem?_cons_zero, List.getElem?_cons_succ, List.getElem?_nil, List.set_cons_zero, List.set_cons_succ, Option.isSome_some, List.map_cons, List.map_nil, List.all_cons, List.all_nil, List.any_cons, List.any_nil, Nat.reduceSub, Nat.reduceAdd, Nat.reduceLT, Nat.reduceLeDiff, reduceIte, reduceCtorEq, Bool.not_true, Bool.not_false, Bool.false_eq_true, and_true, true_and, List.drop_zero, List.drop_succ_cons, List.take_succ_cons, List.take_zero, lenD, intD, boolD, strD, listD, tupleD, allD, anyD, blsD, cmpB, cmpD, binD, addD, subD, mulD, fdivD, modD, powD, negD, idxD, slcD, truD, ltD, gtD, leD, geD, eqD_int, eqD_bl, eqD_str, eqD_non, L2.atI, ixN_lit, Int.reduceToNat, Option.bind_some, List.length_map, List.set_cons_zero, List.set_cons_succ, isNon, inD_ss, inStr_one, isiD, seqOf, lstOf, String.reduceNe, String.reduceEq, ne_eq, not_false_eq_true, not_true_eq_false, Bool.or_true, Bool.or_false, Bool.true_or, Bool.false_or, Bool.and_true, Bool.and_false, Bool.true_and, Bool.false_and, isT_NoneType_bool, isT_NoneType_int, isT_NoneType_str, isT_NoneType_list, isT_NoneType_tuple, isT_NoneType_dict, isT_bool_bool, isT_bool_int, isT_bool_str, isT_bool_list, isT_bool_tuple, isT_bool_dict, isT_int_bool, isT_int_int, isT_int_str, isT_int_list, isT_int_tuple, isT_int_dict, isT_str_bool, isT_str_int, isT_str_str, isT_str_list, isT_str_tuple, isT_str_dict, isT_list_bool, isT_list_int, isT_list_str, isT_list_list, isT_list_tuple, isT_list_dict, isT_tuple_bool, isT_tuple_int, isT_tuple_str, isT_tuple_list, isT_tuple_tuple, isT_tuple_dict, isT_dict_bool, isT_dict_int, isT_dict_str, isT_dict_list, isT_dict_tuple, isT_dict_dict, tyN_non, tyN_bl, tyN_int, tyN_str, tyN_lst, tyN_tup, tyN_klst, tyN_dic]
    refine ⟨d3, _, _, rfl, hd3, rfl, by show 0 < 10; decide, by show 10 ≤ 1000000; decide, fun x d4 hx hd4 => ?_⟩
    have hm : ∃ m, x = .int m ∧ 0 ≤ m ∧ m ≤ 12 := by
      simp only [List.mem_cons, List.not_mem_nil, or_false] at hx
      rcases hx with rfl | rfl | rfl | rfl | rfl | rfl | rfl | rfl | rfl | rfl
      all_goals exact ⟨_, rfl, by omega, by omega⟩
    obtain ⟨m, rfl, hm0, hm1⟩ := hm
    simp only [dflF, kwF, shs, pickG, pickO, consO, Option.map_some, List.take_nil, wMeth, methD, joinD, strsOf_map, wSs_cons, wSs_nil, Later_nil, wS, wE, wT, wI, wX, wVl, wOl, wAv, mk3, mkT, mkI, opd, wIf, wOr, DL.wAnd, DL.wNot, wBool, wTru, wUn, wOp, wFn, wCons, wNil, wVCons, wVNil, wAvNil, wAvVal, wAvBor, wCall2, wC, wVar, wAndV, wOrV, wNotV, wIte, wLst, wTup, wDct, wChn, wSlc, partE, varOp, asOp, entry, content, resO, resOs, frz, wRet, wRetV, wRetN, wNext, wDrop, wSet, wUnp, wPar, wSti, wBrk, wCnt, wMut, muD, wSeq', wFor, wWhile, wLc, wRng1, wRng2, wZip, itemsD, nth, bindTg, bindTgs, noOw, wipeS, restore, wback_val, wback_nil, wback_bor, List.nodup_nil, List.nodup_cons, List.not_mem_nil, bors, resA, pairD, keyD, le_size, List.replicate_succ, List.replicate_zero, List.length_cons, List.length_nil, List.cons_append, List.nil_append, List.getElem?_cons_zero, List.getElem?_cons_succ, List.getElem?_nil, List.set_cons_zero, List.set_cons_succ, Option.isSome_some, List.map_cons, List.map_nil, List.all_cons, List.all_nil, List.any_cons, List.any_nil, Nat.reduceSub, Nat.reduceAdd, Nat.reduceLT, Nat.reduceLeDiff, reduceIte, reduceCtorEq, Bool.not_true, Bool.not_false, Bool.false_eq_true, and_true, true_and, List.drop_zero, List.drop_succ_cons, List.take_succ_cons, List.take_zero, lenD, intD, boolD, strD, listD, tupleD, allD, anyD, blsD, cmpB, cmpD, binD, addD, subD, mulD, fdivD, modD, powD, negD, idxD, slcD, truD, ltD, gtD, leD, geD, eqD_int, eqD_bl, eqD_str, eqD_non, L2.atI, ixN_lit, Int.reduceToNat, Option.bind_some, List.length_map, List.set_cons_zero, List.set_cons_succ, isNon, inD_ss, inStr_one, isiD, seqOf, lstOf, String.reduceNe, String.reduceEq, ne_eq, not_false_eq_true, not_true_eq_false, Bool.or_true, Bool.or_false, Bool.true_or, Bool.false_or, Bool.and_true, Bool.and_false, Bool.true_and, Bool.false_and, isT_NoneType_bool, isT_NoneType_int, isT_NoneType_str, isT_NoneType_list, isT_NoneType_tuple, isT_NoneType_dict, isT_bool_bool, isT_bool_int, isT_bool_str, isT_bool_list, isT_bool_tuple, isT_bool_dict, isT_int_bool, isT_int_int, isT_int_str, isT_int_list, isT_int_tuple, isT_int_dict, isT_str_bool, isT_str_int, isT_str_str, isT_str_list, isT_str_tuple, isT_str_dict, isT_list_bool, isT_list_int, isT_list_str, isT_list_list, isT_list_tuple, isT_list_dict, isT_tuple_bool, isT_tuple_int, isT_tuple_str, isT_tuple_list, isT_tuple_tuple, isT_tuple_dict, isT_dict_bool, isT_dict_int, isT_dict_str, isT_dict_list, isT_dict_tuple, isT_dict_dict, tyN_non, tyN_bl, tyN_int, tyN_str, tyN_lst, tyN_tup, tyN_klst, tyN_dic]
    (refine later ?_; simp only [dflF, kwF, shs, pickG, pickO, consO, Option.map_some, List.take_nil, wMeth, methD, joinD, strsOf_map, wSs_cons, wSs_nil, Later_nil, wS, wE, wT, wI, wX, wVl, wOl, wAv, mk3, mkT, mkI, opd, wIf, wOr, DL.wAnd, DL.wNot, wBool, wTru, wUn, wOp, wFn, wCons, wNil, wVCons, wVNil, wAvNil, wAvVal, wAvBor, wCall2, wC, wVar, wAndV, wOrV, wNotV, wIte, wLst, wTup, wDct, wChn, wSlc, partE, varOp, asOp, entry, content, resO, resOs, frz, wRet, wRetV, wRetN, wNext, wDrop, wSet, wUnp, wPar, wSti, wBrk, wCnt, wMut, muD, wSeq', wFor, wWhile, wLc, wRng1, wRng2, wZip, itemsD, nth, bindTg, bindTgs, noOw, wipeS, restore, wback_val, wback_nil, wback_bor, List.nodup_nil, List.nodup_cons, List.not_mem_nil, bors, resA, pairD, keyD, le_size, List.replicate_succ, List.replicate_zero, List.length_cons, List.length_nil, List.cons_append, List.nil_append, List.getElem?_cons_zero, List.getElem?_cons_succ, List.getElem?_nil, List.set_cons_zero, List.set_cons_succ, Option.isSome_some, List.map_cons, List.map_nil, List.all_cons, List.all_nil, List.any_cons, List.any_nil, Nat.reduceSub, Nat.reduceAdd, Nat.reduceLT, Nat.reduceLeDiff, reduceIte, reduceCtorEq, Bool.not_true, Bool.not_false, Bool.false_eq_true, and_true, true_and, List.drop_zero, List.drop_succ_cons, List.take_succ_cons, List.take_zero, lenD, intD, boolD, strD, listD, tupleD, allD, anyD, blsD, cmpB, cmpD, binD, addD, subD, mulD, fdivD, modD, powD, negD, idxD, slcD, truD, ltD, gtD, leD, geD, eqD_int, eqD_bl, eqD_str, eqD_non, L2.atI, ixN_lit, Int.reduceToNat, Option.bind_some, List.length_map, List.set_cons_zero, List.set_cons_succ, isNon, inD_ss, inStr_one, isiD, seqOf, lstOf, String.reduceNe, String.reduceEq, ne_eq, not_false_eq_true, not_true_eq_false, Bool.or_true, Bool.or_false, Bool.true_or, Bool.false_or, Bool.and_true, Bool.and_false, Bool.true_and, Bool.false_and, isT_NoneType_bool, isT_NoneType_int, isT_NoneType_str, isT_NoneType_list, isT_NoneType_tuple, isT_NoneType_dict, isT_bool_bool, isT_bool_int, isT_bool_str, isT_bool_list, isT_bool_tuple, isT_bool_dict, isT_int_bool, isT_int_int, isT_int_str, isT_int_list, isT_int_tuple, isT_int_dict, isT_str_bool, isT_str_int, isT_str_str, isT_str_list, isT_str_tuple, isT_str_dict, isT_list_bool, isT_list_int, isT_list_str, isT_list_list, isT_list_tuple, isT_list_dict, isT_tuple_bool, isT_tuple_int, isT_tuple_str, isT_tuple_list, isT_tuple_tuple, isT_tuple_dict, isT_dict_bool, isT_dict_int, isT_dict_str, isT_dict_list, isT_dict_tuple, isT_dict_dict, tyN_non, tyN_bl, tyN_int, tyN_str, tyN_lst, tyN_tup, tyN_klst, tyN_dic])
    refine ⟨⟨by omega, by omega⟩, ?_⟩
    have hlen : (rangeD 0 m.toNat).length = m.toNat := by unfold rangeD; rw [List.length_map, List.length_range]
    refine ⟨by rw [hlen]; exact Nat.le_trans (show m.toNat ≤ 1000000 by omega) (by decide), ?_⟩
    refine lcGo_rel (fun s => ∃ d', s = [.ow d', .sh (.int v), .sh (.str sg), .sh (.int m), .no, .no] ∧ BagOk d') (fun _ y => ∃ z, y = .str z ∧ z.length ≤ 1 ∧ ∀ c ∈ z.cps.toList, c < 0x110000) _ _ _ (fun k hk s ⟨d', e, hd'⟩ => ?_) ⟨d4, rfl, hd4⟩ (fun rs s' hl hp ⟨d', e, hd'⟩ => ?_)
    · subst e
      refine ⟨_, rfl, fun Q hQ => ?_⟩
      simp only [dflF, kwF, shs, pickG, pickO, consO, Option.map_some, List.take_nil, wMeth, methD, joinD, strsOf_map, wSs_cons, wSs_nil, Later_nil, wS, wE, wT, wI, wX, wVl, wOl, wAv, mk3, mkT, mkI, opd, wIf, wOr, DL.wAnd, DL.wNot, wBool, wTru, wUn, wOp, wFn, wCons, wNil, wVCons, wVNil, wAvNil, wAvVal, wAvBor, wCall2, wC, wVar, wAndV, wOrV, wNotV, wIte, wLst, wTup, wDct, wChn, wSlc, partE, varOp, asOp, entry, content, resO, resOs, frz, wRet, wRetV, wRetN, wNext, wDrop, wSet, wUnp, wPar, wSti, wBrk, wCnt, wMut, muD, wSeq', wFor, wWhile, wLc, wRng1, wRng2, wZip, itemsD, nth, bindTg, bindTgs, noOw, wipeS, restore, wback_val, wback_nil, wback_bor, List.nodup_nil, List.nodup_cons, List.not_mem_nil, bors, resA, pairD, keyD, le_size, List.replicate_succ, List.replicate_zero, List.length_cons, List.length_nil, List.cons_append, List.nil_append, List.getElem?_cons_zero, List.getElem?_cons_succ, List.getElem?_nil, List.set_cons_zero, List.set_cons_succ, Option.isSome_some, List.map_cons, List.map_nil, List.all_cons, List.all_nil, List.any_cons, List.any_nil, Nat.reduceSub, Nat.reduceAdd, Nat.reduceLT, Nat.reduceLeDiff, reduceIte, reduceCtorEq, Bool.not_true, Bool.not_false, Bool.false_eq_true, and_true, true_and, List.drop_zero, List.drop_succ_cons, List.take_succ_cons, List.take_zero, lenD, intD, boolD, strD, listD, tupleD, allD, anyD, blsD, cmpB, cmpD, binD, addD, subD, mulD, fdivD, modD, powD, negD, idxD, slcD, truD, ltD, gtD, leD, geD, eqD_int, eqD_bl, eqD_str, eqD_non, L2.atI, ixN_lit, Int.reduceToNat, Option.bind_some, List.length_map, List.set_cons_zero, List.set_cons_succ, isNon, inD_ss, inStr_one, isiD, seqOf, lstOf, String.reduceNe, String.reduceEq, ne_eq, not_false_eq_true, not_true_eq_false, Bool.or_true, Bool.or_false, Bool.true_or, Bool.false_or, Bool.and_true, Bool.and_false, Bool.true_and, Bool.false_and, isT_NoneType_bool, isT_NoneType_int, isT_NoneType_str, isT_NoneType_list, isT_NoneType_tuple, isT_NoneType_dict, isT_bool_bool, isT_bool_int, isT_bool_str, isT_bool_list, isT_bool_tuple, isT_bool_dict, isT_int_bool, isT_int_int, isT_int_str, isT_int_list, isT_int_tuple, isT_int_dict, isT_str_bool, isT_str_int, isT_str_str, isT_str_list, isT_str_tuple, isT_str_dict, isT_list_bool, isT_list_int, isT_list_str, isT_list_list, isT_list_tuple, isT_list_dict, isT_tuple_bool, isT_tuple_int, isT_tuple_str, isT_tuple_list, isT_tuple_tuple, isT_tuple_dict, isT_dict_bool, isT_dict_int, isT_dict_str, isT_dict_list, isT_dict_tuple, isT_dict_dict, tyN_non, tyN_bl, tyN_int, tyN_str, tyN_lst, tyN_tup, tyN_klst, tyN_dic]
      refine ⟨d', .str sg, _, rfl, hd', rfl, by rw [charsD_len]; exact hs0, by rw [charsD_len]; omega, fun x d'' hx hd'' => ?_⟩
      unfold charsD at hx
      rw [List.mem_map] at hx
      obtain ⟨c, hc, rfl⟩ := hx
      refine hQ _ _ ⟨_, rfl, Nat.le_refl _, fun c' hc' => ?_⟩ ⟨d'', rfl, hd''⟩
      have : c' = c := by simpa using hc'
      rw [this]
      exact hsc c hc
    · subst e
      obtain ⟨zs, rfl, hz⟩ := bits_of (rs := rs) fun y hy => by
        obtain ⟨i, hi⟩ := List.getElem?_of_mem hy
        have : i < (rangeD 0 m.toNat).length := by
          rw [← hl]
          by_cases c : i < rs.length
          · exact c
          · rw [List.getElem?_eq_none (by omega)] at hi; cases hi
        exact hp i _ y (List.getElem?_eq_getElem this) hi
      have hzl : zs.length = m.toNat := by rw [List.length_map, hlen] at hl; exact hl
      have last : ∀ (ys : List Str) (d5 : D), Bits ys → ys.length ≤ 100 → BagOk d5 → Later M__law_text (b__law_text.drop 6) (topN [0] 1 R) [.ow d5, .sh (.int v), .sh (.str sg), .sh (.int m), .ow (.lst (ys.map .str)), .no] := by
        intro ys d5 hy hyl hd5
        refine later ?_
        unfold b__law_text
        simp only [dflF, kwF, shs, pickG, pickO, consO, Option.map_some, List.take_nil, wMeth, methD, joinD, strsOf_map, wSs_cons, wSs_nil, Later_nil, wS, wE, wT, wI, wX, wVl, wOl, wAv, mk3, mkT, mkI, opd, wIf, wOr, DL.wAnd, DL.wNot, wBool, wTru, wUn, wOp, wFn, wCons, wNil, wVCons, wVNil, wAvNil, wAvVal, wAvBor, wCall2, wC, wVar, wAndV, wOrV, wNotV, wIte, wLst, wTup, wDct, wChn, wSlc, partE, varOp, asOp, entry, content, resO, resOs, frz, wRet, wRetV, wRetN, wNext, wDrop, wSet, wUnp, wPar, wSti, wBrk, wCnt, wMut, muD, wSeq', wFor, wWhile, wLc, wRng1, wRng2, wZip, itemsD, nth, bindTg, bindTgs, noOw, wipeS, restore, wback_val, wback_nil, wback_bor, List.nodup_nil, List.nodup_cons, List.not_mem_nil, bors, resA, pairD, keyD, le_size, List.replicate_succ, List.replicate_zero, List.length_cons, List.length_nil, List.cons_append, List.nil_append, List.getElem?_cons_zero, List.getElem?_cons_succ, List.getElem?_nil, List.set_cons_zero, List.set_cons_succ, Option.isSome_some, List.map_cons, List.map_nil, List.all_cons, List.all_nil, List.any_cons, List.any_nil, Nat.reduceSub, Nat.reduceAdd, Nat.reduceLT, Nat.reduceLeDiff, reduceIte, reduceCtorEq, Bool.not_true, Bool.not_false, Bool.false_eq_true, and_true, true_and, List.drop_zero, List.drop_succ_cons, List.take_succ_cons, List.take_zero, lenD, intD, boolD, strD, listD, tupleD, allD, anyD, blsD, cmpB, cmpD, binD, addD, subD, mulD, fdivD, modD, powD, negD, idxD, slcD, truD, ltD, gtD, leD, geD, eqD_int, eqD_bl, eqD_str, eqD_non, L2.atI, ixN_lit, Int.reduceToNat, Option.bind_some, List.length_map, List.set_cons_zero, List.set_cons_succ, isNon, inD_ss, inStr_one, isiD, seqOf, lstOf, String.reduceNe, String.reduceEq, ne_eq, not_false_eq_true, not_true_eq_false, Bool.or_true, Bool.or_false, Bool.true_or, Bool.false_or, Bool.and_true, Bool.and_false, Bool.true_and, Bool.false_and, isT_NoneType_bool, isT_NoneType_int, isT_NoneType_str, isT_NoneType_list, isT_NoneType_tuple, isT_NoneType_dict, isT_bool_bool, isT_bool_int, isT_bool_str, isT_bool_list, isT_bool_tuple, isT_bool_dict, isT_int_bool, isT_int_int, isT_int_str, isT_int_list, isT_int_tuple, isT_int_dict, isT_str_bool, isT_str_int, isT_str_str, isT_str_list, isT_str_tuple, isT_str_dict, isT_list_bool, isT_list_int, isT_list_str, isT_list_list, isT_list_tuple, isT_list_dict, isT_tuple_bool, isT_tuple_int, isT_tuple_str, isT_tuple_list, isT_tuple_tuple, isT_tuple_dict, isT_dict_bool, isT_dict_int, isT_dict_str, isT_dict_list, isT_dict_tuple, isT_dict_dict, tyN_non, tyN_bl, tyN_int, tyN_str, tyN_lst, tyN_tup, tyN_klst, tyN_dic]
        have hj := join_ok (e := "") rfl hy hyl
        have hs := bits_sum hy
        have h0 : (Str.ofString "").length = 0 := rfl
        exact ⟨by rw [h0]; omega, hR _ d5 hj.1 hj.2 hd5⟩
      simp only [dflF, kwF, shs, pickG, pickO, consO, Option.map_some, List.take_nil, wMeth, methD, joinD, strsOf_map, wSs_cons, wSs_nil, Later_nil, wS, wE, wT, wI, wX, wVl, wOl, wAv, mk3, mkT, mkI, opd, wIf, wOr, DL.wAnd, DL.wNot, wBool, wTru, wUn, wOp, wFn, wCons, wNil, wVCons, wVNil, wAvNil, wAvVal, wAvBor, wCall2, wC, wVar, wAndV, wOrV, wNotV, wIte, wLst, wTup, wDct, wChn, wSlc, partE, varOp, asOp, entry, content, resO, resOs, frz, wRet, wRetV, wRetN, wNext, wDrop, wSet, wUnp, wPar, wSti, wBrk, wCnt, wMut, muD, wSeq', wFor, wWhile, wLc, wRng1, wRng2, wZip, itemsD, nth, bindTg, bindTgs, noOw, wipeS, restore, wback_val, wback_nil, wback_bor, List.nodup_nil, List.nodup_cons, List.not_mem_nil, bors, resA, pairD, keyD, le_size, List.replicate_succ, List.replicate_zero, List.length_cons, List.length_nil, List.cons_append, List.nil_append, List.getElem?_cons_zero, List.getElem?_cons_succ, List.getElem?_nil, List.set_cons_zero, List.set_cons_succ, Option.isSome_some, List.map_cons, List.map_nil, List.all_cons, List.all_nil, List.any_cons, List.any_nil, Nat.reduceSub, Nat.reduceAdd, Nat.reduceLT, Nat.reduceLeDiff, reduceIte, reduceCtorEq, Bool.not_true, Bool.not_false, Bool.false_eq_true, and_true, true_and, List.drop_zero, List.drop_succ_cons, List.take_succ_cons, List.take_zero, lenD, intD, boolD, strD, listD, tupleD, allD, anyD, blsD, cmpB, cmpD, binD, addD, subD, mulD, fdivD, modD, powD, negD, idxD, slcD, truD, ltD, gtD, leD, geD, eqD_int, eqD_bl, eqD_str, eqD_non, L2.atI, ixN_lit, Int.reduceToNat, Option.bind_some, List.length_map, List.set_cons_zero, List.set_cons_succ, isNon, inD_ss, inStr_one, isiD, seqOf, lstOf, String.reduceNe, String.reduceEq, ne_eq, not_false_eq_true, not_true_eq_false, Bool.or_true, Bool.or_false, Bool.true_or, Bool.false_or, Bool.and_true, Bool.and_false, Bool.true_and, Bool.false_and, isT_NoneType_bool, isT_NoneType_int, isT_NoneType_str, isT_NoneType_list, isT_NoneType_tuple, isT_NoneType_dict, isT_bool_bool, isT_bool_int, isT_bool_str, isT_bool_list, isT_bool_tuple, isT_bool_dict, isT_int_bool, isT_int_int, isT_int_str, isT_int_list, isT_int_tuple, isT_int_dict, isT_str_bool, isT_str_int, isT_str_str, isT_str_list, isT_str_tuple, isT_str_dict, isT_list_bool, isT_list_int, isT_list_str, isT_list_list, isT_list_tuple, isT_list_dict, isT_tuple_bool, isT_tuple_int, isT_tuple_str, isT_tuple_list, isT_tuple_tuple, isT_tuple_dict, isT_dict_bool, isT_dict_int, isT_dict_str, isT_dict_list, isT_dict_tuple, isT_dict_dict, tyN_non, tyN_bl, tyN_int, tyN_str, tyN_lst, tyN_tup, tyN_klst, tyN_dic]
      (refine later ?_; simp only [dflF, kwF, shs, pickG, pickO, consO, Option.map_some, List.take_nil, wMeth, methD, joinD, strsOf_map, wSs_cons, wSs_nil, Later_nil, wS, wE, wT, wI, wX, wVl, wOl, wAv, mk3, mkT, mkI, opd, wIf, wOr, DL.wAnd, DL.wNot, wBool, wTru, wUn, wOp, wFn, wCons, wNil, wVCons, wVNil, wAvNil, wAvVal, wAvBor, wCall2, wC, wVar, wAndV, wOrV, wNotV, wIte, wLst, wTup, wDct, wChn, wSlc, partE, varOp, asOp, entry, content, resO, resOs, frz, wRet, wRetV, wRetN, wNext, wDrop, wSet, wUnp, wPar, wSti, wBrk, wCnt, wMut, muD, wSeq', wFor, wWhile, wLc, wRng1, wRng2, wZip, itemsD, nth, bindTg, bindTgs, noOw, wipeS, restore, wback_val, wback_nil, wback_bor, List.nodup_nil, List.nodup_cons, List.not_mem_nil, bors, resA, pairD, keyD, le_size, List.replicate_succ, List.replicate_zero, List.length_cons, List.length_nil, List.cons_append, List.nil_append, List.getElem?_cons_zero, List.getElem?_cons_succ, List.getElem?_nil, List.set_cons_zero, List.set_cons_succ, Option.isSome_some, List.map_cons, List.map_nil, List.all_cons, List.all_nil, List.any_cons, List.any_nil, Nat.reduceSub, Nat.reduceAdd, Nat.reduceLT, Nat.reduceLeDiff, reduceIte, reduceCtorEq, Bool.not_true, Bool.not_false, Bool.false_eq_true, and_true, true_and, List.drop_zero, List.drop_succ_cons, List.take_succ_cons, List.take_zero, lenD, intD, boolD, strD, listD, tupleD, allD, anyD, blsD, cmpB, cmpD, binD, addD, subD, mulD, fdivD, modD, powD, negD, idxD, slcD, truD, ltD, gtD, leD, geD, eqD_int, eqD_bl, eqD_str, eqD_non, L2.atI, ixN_lit, Int.reduceToNat, Option.bind_some, List.length_map, List.set_cons_zero, List.set_cons_succ, isNon, inD_ss, inStr_one, isiD, seqOf, lstOf, String.reduceNe, String.reduceEq, ne_eq, not_false_eq_true, not_true_eq_false, Bool.or_true, Bool.or_false, Bool.true_or, Bool.false_or, Bool.and_true, Bool.and_false, Bool.true_and, Bool.false_and, isT_NoneType_bool, isT_NoneType_int, isT_NoneType_str, isT_NoneType_list, isT_NoneType_tuple, isT_NoneType_dict, isT_bool_bool, isT_bool_int, isT_bool_str, isT_bool_list, isT_bool_tuple, isT_bool_dict, isT_int_bool, isT_int_int, isT_int_str, isT_int_list, isT_int_tuple, isT_int_dict, isT_str_bool, isT_str_int, isT_str_str, isT_str_list, isT_str_tuple, isT_str_dict, isT_list_bool, isT_list_int, isT_list_str, isT_list_list, isT_list_tuple, isT_list_dict, isT_tuple_bool, isT_tuple_int, isT_tuple_str, isT_tuple_list, isT_tuple_tuple, isT_tuple_dict, isT_dict_bool, isT_dict_int, isT_dict_str, isT_dict_list, isT_dict_tuple, isT_dict_dict, tyN_non, tyN_bl, tyN_int, tyN_str, tyN_lst, tyN_tup, tyN_klst, tyN_dic])
      split
      · split
        · rename_i h5 h6
          have h6 := of_decide_eq_true h6
          refine ⟨d', _, _, rfl, hd', rfl, by decide, by decide, fun x d5 hx hd5 => ?_⟩
          obtain ⟨z, rfl, hz1, hz2⟩ := bit_of (List.all_eq_true.mp (show List.all _ bitB = true by decide +kernel) x hx)
          simp only [dflF, kwF, shs, pickG, pickO, consO, Option.map_some, List.take_nil, wMeth, methD, joinD, strsOf_map, wSs_cons, wSs_nil, Later_nil, wS, wE, wT, wI, wX, wVl, wOl, wAv, mk3, mkT, mkI, opd, wIf, wOr, DL.wAnd, DL.wNot, wBool, wTru, wUn, wOp, wFn, wCons, wNil, wVCons, wVNil, wAvNil, wAvVal, wAvBor, wCall2, wC, wVar, wAndV, wOrV, wNotV, wIte, wLst, wTup, wDct, wChn, wSlc, partE, varOp, asOp, entry, content, resO, resOs, frz, wRet, wRetV, wRetN, wNext, wDrop, wSet, wUnp, wPar, wSti, wBrk, wCnt, wMut, muD, wSeq', wFor, wWhile, wLc, wRng1, wRng2, wZip, itemsD, nth, bindTg, bindTgs, noOw, wipeS, restore, wback_val, wback_nil, wback_bor, List.nodup_nil, List.nodup_cons, List.not_mem_nil, bors, resA, pairD, keyD, le_size, List.replicate_succ, List.replicate_zero, List.length_cons, List.length_nil, List.cons_append, List.nil_append, List.getElem?_cons_zero, List.getElem?_cons_succ, List.getElem?_nil, List.set_cons_zero, List.set_cons_succ, Option.isSome_some, List.map_cons, List.map_nil, List.all_cons, List.all_nil, List.any_cons, List.any_nil, Nat.reduceSub, Nat.reduceAdd, Nat.reduceLT, Nat.reduceLeDiff, reduceIte, reduceCtorEq, Bool.not_true, Bool.not_false, Bool.false_eq_true, and_true, true_and, List.drop_zero, List.drop_succ_cons, List.take_succ_cons, List.take_zero, lenD, intD, boolD, strD, listD, tupleD, allD, anyD, blsD, cmpB, cmpD, binD, addD, subD, mulD, fdivD, modD, powD, negD, idxD, slcD, truD, ltD, gtD, leD, geD, eqD_int, eqD_bl, eqD_str, eqD_non, L2.atI, ixN_lit, Int.reduceToNat, Option.bind_some, List.length_map, List.set_cons_zero, List.set_cons_succ, isNon, inD_ss, inStr_one, isiD, seqOf, lstOf, String.reduceNe, String.reduceEq, ne_eq, not_false_eq_true, not_true_eq_false, Bool.or_true, Bool.or_false, Bool.true_or, Bool.false_or, Bool.and_true, Bool.and_false, Bool.true_and, Bool.false_and, isT_NoneType_bool, isT_NoneType_int, isT_NoneType_str, isT_NoneType_list, isT_NoneType_tuple, isT_NoneType_dict, isT_bool_bool, isT_bool_int, isT_bool_str, isT_bool_list, isT_bool_tuple, isT_bool_dict, isT_int_bool, isT_int_int, isT_int_str, isT_int_list, isT_int_tuple, isT_int_dict, isT_str_bool, isT_str_int, isT_str_str, isT_str_list, isT_str_tuple, isT_str_dict, isT_list_bool, isT_list_int, isT_list_str, isT_list_list, isT_list_tuple, isT_list_dict, isT_tuple_bool, isT_tuple_int, isT_tuple_str, isT_tuple_list, isT_tuple_tuple, isT_tuple_dict, isT_dict_bool, isT_dict_int, isT_dict_str, isT_dict_list, isT_dict_tuple, isT_dict_dict, tyN_non, tyN_bl, tyN_int, tyN_str, tyN_lst, tyN_tup, tyN_klst, tyN_dic]
          refine ⟨d5, m, rfl, hd5, h6, by omega, fun j d6 h7 h8 hd6 => ?_⟩
          simp only [dflF, kwF, shs, pickG, pickO, consO, Option.map_some, List.take_nil, wMeth, methD, joinD, strsOf_map, wSs_cons, wSs_nil, Later_nil, wS, wE, wT, wI, wX, wVl, wOl, wAv, mk3, mkT, mkI, opd, wIf, wOr, DL.wAnd, DL.wNot, wBool, wTru, wUn, wOp, wFn, wCons, wNil, wVCons, wVNil, wAvNil, wAvVal, wAvBor, wCall2, wC, wVar, wAndV, wOrV, wNotV, wIte, wLst, wTup, wDct, wChn, wSlc, partE, varOp, asOp, entry, content, resO, resOs, frz, wRet, wRetV, wRetN, wNext, wDrop, wSet, wUnp, wPar, wSti, wBrk, wCnt, wMut, muD, wSeq', wFor, wWhile, wLc, wRng1, wRng2, wZip, itemsD, nth, bindTg, bindTgs, noOw, wipeS, restore, wback_val, wback_nil, wback_bor, List.nodup_nil, List.nodup_cons, List.not_mem_nil, bors, resA, pairD, keyD, le_size, List.replicate_succ, List.replicate_zero, List.length_cons, List.length_nil, List.cons_append, List.nil_append, List.getElem?_cons_zero, List.getElem?_cons_succ, List.getElem?_nil, List.set_cons_zero, List.set_cons_succ, Option.isSome_some, List.map_cons, List.map_nil, List.all_cons, List.all_nil, List.any_cons, List.any_nil, Nat.reduceSub, Nat.reduceAdd, Nat.reduceLT, Nat.reduceLeDiff, reduceIte, reduceCtorEq, Bool.not_true, Bool.not_false, Bool.false_eq_true, and_true, true_and, List.drop_zero, List.drop_succ_cons, List.take_succ_cons, List.take_zero, lenD, intD, boolD, strD, listD, tupleD, allD, anyD, blsD, cmpB, cmpD, binD, addD, subD, mulD, fdivD, modD, powD, negD, idxD, slcD, truD, ltD, gtD, leD, geD, eqD_int, eqD_bl, eqD_str, eqD_non, L2.atI, ixN_lit, Int.reduceToNat, Option.bind_some, List.length_map, List.set_cons_zero, List.set_cons_succ, isNon, inD_ss, inStr_one, isiD, seqOf, lstOf, String.reduceNe, String.reduceEq, ne_eq, not_false_eq_true, not_true_eq_false, Bool.or_true, Bool.or_false, Bool.true_or, Bool.false_or, Bool.and_true, Bool.and_false, Bool.true_and, Bool.false_and, isT_NoneType_bool, isT_NoneType_int, isT_NoneType_str, isT_NoneType_list, isT_NoneType_tuple, isT_NoneType_dict, isT_bool_bool, isT_bool_int, isT_bool_str, isT_bool_list, isT_bool_tuple, isT_bool_dict, isT_int_bool, isT_int_int, isT_int_str, isT_int_list, isT_int_tuple, isT_int_dict, isT_str_bool, isT_str_int, isT_str_str, isT_str_list, isT_str_tuple, isT_str_dict, isT_list_bool, isT_list_int, isT_list_str, isT_list_list, isT_list_tuple, isT_list_dict, isT_tuple_bool, isT_tuple_int, isT_tuple_str, isT_tuple_list, isT_tuple_tuple, isT_tuple_dict, isT_dict_bool, isT_dict_int, isT_dict_str, isT_dict_list, isT_dict_tuple, isT_dict_dict, tyN_non, tyN_bl, tyN_int, tyN_str, tyN_lst, tyN_tup, tyN_klst, tyN_dic]
          rw [ixN_nat h7 (by rw [hzl]; omega)]
          simp only [← List.map_set]
          exact last _ d6 (bits_set hz ⟨hz1, hz2⟩) (by rw [List.length_set]; omega) hd6
        · exact last zs d' hz (by omega) hd'
      · exact last zs d' hz (by omega) hd'
  unfold b__law_text
  simp only [dflF, kwF, shs, pickG, pickO, consO, Option.map_some, List.take_nil, wMeth, methD, joinD, strsOf_map, wSs_cons, wSs_nil, Later_nil, wS, wE, wT, wI, wX, wVl, wOl, wAv, mk3, mkT, mkI, opd, wIf, wOr, DL.wAnd, DL.wNot, wBool, wTru, wUn, wOp, wFn, wCons, wNil, wVCons, wVNil, wAvNil, wAvVal, wAvBor, wCall2, wC, wVar, wAndV, wOrV, wNotV, wIte, wLst, wTup, wDct, wChn, wSlc, partE, varOp, asOp, entry, content, resO, resOs, frz, wRet, wRetV, wRetN, wNext, wDrop, wSet, wUnp, wPar, wSti, wBrk, wCnt, wMut, muD, wSeq', wFor, wWhile, wLc, wRng1, wRng2, wZip, itemsD, nth, bindTg, bindTgs, noOw, wipeS, restore, wback_val, wback_nil, wback_bor, List.nodup_nil, List.nodup_cons, List.not_mem_nil, bors, resA, pairD, keyD, le_size, List.replicate_succ, List.replicate_zero, List.length_cons, List.length_nil, List.cons_append, List.nil_append, List.getElem?_cons_zero, List.getElem?_cons_succ, List.getElem?_nil, List.set_cons_zero, List.set_cons_succ, Option.isSome_some, List.map_cons, List.map_nil, List.all_cons, List.all_nil, List.any_cons, List.any_nil, Nat.reduceSub, Nat.reduceAdd, Nat.reduceLT, Nat.reduceLeDiff, reduceIte, reduceCtorEq, Bool.not_true, Bool.not_false, Bool.false_eq_true, and_true, true_and, List.drop_zero, List.drop_succ_cons, List.take_succ_cons, List.take_zero, lenD, intD, boolD, strD, listD, tupleD, allD, anyD, blsD, cmpB, cmpD, binD, addD, subD, mulD, fdivD, modD, powD, negD, idxD, slcD, truD, ltD, gtD, leD, geD, eqD_int, eqD_bl, eqD_str, eqD_non, L2.atI, ixN_lit, Int.reduceToNat, Option.bind_some, List.length_map, List.set_cons_zero, List.set_cons_succ, isNon, inD_ss, inStr_one, isiD, seqOf, lstOf, String.reduceNe, String.reduceEq, ne_eq, not_false_eq_true, not_true_eq_false, Bool.or_true, Bool.or_false, Bool.true_or, Bool.false_or, Bool.and_true, Bool.and_false, Bool.true_and, Bool.false_and, isT_NoneType_bool, isT_NoneType_int, isT_NoneType_str, isT_NoneType_list, isT_NoneType_tuple, isT_NoneType_dict, isT_bool_bool, isT_bool_int, isT_bool_str, isT_bool_list, isT_bool_tuple, isT_bool_dict, isT_int_bool, isT_int_int, isT_int_str, isT_int_list, isT_int_tuple, isT_int_dict, isT_str_bool, isT_str_int, isT_str_str, isT_str_list, isT_str_tuple, isT_str_dict, isT_list_bool, isT_list_int, isT_list_str, isT_list_list, isT_list_tuple, isT_list_dict, isT_tuple_bool, isT_tuple_int, isT_tuple_str, isT_tuple_list, isT_tuple_tuple, isT_tuple_dict, isT_dict_bool, isT_dict_int, isT_dict_str, isT_dict_list, isT_dict_tuple, isT_dict_dict, tyN_non, tyN_bl, tyN_int, tyN_str, tyN_lst, tyN_tup, tyN_klst, tyN_dic]
  refine ⟨d, 4, rfl, hd, by decide, by decide, fun v d2 h3 h4 hd2 => ?_⟩
  simp only [dflF, kwF, shs, pickG, pickO, consO, Option.map_some, List.take_nil, wMeth, methD, joinD, strsOf_map, wSs_cons, wSs_nil, Later_nil, wS, wE, wT, wI, wX, wVl, wOl, wAv, mk3, mkT, mkI, opd, wIf, wOr, DL.wAnd, DL.wNot, wBool, wTru, wUn, wOp, wFn, wCons, wNil, wVCons, wVNil, wAvNil, wAvVal, wAvBor, wCall2, wC, wVar, wAndV, wOrV, wNotV, wIte, wLst, wTup, wDct, wChn, wSlc, partE, varOp, asOp, entry, content, resO, resOs, frz, wRet, wRetV, wRetN, wNext, wDrop, wSet, wUnp, wPar, wSti, wBrk, wCnt, wMut, muD, wSeq', wFor, wWhile, wLc, wRng1, wRng2, wZip, itemsD, nth, bindTg, bindTgs, noOw, wipeS, restore, wback_val, wback_nil, wback_bor, List.nodup_nil, List.nodup_cons, List.not_mem_nil, bors, resA, pairD, keyD, le_size, List.replicate_succ, List.replicate_zero, List.length_cons, List.length_nil, List.cons_append, List.nil_append, List.getElem?_cons_zero, List.getElem?_cons_succ, List.getElem?_nil, List.set_cons_zero, List.set_cons_succ, Option.isSome_some, List.map_cons, List.map_nil, List.all_cons, List.all_nil, List.any_cons, List.any_nil, Nat.reduceSub, Nat.reduceAdd, Nat.reduceLT, Nat.reduceLeDiff, reduceIte, reduceCtorEq, Bool.not_true, Bool.not_false, Bool.false_eq_true, and_true, true_and, List.drop_zero, List.drop_succ_cons, List.take_succ_cons, List.take_zero, lenD, intD, boolD, strD, listD, tupleD, allD, anyD, blsD, cmpB, cmpD, binD, addD, subD, mulD, fdivD, modD, powD, negD, idxD, slcD, truD, ltD, gtD, leD, geD, eqD_int, eqD_bl, eqD_str, eqD_non, L2.atI, ixN_lit, Int.reduceToNat, Option.bind_some, List.length_map, List.set_cons_zero, List.set_cons_succ, isNon, inD_ss, inStr_one, isiD, seqOf, lstOf, String.reduceNe, String.reduceEq, ne_eq, not_false_eq_true, not_true_eq_false, Bool.or_true, Bool.or_false, Bool.true_or, Bool.false_or, Bool.and_true, Bool.and_false, Bool.true_and, Bool.false_and, isT_NoneType_bool, isT_NoneType_int, isT_NoneType_str, isT_NoneType_list, isT_NoneType_tuple, isT_NoneType_dict, isT_bool_bool, isT_bool_int, isT_bool_str, isT_bool_list, isT_bool_tuple, isT_bool_dict, isT_int_bool, isT_int_int, isT_int_str, isT_int_list, isT_int_tuple, isT_int_dict, isT_str_bool, isT_str_int, isT_str_str, isT_str_list, isT_str_tuple, isT_str_dict, isT_list_bool, isT_list_int, isT_list_str, isT_list_list, isT_list_tuple, isT_list_dict, isT_tuple_bool, isT_tuple_int, isT_tuple_str, isT_tuple_list, isT_tuple_tuple, isT_tuple_dict, isT_dict_bool, isT_dict_int, isT_dict_str, isT_dict_list, isT_dict_tuple, isT_dict_dict, tyN_non, tyN_bl, tyN_int, tyN_str, tyN_lst, tyN_tup, tyN_klst, tyN_dic]
  (refine later ?_; simp only [dflF, kwF, shs, pickG, pickO, consO, Option.map_some, List.take_nil, wMeth, methD, joinD, strsOf_map, wSs_cons, wSs_nil, Later_nil, wS, wE, wT, wI, wX, wVl, wOl, wAv, mk3, mkT, mkI, opd, wIf, wOr, DL.wAnd, DL.wNot, wBool, wTru, wUn, wOp, wFn, wCons, wNil, wVCons, wVNil, wAvNil, wAvVal, wAvBor, wCall2, wC, wVar, wAndV, wOrV, wNotV, wIte, wLst, wTup, wDct, wChn, wSlc, partE, varOp, asOp, entry, content, resO, resOs, frz, wRet, wRetV, wRetN, wNext, wDrop, wSet, wUnp, wPar, wSti, wBrk, wCnt, wMut, muD, wSeq', wFor, wWhile, wLc, wRng1, wRng2, wZip, itemsD, nth, bindTg, bindTgs, noOw, wipeS, restore, wback_val, wback_nil, wback_bor, List.nodup_nil, List.nodup_cons, List.not_mem_nil, bors, resA, pairD, keyD, le_size, List.replicate_succ, List.replicate_zero, List.length_cons, List.length_nil, List.cons_append, List.nil_append, List.getElem?_cons_zero, List.getElem?_cons_succ, List.getElem?_nil, List.set_cons_zero, List.set_cons_succ, Option.isSome_some, List.map_cons, List.map_nil, List.all_cons, List.all_nil, List.any_cons, List.any_nil, Nat.reduceSub, Nat.reduceAdd, Nat.reduceLT, Nat.reduceLeDiff, reduceIte, reduceCtorEq, Bool.not_true, Bool.not_false, Bool.false_eq_true, and_true, true_and, List.drop_zero, List.drop_succ_cons, List.take_succ_cons, List.take_zero, lenD, intD, boolD, strD, listD, tupleD, allD, anyD, blsD, cmpB, cmpD, binD, addD, subD, mulD, fdivD, modD, powD, negD, idxD, slcD, truD, ltD, gtD, leD, geD, eqD_int, eqD_bl, eqD_str, eqD_non, L2.atI, ixN_lit, Int.reduceToNat, Option.bind_some, List.length_map, List.set_cons_zero, List.set_cons_succ, isNon, inD_ss, inStr_one, isiD, seqOf, lstOf, String.reduceNe, String.reduceEq, ne_eq, not_false_eq_true, not_true_eq_false, Bool.or_true, Bool.or_false, Bool.true_or, Bool.false_or, Bool.and_true, Bool.and_false, Bool.true_and, Bool.false_and, isT_NoneType_bool, isT_NoneType_int, isT_NoneType_str, isT_NoneType_list, isT_NoneType_tuple, isT_NoneType_dict, isT_bool_bool, isT_bool_int, isT_bool_str, isT_bool_list, isT_bool_tuple, isT_bool_dict, isT_int_bool, isT_int_int, isT_int_str, isT_int_list, isT_int_tuple, isT_int_dict, isT_str_bool, isT_str_int, isT_str_str, isT_str_list, isT_str_tuple, isT_str_dict, isT_list_bool, isT_list_int, isT_list_str, isT_list_list, isT_list_tuple, isT_list_dict, isT_tuple_bool, isT_tuple_int, isT_tuple_str, isT_tuple_list, isT_tuple_tuple, isT_tuple_dict, isT_dict_bool, isT_dict_int, isT_dict_str, isT_dict_list, isT_dict_tuple, isT_dict_dict, tyN_non, tyN_bl, tyN_int, tyN_str, tyN_lst, tyN_tup, tyN_klst, tyN_dic])
  (refine later ?_; simp only [dflF, kwF, shs, pickG, pickO, consO, Option.map_some, List.take_nil, wMeth, methD, joinD, strsOf_map, wSs_cons, wSs_nil, Later_nil, wS, wE, wT, wI, wX, wVl, wOl, wAv, mk3, mkT, mkI, opd, wIf, wOr, DL.wAnd, DL.wNot, wBool, wTru, wUn, wOp, wFn, wCons, wNil, wVCons, wVNil, wAvNil, wAvVal, wAvBor, wCall2, wC, wVar, wAndV, wOrV, wNotV, wIte, wLst, wTup, wDct, wChn, wSlc, partE, varOp, asOp, entry, content, resO, resOs, frz, wRet, wRetV, wRetN, wNext, wDrop, wSet, wUnp, wPar, wSti, wBrk, wCnt, wMut, muD, wSeq', wFor, wWhile, wLc, wRng1, wRng2, wZip, itemsD, nth, bindTg, bindTgs, noOw, wipeS, restore, wback_val, wback_nil, wback_bor, List.nodup_nil, List.nodup_cons, List.not_mem_nil, bors, resA, pairD, keyD, le_size, List.replicate_succ, List.replicate_zero, List.length_cons, List.length_nil, List.cons_append, List.nil_append, List.getElem?_cons_zero, List.getElem?_cons_succ, List.getElem?_nil, List.set_cons_zero, List.set_cons_succ, Option.isSome_some, List.map_cons, List.map_nil, List.all_cons, List.all_nil, List.any_cons, List.any_nil, Nat.reduceSub, Nat.reduceAdd, Nat.reduceLT, Nat.reduceLeDiff, reduceIte, reduceCtorEq, Bool.not_true, Bool.not_false, Bool.false_eq_true, and_true, true_and, List.drop_zero, List.drop_succ_cons, List.take_succ_cons, List.take_zero, lenD, intD, boolD, strD, listD, tupleD, allD, anyD, blsD, cmpB, cmpD, binD, addD, subD, mulD, fdivD, modD, powD, negD, idxD, slcD, truD, ltD, gtD, leD, geD, eqD_int, eqD_bl, eqD_str, eqD_non, L2.atI, ixN_lit, Int.reduceToNat, Option.bind_some, List.length_map, List.set_cons_zero, List.set_cons_succ, isNon, inD_ss, inStr_one, isiD, seqOf, lstOf, String.reduceNe, String.reduceEq, ne_eq, not_false_eq_true, not_true_eq_false, Bool.or_true, Bool.or_false, Bool.true_or, Bool.false_or, Bool.and_true, Bool.and_false, Bool.true_and, Bool.false_and, isT_NoneType_bool, isT_NoneType_int, isT_NoneType_str, isT_NoneType_list, isT_NoneType_tuple, isT_NoneType_dict, isT_bool_bool, isT_bool_int, isT_bool_str, isT_bool_list, isT_bool_tuple, isT_bool_dict, isT_int_bool, isT_int_int, isT_int_str, isT_int_list, isT_int_tuple, isT_int_dict, isT_str_bool, isT_str_int, isT_str_str, isT_str_list, isT_str_tuple, isT_str_dict, isT_list_bool, isT_list_int, isT_list_str, isT_list_list, isT_list_tuple, isT_list_dict, isT_tuple_bool, isT_tuple_int, isT_tuple_str, isT_tuple_list, isT_tuple_tuple, isT_tuple_dict, isT_dict_bool, isT_dict_int, isT_dict_str, isT_dict_list, isT_dict_tuple, isT_dict_dict, tyN_non, tyN_bl, tyN_int, tyN_str, tyN_lst, tyN_tup, tyN_klst, tyN_dic])
  split
  · exact tail _ v d2 (by decide) (by decide) (fun c hc => of_decide_eq_true (List.all_eq_true.mp (show List.all _ (fun c => decide (c < 0x110000)) = true by decide +kernel) c hc)) hd2
  · exact tail _ v d2 (by decide) (by decide) (fun c hc => of_decide_eq_true (List.all_eq_true.mp (show List.all _ (fun c => decide (c < 0x110000)) = true by decide +kernel) c hc)) hd2
theorem ok__law_text {P : Program} {w : World} {K : PySem.W.Frag} {mg : Str → Option Value} {base : Heap} (V : VE K mg) : ∃ fd, FunD K "_law_text" "_law_text" (defArgs (top 18)) (defBody (top 18)) (defScope (top 18)) [] [] (He.ga K "_law_text") fd ∧ FnOk P w K mg base CX0 3 (He.ga K "_law_text") fd ["_law_bag_here"] (spOf K F__law_text) := by
  obtain ⟨fd, Fd⟩ := V.def_ 11 (d := dd "_law_text" 18 []) rfl
  exact ⟨fd, Fd, fn_ok Fd (d__law_text 2) (mkTab (.cons (cj__law_draw_2 V (by first | decide | omega)) (.cons (cj__law_of_2 V (by first | decide | omega)) .nil)) .nil (show ([] : List (Str × Nat)).all (fun c => decide (c.1 ∈ FR)) = true by decide +kernel) .nil .nil noAt_ok V.free) rfl p__law_text⟩
theorem cj__law_text_1 {P : Program} {w : World} {K : PySem.W.Frag} {mg : Str → Option Value} {base : Heap} {lv : Nat} (V : VE K mg) (h : 3 ≤ lv) : CallJ P w K mg base lv "_law_text" 1 [] F__law_text := by
  obtain ⟨fd, Fd, F⟩ := ok__law_text (P := P) (w := w) (base := base) V
  exact callJ F h (V.glo 11 rfl) Fd.kp (FunD.bindsN Fd (fun _ _ _ _ _ _ us hl => match us, hl with | [_], _ => rfl)) 1
end K01

namespace K01
open PySem DL
open L2 (V FnOk FunD CX0 defArgs defBody defScope SqL FnScope KBn)
theorem like_flat {n : Nat} {xs : List D} (h : xs.all flatD = true) (hl : xs.length ≤ 1000000) : likeOk (n + 1) (.lst xs) :=
  .inr (.inl ⟨xs, rfl, hl, fun x m => by
    have := List.all_eq_true.mp h x m
    cases n with
    | zero => exact this
    | succ n => exact .inl this⟩)
def C__law_names_so (lv : Nat) : CC := { N := ["_law_thing", "_law_due"], sc := defScope (top 19), lv := lv, kp := [], brw := [], calls := [("_law_is_title", 1, []), ("_law_like", 2, []), ("is_name", 1, []), ("is_name", 0, ["value"])], bis := [], cons := [], fr := FR }
def b__law_names_so : List S := [(.set 1 (.call 0 [(.var 0)] [])), (.ret (.call 1 [(.lst [(.call 2 [(.var 0)] []), (.call 3 [] [(.var 0)])]), (.lst [(.var 1), (.var 1)])] []))]
theorem sc__law_names_so : FnScope ["_law_thing", "_law_due"] ["_law_thing"] (defScope (top 19)) := ⟨rfl, rfl, rfl, by decide +kernel, rfl, by decide +kernel, by decide +kernel⟩
theorem d__law_names_so (lv : Nat) : DefC (C__law_names_so lv) ["_law_thing"] (defArgs (top 19)) (defBody (top 19)) (defScope (top 19)) b__law_names_so := ⟨sc__law_names_so, rfl, rfl, (show ∀ i ∈ ([] : List Nat), i < 1 by decide), by kernel_rfl⟩
abbrev M__law_names_so : Sem := mkSem [] [F__law_is_title, (F__law_like 2), F_is_name, (kwF 0 1 (fun as bs => pickG [(1, 0)] [] as bs) F_is_name)] [] [] [] noAt
def F__law_names_so : FS := fun args R => ∃ d, args = [.sh d] ∧ Thing d ∧ ∀ o, R (.sh (.bl true)) o
theorem p__law_names_so : ∀ args R, F__law_names_so args R → runF [] 1 2 (wSs M__law_names_so b__law_names_so) args R := by
  rintro args R ⟨d, rfl, hd, hR⟩
  refine ⟨rfl, ?_⟩
  unfold b__law_names_so
  simp only [dflF, kwF, shs, pickG, pickO, consO, Option.map_some, List.take_nil, wMeth, methD, joinD, strsOf_map, wSs_cons, wSs_nil, Later_nil, wS, wE, wT, wI, wX, wVl, wOl, wAv, mk3, mkT, mkI, opd, wIf, wOr, DL.wAnd, DL.wNot, wBool, wTru, wUn, wOp, wFn, wCons, wNil, wVCons, wVNil, wAvNil, wAvVal, wAvBor, wCall2, wC, wVar, wAndV, wOrV, wNotV, wIte, wLst, wTup, wDct, wChn, wSlc, partE, varOp, asOp, entry, content, resO, resOs, frz, wRet, wRetV, wRetN, wNext, wDrop, wSet, wUnp, wPar, wSti, wBrk, wCnt, wMut, muD, wSeq', wFor, wWhile, wLc, wRng1, wRng2, wZip, itemsD, nth, bindTg, bindTgs, noOw, wipeS, restore, wback_val, wback_nil, wback_bor, List.nodup_nil, List.nodup_cons, List.not_mem_nil, bors, resA, pairD, keyD, le_size, List.replicate_succ, List.replicate_zero, List.length_cons, List.length_nil, List.cons_append, List.nil_append, List.getElem?_cons_zero, List.getElem?_cons_succ, List.getElem?_nil, List.set_cons_zero, List.set_cons_succ, Option.isSome_some, List.map_cons, List.map_nil, List.all_cons, List.all_nil, List.any_cons, List.any_nil, Nat.reduceSub, Nat.reduceAdd, Nat.reduceLT, Nat.reduceLeDiff, reduceIte, reduceCtorEq, Bool.not_true, Bool.not_false, Bool.false_eq_true, and_true, true_and, List.drop_zero, List.drop_succ_cons, List.take_succ_cons, List.take_zero, lenD, intD, boolD, strD, listD, tupleD, allD, anyD, blsD, cmpB, cmpD, binD, addD, subD, mulD, fdivD, modD, powD, negD, idxD, slcD, truD, ltD, gtD, leD, geD, eqD_int, eqD_bl, eqD_str, eqD_non, L2.atI, ixN_lit, Int.reduceToNat, Option.bind_some, List.length_map, List.set_cons_zero, List.set_cons_succ, isNon, inD_ss, inStr_one, isiD, seqOf, lstOf, String.reduceNe, String.reduceEq, ne_eq, not_false_eq_true, not_true_eq_false, Bool.or_true, Bool.or_false, Bool.true_or, Bool.false_or, Bool.and_true, Bool.and_false, Bool.true_and, Bool.false_and, isT_NoneType_bool, isT_NoneType_int, isT_NoneType_str, isT_NoneType_list, isT_NoneType_tuple, isT_NoneType_dict, isT_bool_bool, isT_bool_int, isT_bool_str, isT_bool_list, isT_bool_tuple, isT_bool_dict, isT_int_bool, isT_int_int, isT_int_str, isT_int_list, isT_int_tuple, isT_int_dict, isT_str_bool, isT_str_int, isT_str_str, isT_str_list, isT_str_tuple, isT_str_dict, isT_list_bool, isT_list_int, isT_list_str, isT_list_list, isT_list_tuple, isT_list_dict, isT_tuple_bool, isT_tuple_int, isT_tuple_str, isT_tuple_list, isT_tuple_tuple, isT_tuple_dict, isT_dict_bool, isT_dict_int, isT_dict_str, isT_dict_list, isT_dict_tuple, isT_dict_dict, tyN_non, tyN_bl, tyN_int, tyN_str, tyN_lst, tyN_tup, tyN_klst, tyN_dic]
  refine ⟨d, rfl, hd, fun o => ?_⟩
  simp only [dflF, kwF, shs, pickG, pickO, consO, Option.map_some, List.take_nil, wMeth, methD, joinD, strsOf_map, wSs_cons, wSs_nil, Later_nil, wS, wE, wT, wI, wX, wVl, wOl, wAv, mk3, mkT, mkI, opd, wIf, wOr, DL.wAnd, DL.wNot, wBool, wTru, wUn, wOp, wFn, wCons, wNil, wVCons, wVNil, wAvNil, wAvVal, wAvBor, wCall2, wC, wVar, wAndV, wOrV, wNotV, wIte, wLst, wTup, wDct, wChn, wSlc, partE, varOp, asOp, entry, content, resO, resOs, frz, wRet, wRetV, wRetN, wNext, wDrop, wSet, wUnp, wPar, wSti, wBrk, wCnt, wMut, muD, wSeq', wFor, wWhile, wLc, wRng1, wRng2, wZip, itemsD, nth, bindTg, bindTgs, noOw, wipeS, restore, wback_val, wback_nil, wback_bor, List.nodup_nil, List.nodup_cons, List.not_mem_nil, bors, resA, pairD, keyD, le_size, List.replicate_succ, List.replicate_zero, List.length_cons, List.length_nil, List.cons_append, List.nil_append, List.getElem?_cons_zero, List.getElem?_cons_succ, List.getElem?_nil, List.set_cons_zero, List.set_cons_succ, Option.isSome_some, List.map_cons, List.map_nil, List.all_cons, List.all_nil, List.any_cons, List.any_nil, Nat.reduceSub, Nat.reduceAdd, Nat.reduceLT, Nat.reduceLeDiff, reduceIte, reduceCtorEq, Bool.not_true, Bool.not_false, Bool.false_eq_true, and_true, true_and, List.drop_zero, List.drop_succ_cons, List.take_succ_cons, List.take_zero, lenD, intD, boolD, strD, listD, tupleD, allD, anyD, blsD, cmpB, cmpD, binD, addD, subD, mulD, fdivD, modD, powD, negD, idxD, slcD, truD, ltD, gtD, leD, geD, eqD_int, eqD_bl, eqD_str, eqD_non, L2.atI, ixN_lit, Int.reduceToNat, Option.bind_some, List.length_map, List.set_cons_zero, List.set_cons_succ, isNon, inD_ss, inStr_one, isiD, seqOf, lstOf, String.reduceNe, String.reduceEq, ne_eq, not_false_eq_true, not_true_eq_false, Bool.or_true, Bool.or_false, Bool.true_or, Bool.false_or, Bool.and_true, Bool.and_false, Bool.true_and, Bool.false_and, isT_NoneType_bool, isT_NoneType_int, isT_NoneType_str, isT_NoneType_list, isT_NoneType_tuple, isT_NoneType_dict, isT_bool_bool, isT_bool_int, isT_bool_str, isT_bool_list, isT_bool_tuple, isT_bool_dict, isT_int_bool, isT_int_int, isT_int_str, isT_int_list, isT_int_tuple, isT_int_dict, isT_str_bool, isT_str_int, isT_str_str, isT_str_list, isT_str_tuple, isT_str_dict, isT_list_bool, isT_list_int, isT_list_str, isT_list_list, isT_list_tuple, isT_list_dict, isT_tuple_bool, isT_tuple_int, isT_tuple_str, isT_tuple_list, isT_tuple_tuple, isT_tuple_dict, isT_dict_bool, isT_dict_int, isT_dict_str, isT_dict_list, isT_dict_tuple, isT_dict_dict, tyN_non, tyN_bl, tyN_int, tyN_str, tyN_lst, tyN_tup, tyN_klst, tyN_dic]
  (refine later ?_; simp only [dflF, kwF, shs, pickG, pickO, consO, Option.map_some, List.take_nil, wMeth, methD, joinD, strsOf_map, wSs_cons, wSs_nil, Later_nil, wS, wE, wT, wI, wX, wVl, wOl, wAv, mk3, mkT, mkI, opd, wIf, wOr, DL.wAnd, DL.wNot, wBool, wTru, wUn, wOp, wFn, wCons, wNil, wVCons, wVNil, wAvNil, wAvVal, wAvBor, wCall2, wC, wVar, wAndV, wOrV, wNotV, wIte, wLst, wTup, wDct, wChn, wSlc, partE, varOp, asOp, entry, content, resO, resOs, frz, wRet, wRetV, wRetN, wNext, wDrop, wSet, wUnp, wPar, wSti, wBrk, wCnt, wMut, muD, wSeq', wFor, wWhile, wLc, wRng1, wRng2, wZip, itemsD, nth, bindTg, bindTgs, noOw, wipeS, restore, wback_val, wback_nil, wback_bor, List.nodup_nil, List.nodup_cons, List.not_mem_nil, bors, resA, pairD, keyD, le_size, List.replicate_succ, List.replicate_zero, List.length_cons, List.length_nil, List.cons_append, List.nil_append, List.getElem?_cons_zero, List.getElem?_cons_succ, List.getElem?_nil, List.set_cons_zero, List.set_cons_succ, Option.isSome_some, List.map_cons, List.map_nil, List.all_cons, List.all_nil, List.any_cons, List.any_nil, Nat.reduceSub, Nat.reduceAdd, Nat.reduceLT, Nat.reduceLeDiff, reduceIte, reduceCtorEq, Bool.not_true, Bool.not_false, Bool.false_eq_true, and_true, true_and, List.drop_zero, List.drop_succ_cons, List.take_succ_cons, List.take_zero, lenD, intD, boolD, strD, listD, tupleD, allD, anyD, blsD, cmpB, cmpD, binD, addD, subD, mulD, fdivD, modD, powD, negD, idxD, slcD, truD, ltD, gtD, leD, geD, eqD_int, eqD_bl, eqD_str, eqD_non, L2.atI, ixN_lit, Int.reduceToNat, Option.bind_some, List.length_map, List.set_cons_zero, List.set_cons_succ, isNon, inD_ss, inStr_one, isiD, seqOf, lstOf, String.reduceNe, String.reduceEq, ne_eq, not_false_eq_true, not_true_eq_false, Bool.or_true, Bool.or_false, Bool.true_or, Bool.false_or, Bool.and_true, Bool.and_false, Bool.true_and, Bool.false_and, isT_NoneType_bool, isT_NoneType_int, isT_NoneType_str, isT_NoneType_list, isT_NoneType_tuple, isT_NoneType_dict, isT_bool_bool, isT_bool_int, isT_bool_str, isT_bool_list, isT_bool_tuple, isT_bool_dict, isT_int_bool, isT_int_int, isT_int_str, isT_int_list, isT_int_tuple, isT_int_dict, isT_str_bool, isT_str_int, isT_str_str, isT_str_list, isT_str_tuple, isT_str_dict, isT_list_bool, isT_list_int, isT_list_str, isT_list_list, isT_list_tuple, isT_list_dict, isT_tuple_bool, isT_tuple_int, isT_tuple_str, isT_tuple_list, isT_tuple_tuple, isT_tuple_dict, isT_dict_bool, isT_dict_int, isT_dict_str, isT_dict_list, isT_dict_tuple, isT_dict_dict, tyN_non, tyN_bl, tyN_int, tyN_str, tyN_lst, tyN_tup, tyN_klst, tyN_dic])
  refine ⟨d, rfl, hd, fun o => ?_⟩
  simp only [dflF, kwF, shs, pickG, pickO, consO, Option.map_some, List.take_nil, wMeth, methD, joinD, strsOf_map, wSs_cons, wSs_nil, Later_nil, wS, wE, wT, wI, wX, wVl, wOl, wAv, mk3, mkT, mkI, opd, wIf, wOr, DL.wAnd, DL.wNot, wBool, wTru, wUn, wOp, wFn, wCons, wNil, wVCons, wVNil, wAvNil, wAvVal, wAvBor, wCall2, wC, wVar, wAndV, wOrV, wNotV, wIte, wLst, wTup, wDct, wChn, wSlc, partE, varOp, asOp, entry, content, resO, resOs, frz, wRet, wRetV, wRetN, wNext, wDrop, wSet, wUnp, wPar, wSti, wBrk, wCnt, wMut, muD, wSeq', wFor, wWhile, wLc, wRng1, wRng2, wZip, itemsD, nth, bindTg, bindTgs, noOw, wipeS, restore, wback_val, wback_nil, wback_bor, List.nodup_nil, List.nodup_cons, List.not_mem_nil, bors, resA, pairD, keyD, le_size, List.replicate_succ, List.replicate_zero, List.length_cons, List.length_nil, List.cons_append, List.nil_append, List.getElem?_cons_zero, List.getElem?_cons_succ, List.getElem?_nil, List.set_cons_zero, List.set_cons_succ, Option.isSome_some, List.map_cons, List.map_nil, List.all_cons, List.all_nil, List.any_cons, List.any_nil, Nat.reduceSub, Nat.reduceAdd, Nat.reduceLT, Nat.reduceLeDiff, reduceIte, reduceCtorEq, Bool.not_true, Bool.not_false, Bool.false_eq_true, and_true, true_and, List.drop_zero, List.drop_succ_cons, List.take_succ_cons, List.take_zero, lenD, intD, boolD, strD, listD, tupleD, allD, anyD, blsD, cmpB, cmpD, binD, addD, subD, mulD, fdivD, modD, powD, negD, idxD, slcD, truD, ltD, gtD, leD, geD, eqD_int, eqD_bl, eqD_str, eqD_non, L2.atI, ixN_lit, Int.reduceToNat, Option.bind_some, List.length_map, List.set_cons_zero, List.set_cons_succ, isNon, inD_ss, inStr_one, isiD, seqOf, lstOf, String.reduceNe, String.reduceEq, ne_eq, not_false_eq_true, not_true_eq_false, Bool.or_true, Bool.or_false, Bool.true_or, Bool.false_or, Bool.and_true, Bool.and_false, Bool.true_and, Bool.false_and, isT_NoneType_bool, isT_NoneType_int, isT_NoneType_str, isT_NoneType_list, isT_NoneType_tuple, isT_NoneType_dict, isT_bool_bool, isT_bool_int, isT_bool_str, isT_bool_list, isT_bool_tuple, isT_bool_dict, isT_int_bool, isT_int_int, isT_int_str, isT_int_list, isT_int_tuple, isT_int_dict, isT_str_bool, isT_str_int, isT_str_str, isT_str_list, isT_str_tuple, isT_str_dict, isT_list_bool, isT_list_int, isT_list_str, isT_list_list, isT_list_tuple, isT_list_dict, isT_tuple_bool, isT_tuple_int, isT_tuple_str, isT_tuple_list, isT_tuple_tuple, isT_tuple_dict, isT_dict_bool, isT_dict_int, isT_dict_str, isT_dict_list, isT_dict_tuple, isT_dict_dict, tyN_non, tyN_bl, tyN_int, tyN_str, tyN_lst, tyN_tup, tyN_klst, tyN_dic]
  refine ⟨d, rfl, hd, fun o2 o3 => ?_⟩
  simp only [dflF, kwF, shs, pickG, pickO, consO, Option.map_some, List.take_nil, wMeth, methD, joinD, strsOf_map, wSs_cons, wSs_nil, Later_nil, wS, wE, wT, wI, wX, wVl, wOl, wAv, mk3, mkT, mkI, opd, wIf, wOr, DL.wAnd, DL.wNot, wBool, wTru, wUn, wOp, wFn, wCons, wNil, wVCons, wVNil, wAvNil, wAvVal, wAvBor, wCall2, wC, wVar, wAndV, wOrV, wNotV, wIte, wLst, wTup, wDct, wChn, wSlc, partE, varOp, asOp, entry, content, resO, resOs, frz, wRet, wRetV, wRetN, wNext, wDrop, wSet, wUnp, wPar, wSti, wBrk, wCnt, wMut, muD, wSeq', wFor, wWhile, wLc, wRng1, wRng2, wZip, itemsD, nth, bindTg, bindTgs, noOw, wipeS, restore, wback_val, wback_nil, wback_bor, List.nodup_nil, List.nodup_cons, List.not_mem_nil, bors, resA, pairD, keyD, le_size, List.replicate_succ, List.replicate_zero, List.length_cons, List.length_nil, List.cons_append, List.nil_append, List.getElem?_cons_zero, List.getElem?_cons_succ, List.getElem?_nil, List.set_cons_zero, List.set_cons_succ, Option.isSome_some, List.map_cons, List.map_nil, List.all_cons, List.all_nil, List.any_cons, List.any_nil, Nat.reduceSub, Nat.reduceAdd, Nat.reduceLT, Nat.reduceLeDiff, reduceIte, reduceCtorEq, Bool.not_true, Bool.not_false, Bool.false_eq_true, and_true, true_and, List.drop_zero, List.drop_succ_cons, List.take_succ_cons, List.take_zero, lenD, intD, boolD, strD, listD, tupleD, allD, anyD, blsD, cmpB, cmpD, binD, addD, subD, mulD, fdivD, modD, powD, negD, idxD, slcD, truD, ltD, gtD, leD, geD, eqD_int, eqD_bl, eqD_str, eqD_non, L2.atI, ixN_lit, Int.reduceToNat, Option.bind_some, List.length_map, List.set_cons_zero, List.set_cons_succ, isNon, inD_ss, inStr_one, isiD, seqOf, lstOf, String.reduceNe, String.reduceEq, ne_eq, not_false_eq_true, not_true_eq_false, Bool.or_true, Bool.or_false, Bool.true_or, Bool.false_or, Bool.and_true, Bool.and_false, Bool.true_and, Bool.false_and, isT_NoneType_bool, isT_NoneType_int, isT_NoneType_str, isT_NoneType_list, isT_NoneType_tuple, isT_NoneType_dict, isT_bool_bool, isT_bool_int, isT_bool_str, isT_bool_list, isT_bool_tuple, isT_bool_dict, isT_int_bool, isT_int_int, isT_int_str, isT_int_list, isT_int_tuple, isT_int_dict, isT_str_bool, isT_str_int, isT_str_str, isT_str_list, isT_str_tuple, isT_str_dict, isT_list_bool, isT_list_int, isT_list_str, isT_list_list, isT_list_tuple, isT_list_dict, isT_tuple_bool, isT_tuple_int, isT_tuple_str, isT_tuple_list, isT_tuple_tuple, isT_tuple_dict, isT_dict_bool, isT_dict_int, isT_dict_str, isT_dict_list, isT_dict_tuple, isT_dict_dict, tyN_non, tyN_bl, tyN_int, tyN_str, tyN_lst, tyN_tup, tyN_klst, tyN_dic]
  refine ⟨_, rfl, like_flat rfl (by show 2 ≤ 1000000; decide), fun o => ?_⟩
  exact hR _
theorem ok__law_names_so {P : Program} {w : World} {K : PySem.W.Frag} {mg : Str → Option Value} {base : Heap} (V : VE K mg) : ∃ fd, FunD K "_law_names_so" "_law_names_so" (defArgs (top 19)) (defBody (top 19)) (defScope (top 19)) [] [] (He.ga K "_law_names_so") fd ∧ FnOk P w K mg base CX0 3 (He.ga K "_law_names_so") fd ["_law_thing"] (spOf K F__law_names_so) := by
  obtain ⟨fd, Fd⟩ := V.def_ 12 (d := dd "_law_names_so" 19 []) rfl
  exact ⟨fd, Fd, fn_ok Fd (d__law_names_so 2) (mkTab (.cons (cj__law_is_title_1 V (by first | decide | omega)) (.cons (cj__law_like_2 V (by first | decide | omega)) (.cons (cj_is_name_1 V (by first | decide | omega)) (.cons (cj_is_name_0_value V (by first | decide | omega)) .nil)))) .nil (show ([] : List (Str × Nat)).all (fun c => decide (c.1 ∈ FR)) = true by decide +kernel) .nil .nil noAt_ok V.free) rfl p__law_names_so⟩
theorem cj__law_names_so_1 {P : Program} {w : World} {K : PySem.W.Frag} {mg : Str → Option Value} {base : Heap} {lv : Nat} (V : VE K mg) (h : 3 ≤ lv) : CallJ P w K mg base lv "_law_names_so" 1 [] F__law_names_so := by
  obtain ⟨fd, Fd, F⟩ := ok__law_names_so (P := P) (w := w) (base := base) V
  exact callJ F h (V.glo 12 rfl) Fd.kp (FunD.bindsN Fd (fun _ _ _ _ _ _ us hl => match us, hl with | [_], _ => rfl)) 1
def C__law_numbers_so (lv : Nat) : CC := { N := ["_law_thing", "_law_low", "_law_high", "_law_told", "_law_due"], sc := defScope (top 20), lv := lv, kp := [], brw := [], calls := [("is_number", 1, []), ("is_number", 2, []), ("is_number", 3, []), ("is_number", 0, ["most", "least", "value"]), ("is_number", 0, ["value", "most"]), ("is_number", 1, ["least"]), ("is_number", 2, ["most"]), ("_law_within", 3, []), ("_law_like", 2, [])], bis := [], cons := [], fr := FR }
def b__law_numbers_so : List S := [(.set 3 (.lst [(.call 0 [(.var 0)] []), (.call 1 [(.var 0), (.var 1)] []), (.call 2 [(.var 0), (.var 1), (.var 2)] [])])), (.set 3 (.bin .Add (.var 3) (.lst [(.call 3 [] [(.var 2), (.var 1), (.var 0)])]))), (.set 3 (.bin .Add (.var 3) (.lst [(.call 4 [] [(.var 0), (.var 2)]), (.call 5 [(.var 0)] [(.var 1)]), (.call 6 [(.var 0), (.var 1)] [.non])]))), (.set 4 (.lst [(.call 7 [(.var 0), (.int 0), .non] []), (.call 7 [(.var 0), (.var 1), .non] []), (.call 7 [(.var 0), (.var 1), (.var 2)] [])])), (.set 4 (.bin .Add (.var 4) (.lst [(.call 7 [(.var 0), (.var 1), (.var 2)] []), (.call 7 [(.var 0), (.int 0), (.var 2)] []), (.call 7 [(.var 0), (.var 1), .non] [])]))), (.ret (.call 8 [(.var 3), (.bin .Add (.var 4) (.lst [(.call 7 [(.var 0), (.var 1), .non] [])]))] []))]
theorem sc__law_numbers_so : FnScope ["_law_thing", "_law_low", "_law_high", "_law_told", "_law_due"] ["_law_thing", "_law_low", "_law_high"] (defScope (top 20)) := ⟨rfl, rfl, rfl, by decide +kernel, rfl, by decide +kernel, by decide +kernel⟩
theorem d__law_numbers_so (lv : Nat) : DefC (C__law_numbers_so lv) ["_law_thing", "_law_low", "_law_high"] (defArgs (top 20)) (defBody (top 20)) (defScope (top 20)) b__law_numbers_so := ⟨sc__law_numbers_so, rfl, rfl, (show ∀ i ∈ ([] : List Nat), i < 3 by decide), by kernel_rfl⟩
abbrev M__law_numbers_so : Sem := mkSem [] [(dflF ([.int 0, .non].drop 0) F_is_number), (dflF ([.int 0, .non].drop 1) F_is_number), F_is_number, (kwF 0 3 (fun as bs => pickG [(1, 2), (1, 1), (1, 0)] [.int 0, .non] as bs) F_is_number), (kwF 0 2 (fun as bs => pickG [(1, 0), (2, 0), (1, 1)] [.int 0, .non] as bs) F_is_number), (kwF 1 1 (fun as bs => pickG [(0, 0), (1, 0), (2, 1)] [.int 0, .non] as bs) F_is_number), (kwF 2 1 (fun as bs => pickG [(0, 0), (0, 1), (1, 0)] [.int 0, .non] as bs) F_is_number), F__law_within, (F__law_like 2)] [] [] [] noAt
def F__law_numbers_so : FS := fun args R => ∃ d a m, args = [.sh d, .sh (.int a), .sh m] ∧ tyN d ≠ "?" ∧ topOk m ∧ ∀ o, R (.sh (.bl true)) o
theorem p__law_numbers_so : ∀ args R, F__law_numbers_so args R → runF [] 3 5 (wSs M__law_numbers_so b__law_numbers_so) args R := by
  rintro args R ⟨d, a, m, rfl, hd, hm, hR⟩
  refine ⟨rfl, ?_⟩
  unfold b__law_numbers_so
  simp only [dflF, kwF, shs, pickG, pickO, consO, Option.map_some, List.take_nil, wMeth, methD, joinD, strsOf_map, wSs_cons, wSs_nil, Later_nil, wS, wE, wT, wI, wX, wVl, wOl, wAv, mk3, mkT, mkI, opd, wIf, wOr, DL.wAnd, DL.wNot, wBool, wTru, wUn, wOp, wFn, wCons, wNil, wVCons, wVNil, wAvNil, wAvVal, wAvBor, wCall2, wC, wVar, wAndV, wOrV, wNotV, wIte, wLst, wTup, wDct, wChn, wSlc, partE, varOp, asOp, entry, content, resO, resOs, frz, wRet, wRetV, wRetN, wNext, wDrop, wSet, wUnp, wPar, wSti, wBrk, wCnt, wMut, muD, wSeq', wFor, wWhile, wLc, wRng1, wRng2, wZip, itemsD, nth, bindTg, bindTgs, noOw, wipeS, restore, wback_val, wback_nil, wback_bor, List.nodup_nil, List.nodup_cons, List.not_mem_nil, bors, resA, pairD, keyD, le_size, List.replicate_succ, List.replicate_zero, List.length_cons, List.length_nil, List.cons_append, List.nil_append, List.getElem?_cons_zero, List.getElem?_cons_succ, List.getElem?_nil, List.set_cons_zero, List.set_cons_succ, Option.isSome_some, List.map_cons, List.map_nil, List.all_cons, List.all_nil, List.any_cons, List.any_nil, Nat.reduceSub, Nat.reduceAdd, Nat.reduceLT, Nat.reduceLeDiff, reduceIte, reduceCtorEq, Bool.not_true, Bool.not_false, Bool.false_eq_true, and_true, true_and, List.drop_zero, List.drop_succ_cons, List.take_succ_cons, List.take_zero, lenD, intD, boolD, strD, listD, tupleD, allD, anyD, blsD, cmpB, cmpD, binD, addD, subD, mulD, fdivD, modD, powD, negD, idxD, slcD, truD, ltD, gtD, leD, geD, eqD_int, eqD_bl, eqD_str, eqD_non, L2.atI, ixN_lit, Int.reduceToNat, Option.bind_some, List.length_map, List.set_cons_zero, List.set_cons_succ, isNon, inD_ss, inStr_one, isiD, seqOf, lstOf, String.reduceNe, String.reduceEq, ne_eq, not_false_eq_true, not_true_eq_false, Bool.or_true, Bool.or_false, Bool.true_or, Bool.false_or, Bool.and_true, Bool.and_false, Bool.true_and, Bool.false_and, isT_NoneType_bool, isT_NoneType_int, isT_NoneType_str, isT_NoneType_list, isT_NoneType_tuple, isT_NoneType_dict, isT_bool_bool, isT_bool_int, isT_bool_str, isT_bool_list, isT_bool_tuple, isT_bool_dict, isT_int_bool, isT_int_int, isT_int_str, isT_int_list, isT_int_tuple, isT_int_dict, isT_str_bool, isT_str_int, isT_str_str, isT_str_list, isT_str_tuple, isT_str_dict, isT_list_bool, isT_list_int, isT_list_str, isT_list_list, isT_list_tuple, isT_list_dict, isT_tuple_bool, isT_tuple_int, isT_tuple_str, isT_tuple_list, isT_tuple_tuple, isT_tuple_dict, isT_dict_bool, isT_dict_int, isT_dict_str, isT_dict_list, isT_dict_tuple, isT_dict_dict, tyN_non, tyN_bl, tyN_int, tyN_str, tyN_lst, tyN_tup, tyN_klst, tyN_dic]
  refine ⟨d, 0, _, rfl, hd, .inl rfl, fun o => ?_⟩
  simp only [dflF, kwF, shs, pickG, pickO, consO, Option.map_some, List.take_nil, wMeth, methD, joinD, strsOf_map, wSs_cons, wSs_nil, Later_nil, wS, wE, wT, wI, wX, wVl, wOl, wAv, mk3, mkT, mkI, opd, wIf, wOr, DL.wAnd, DL.wNot, wBool, wTru, wUn, wOp, wFn, wCons, wNil, wVCons, wVNil, wAvNil, wAvVal, wAvBor, wCall2, wC, wVar, wAndV, wOrV, wNotV, wIte, wLst, wTup, wDct, wChn, wSlc, partE, varOp, asOp, entry, content, resO, resOs, frz, wRet, wRetV, wRetN, wNext, wDrop, wSet, wUnp, wPar, wSti, wBrk, wCnt, wMut, muD, wSeq', wFor, wWhile, wLc, wRng1, wRng2, wZip, itemsD, nth, bindTg, bindTgs, noOw, wipeS, restore, wback_val, wback_nil, wback_bor, List.nodup_nil, List.nodup_cons, List.not_mem_nil, bors, resA, pairD, keyD, le_size, List.replicate_succ, List.replicate_zero, List.length_cons, List.length_nil, List.cons_append, List.nil_append, List.getElem?_cons_zero, List.getElem?_cons_succ, List.getElem?_nil, List.set_cons_zero, List.set_cons_succ, Option.isSome_some, List.map_cons, List.map_nil, List.all_cons, List.all_nil, List.any_cons, List.any_nil, Nat.reduceSub, Nat.reduceAdd, Nat.reduceLT, Nat.reduceLeDiff, reduceIte, reduceCtorEq, Bool.not_true, Bool.not_false, Bool.false_eq_true, and_true, true_and, List.drop_zero, List.drop_succ_cons, List.take_succ_cons, List.take_zero, lenD, intD, boolD, strD, listD, tupleD, allD, anyD, blsD, cmpB, cmpD, binD, addD, subD, mulD, fdivD, modD, powD, negD, idxD, slcD, truD, ltD, gtD, leD, geD, eqD_int, eqD_bl, eqD_str, eqD_non, L2.atI, ixN_lit, Int.reduceToNat, Option.bind_some, List.length_map, List.set_cons_zero, List.set_cons_succ, isNon, inD_ss, inStr_one, isiD, seqOf, lstOf, String.reduceNe, String.reduceEq, ne_eq, not_false_eq_true, not_true_eq_false, Bool.or_true, Bool.or_false, Bool.true_or, Bool.false_or, Bool.and_true, Bool.and_false, Bool.true_and, Bool.false_and, isT_NoneType_bool, isT_NoneType_int, isT_NoneType_str, isT_NoneType_list, isT_NoneType_tuple, isT_NoneType_dict, isT_bool_bool, isT_bool_int, isT_bool_str, isT_bool_list, isT_bool_tuple, isT_bool_dict, isT_int_bool, isT_int_int, isT_int_str, isT_int_list, isT_int_tuple, isT_int_dict, isT_str_bool, isT_str_int, isT_str_str, isT_str_list, isT_str_tuple, isT_str_dict, isT_list_bool, isT_list_int, isT_list_str, isT_list_list, isT_list_tuple, isT_list_dict, isT_tuple_bool, isT_tuple_int, isT_tuple_str, isT_tuple_list, isT_tuple_tuple, isT_tuple_dict, isT_dict_bool, isT_dict_int, isT_dict_str, isT_dict_list, isT_dict_tuple, isT_dict_dict, tyN_non, tyN_bl, tyN_int, tyN_str, tyN_lst, tyN_tup, tyN_klst, tyN_dic]
  refine ⟨d, a, _, rfl, hd, .inl rfl, fun o => ?_⟩
  simp only [dflF, kwF, shs, pickG, pickO, consO, Option.map_some, List.take_nil, wMeth, methD, joinD, strsOf_map, wSs_cons, wSs_nil, Later_nil, wS, wE, wT, wI, wX, wVl, wOl, wAv, mk3, mkT, mkI, opd, wIf, wOr, DL.wAnd, DL.wNot, wBool, wTru, wUn, wOp, wFn, wCons, wNil, wVCons, wVNil, wAvNil, wAvVal, wAvBor, wCall2, wC, wVar, wAndV, wOrV, wNotV, wIte, wLst, wTup, wDct, wChn, wSlc, partE, varOp, asOp, entry, content, resO, resOs, frz, wRet, wRetV, wRetN, wNext, wDrop, wSet, wUnp, wPar, wSti, wBrk, wCnt, wMut, muD, wSeq', wFor, wWhile, wLc, wRng1, wRng2, wZip, itemsD, nth, bindTg, bindTgs, noOw, wipeS, restore, wback_val, wback_nil, wback_bor, List.nodup_nil, List.nodup_cons, List.not_mem_nil, bors, resA, pairD, keyD, le_size, List.replicate_succ, List.replicate_zero, List.length_cons, List.length_nil, List.cons_append, List.nil_append, List.getElem?_cons_zero, List.getElem?_cons_succ, List.getElem?_nil, List.set_cons_zero, List.set_cons_succ, Option.isSome_some, List.map_cons, List.map_nil, List.all_cons, List.all_nil, List.any_cons, List.any_nil, Nat.reduceSub, Nat.reduceAdd, Nat.reduceLT, Nat.reduceLeDiff, reduceIte, reduceCtorEq, Bool.not_true, Bool.not_false, Bool.false_eq_true, and_true, true_and, List.drop_zero, List.drop_succ_cons, List.take_succ_cons, List.take_zero, lenD, intD, boolD, strD, listD, tupleD, allD, anyD, blsD, cmpB, cmpD, binD, addD, subD, mulD, fdivD, modD, powD, negD, idxD, slcD, truD, ltD, gtD, leD, geD, eqD_int, eqD_bl, eqD_str, eqD_non, L2.atI, ixN_lit, Int.reduceToNat, Option.bind_some, List.length_map, List.set_cons_zero, List.set_cons_succ, isNon, inD_ss, inStr_one, isiD, seqOf, lstOf, String.reduceNe, String.reduceEq, ne_eq, not_false_eq_true, not_true_eq_false, Bool.or_true, Bool.or_false, Bool.true_or, Bool.false_or, Bool.and_true, Bool.and_false, Bool.true_and, Bool.false_and, isT_NoneType_bool, isT_NoneType_int, isT_NoneType_str, isT_NoneType_list, isT_NoneType_tuple, isT_NoneType_dict, isT_bool_bool, isT_bool_int, isT_bool_str, isT_bool_list, isT_bool_tuple, isT_bool_dict, isT_int_bool, isT_int_int, isT_int_str, isT_int_list, isT_int_tuple, isT_int_dict, isT_str_bool, isT_str_int, isT_str_str, isT_str_list, isT_str_tuple, isT_str_dict, isT_list_bool, isT_list_int, isT_list_str, isT_list_list, isT_list_tuple, isT_list_dict, isT_tuple_bool, isT_tuple_int, isT_tuple_str, isT_tuple_list, isT_tuple_tuple, isT_tuple_dict, isT_dict_bool, isT_dict_int, isT_dict_str, isT_dict_list, isT_dict_tuple, isT_dict_dict, tyN_non, tyN_bl, tyN_int, tyN_str, tyN_lst, tyN_tup, tyN_klst, tyN_dic]
  refine ⟨d, a, m, rfl, hd, hm, fun o => ?_⟩
  simp only [dflF, kwF, shs, pickG, pickO, consO, Option.map_some, List.take_nil, wMeth, methD, joinD, strsOf_map, wSs_cons, wSs_nil, Later_nil, wS, wE, wT, wI, wX, wVl, wOl, wAv, mk3, mkT, mkI, opd, wIf, wOr, DL.wAnd, DL.wNot, wBool, wTru, wUn, wOp, wFn, wCons, wNil, wVCons, wVNil, wAvNil, wAvVal, wAvBor, wCall2, wC, wVar, wAndV, wOrV, wNotV, wIte, wLst, wTup, wDct, wChn, wSlc, partE, varOp, asOp, entry, content, resO, resOs, frz, wRet, wRetV, wRetN, wNext, wDrop, wSet, wUnp, wPar, wSti, wBrk, wCnt, wMut, muD, wSeq', wFor, wWhile, wLc, wRng1, wRng2, wZip, itemsD, nth, bindTg, bindTgs, noOw, wipeS, restore, wback_val, wback_nil, wback_bor, List.nodup_nil, List.nodup_cons, List.not_mem_nil, bors, resA, pairD, keyD, le_size, List.replicate_succ, List.replicate_zero, List.length_cons, List.length_nil, List.cons_append, List.nil_append, List.getElem?_cons_zero, List.getElem?_cons_succ, List.getElem?_nil, List.set_cons_zero, List.set_cons_succ, Option.isSome_some, List.map_cons, List.map_nil, List.all_cons, List.all_nil, List.any_cons, List.any_nil, Nat.reduceSub, Nat.reduceAdd, Nat.reduceLT, Nat.reduceLeDiff, reduceIte, reduceCtorEq, Bool.not_true, Bool.not_false, Bool.false_eq_true, and_true, true_and, List.drop_zero, List.drop_succ_cons, List.take_succ_cons, List.take_zero, lenD, intD, boolD, strD, listD, tupleD, allD, anyD, blsD, cmpB, cmpD, binD, addD, subD, mulD, fdivD, modD, powD, negD, idxD, slcD, truD, ltD, gtD, leD, geD, eqD_int, eqD_bl, eqD_str, eqD_non, L2.atI, ixN_lit, Int.reduceToNat, Option.bind_some, List.length_map, List.set_cons_zero, List.set_cons_succ, isNon, inD_ss, inStr_one, isiD, seqOf, lstOf, String.reduceNe, String.reduceEq, ne_eq, not_false_eq_true, not_true_eq_false, Bool.or_true, Bool.or_false, Bool.true_or, Bool.false_or, Bool.and_true, Bool.and_false, Bool.true_and, Bool.false_and, isT_NoneType_bool, isT_NoneType_int, isT_NoneType_str, isT_NoneType_list, isT_NoneType_tuple, isT_NoneType_dict, isT_bool_bool, isT_bool_int, isT_bool_str, isT_bool_list, isT_bool_tuple, isT_bool_dict, isT_int_bool, isT_int_int, isT_int_str, isT_int_list, isT_int_tuple, isT_int_dict, isT_str_bool, isT_str_int, isT_str_str, isT_str_list, isT_str_tuple, isT_str_dict, isT_list_bool, isT_list_int, isT_list_str, isT_list_list, isT_list_tuple, isT_list_dict, isT_tuple_bool, isT_tuple_int, isT_tuple_str, isT_tuple_list, isT_tuple_tuple, isT_tuple_dict, isT_dict_bool, isT_dict_int, isT_dict_str, isT_dict_list, isT_dict_tuple, isT_dict_dict, tyN_non, tyN_bl, tyN_int, tyN_str, tyN_lst, tyN_tup, tyN_klst, tyN_dic]
  (refine later ?_; simp only [dflF, kwF, shs, pickG, pickO, consO, Option.map_some, List.take_nil, wMeth, methD, joinD, strsOf_map, wSs_cons, wSs_nil, Later_nil, wS, wE, wT, wI, wX, wVl, wOl, wAv, mk3, mkT, mkI, opd, wIf, wOr, DL.wAnd, DL.wNot, wBool, wTru, wUn, wOp, wFn, wCons, wNil, wVCons, wVNil, wAvNil, wAvVal, wAvBor, wCall2, wC, wVar, wAndV, wOrV, wNotV, wIte, wLst, wTup, wDct, wChn, wSlc, partE, varOp, asOp, entry, content, resO, resOs, frz, wRet, wRetV, wRetN, wNext, wDrop, wSet, wUnp, wPar, wSti, wBrk, wCnt, wMut, muD, wSeq', wFor, wWhile, wLc, wRng1, wRng2, wZip, itemsD, nth, bindTg, bindTgs, noOw, wipeS, restore, wback_val, wback_nil, wback_bor, List.nodup_nil, List.nodup_cons, List.not_mem_nil, bors, resA, pairD, keyD, le_size, List.replicate_succ, List.replicate_zero, List.length_cons, List.length_nil, List.cons_append, List.nil_append, List.getElem?_cons_zero, List.getElem?_cons_succ, List.getElem?_nil, List.set_cons_zero, List.set_cons_succ, Option.isSome_some, List.map_cons, List.map_nil, List.all_cons, List.all_nil, List.any_cons, List.any_nil, Nat.reduceSub, Nat.reduceAdd, Nat.reduceLT, Nat.reduceLeDiff, reduceIte, reduceCtorEq, Bool.not_true, Bool.not_false, Bool.false_eq_true, and_true, true_and, List.drop_zero, List.drop_succ_cons, List.take_succ_cons, List.take_zero, lenD, intD, boolD, strD, listD, tupleD, allD, anyD, blsD, cmpB, cmpD, binD, addD, subD, mulD, fdivD, modD, powD, negD, idxD, slcD, truD, ltD, gtD, leD, geD, eqD_int, eqD_bl, eqD_str, eqD_non, L2.atI, ixN_lit, Int.reduceToNat, Option.bind_some, List.length_map, List.set_cons_zero, List.set_cons_succ, isNon, inD_ss, inStr_one, isiD, seqOf, lstOf, String.reduceNe, String.reduceEq, ne_eq, not_false_eq_true, not_true_eq_false, Bool.or_true, Bool.or_false, Bool.true_or, Bool.false_or, Bool.and_true, Bool.and_false, Bool.true_and, Bool.false_and, isT_NoneType_bool, isT_NoneType_int, isT_NoneType_str, isT_NoneType_list, isT_NoneType_tuple, isT_NoneType_dict, isT_bool_bool, isT_bool_int, isT_bool_str, isT_bool_list, isT_bool_tuple, isT_bool_dict, isT_int_bool, isT_int_int, isT_int_str, isT_int_list, isT_int_tuple, isT_int_dict, isT_str_bool, isT_str_int, isT_str_str, isT_str_list, isT_str_tuple, isT_str_dict, isT_list_bool, isT_list_int, isT_list_str, isT_list_list, isT_list_tuple, isT_list_dict, isT_tuple_bool, isT_tuple_int, isT_tuple_str, isT_tuple_list, isT_tuple_tuple, isT_tuple_dict, isT_dict_bool, isT_dict_int, isT_dict_str, isT_dict_list, isT_dict_tuple, isT_dict_dict, tyN_non, tyN_bl, tyN_int, tyN_str, tyN_lst, tyN_tup, tyN_klst, tyN_dic])
  refine ⟨d, a, m, rfl, hd, hm, fun o o2 => ?_⟩
  simp only [dflF, kwF, shs, pickG, pickO, consO, Option.map_some, List.take_nil, wMeth, methD, joinD, strsOf_map, wSs_cons, wSs_nil, Later_nil, wS, wE, wT, wI, wX, wVl, wOl, wAv, mk3, mkT, mkI, opd, wIf, wOr, DL.wAnd, DL.wNot, wBool, wTru, wUn, wOp, wFn, wCons, wNil, wVCons, wVNil, wAvNil, wAvVal, wAvBor, wCall2, wC, wVar, wAndV, wOrV, wNotV, wIte, wLst, wTup, wDct, wChn, wSlc, partE, varOp, asOp, entry, content, resO, resOs, frz, wRet, wRetV, wRetN, wNext, wDrop, wSet, wUnp, wPar, wSti, wBrk, wCnt, wMut, muD, wSeq', wFor, wWhile, wLc, wRng1, wRng2, wZip, itemsD, nth, bindTg, bindTgs, noOw, wipeS, restore, wback_val, wback_nil, wback_bor, List.nodup_nil, List.nodup_cons, List.not_mem_nil, bors, resA, pairD, keyD, le_size, List.replicate_succ, List.replicate_zero, List.length_cons, List.length_nil, List.cons_append, List.nil_append, List.getElem?_cons_zero, List.getElem?_cons_succ, List.getElem?_nil, List.set_cons_zero, List.set_cons_succ, Option.isSome_some, List.map_cons, List.map_nil, List.all_cons, List.all_nil, List.any_cons, List.any_nil, Nat.reduceSub, Nat.reduceAdd, Nat.reduceLT, Nat.reduceLeDiff, reduceIte, reduceCtorEq, Bool.not_true, Bool.not_false, Bool.false_eq_true, and_true, true_and, List.drop_zero, List.drop_succ_cons, List.take_succ_cons, List.take_zero, lenD, intD, boolD, strD, listD, tupleD, allD, anyD, blsD, cmpB, cmpD, binD, addD, subD, mulD, fdivD, modD, powD, negD, idxD, slcD, truD, ltD, gtD, leD, geD, eqD_int, eqD_bl, eqD_str, eqD_non, L2.atI, ixN_lit, Int.reduceToNat, Option.bind_some, List.length_map, List.set_cons_zero, List.set_cons_succ, isNon, inD_ss, inStr_one, isiD, seqOf, lstOf, String.reduceNe, String.reduceEq, ne_eq, not_false_eq_true, not_true_eq_false, Bool.or_true, Bool.or_false, Bool.true_or, Bool.false_or, Bool.and_true, Bool.and_false, Bool.true_and, Bool.false_and, isT_NoneType_bool, isT_NoneType_int, isT_NoneType_str, isT_NoneType_list, isT_NoneType_tuple, isT_NoneType_dict, isT_bool_bool, isT_bool_int, isT_bool_str, isT_bool_list, isT_bool_tuple, isT_bool_dict, isT_int_bool, isT_int_int, isT_int_str, isT_int_list, isT_int_tuple, isT_int_dict, isT_str_bool, isT_str_int, isT_str_str, isT_str_list, isT_str_tuple, isT_str_dict, isT_list_bool, isT_list_int, isT_list_str, isT_list_list, isT_list_tuple, isT_list_dict, isT_tuple_bool, isT_tuple_int, isT_tuple_str, isT_tuple_list, isT_tuple_tuple, isT_tuple_dict, isT_dict_bool, isT_dict_int, isT_dict_str, isT_dict_list, isT_dict_tuple, isT_dict_dict, tyN_non, tyN_bl, tyN_int, tyN_str, tyN_lst, tyN_tup, tyN_klst, tyN_dic]
  (refine later ?_; simp only [dflF, kwF, shs, pickG, pickO, consO, Option.map_some, List.take_nil, wMeth, methD, joinD, strsOf_map, wSs_cons, wSs_nil, Later_nil, wS, wE, wT, wI, wX, wVl, wOl, wAv, mk3, mkT, mkI, opd, wIf, wOr, DL.wAnd, DL.wNot, wBool, wTru, wUn, wOp, wFn, wCons, wNil, wVCons, wVNil, wAvNil, wAvVal, wAvBor, wCall2, wC, wVar, wAndV, wOrV, wNotV, wIte, wLst, wTup, wDct, wChn, wSlc, partE, varOp, asOp, entry, content, resO, resOs, frz, wRet, wRetV, wRetN, wNext, wDrop, wSet, wUnp, wPar, wSti, wBrk, wCnt, wMut, muD, wSeq', wFor, wWhile, wLc, wRng1, wRng2, wZip, itemsD, nth, bindTg, bindTgs, noOw, wipeS, restore, wback_val, wback_nil, wback_bor, List.nodup_nil, List.nodup_cons, List.not_mem_nil, bors, resA, pairD, keyD, le_size, List.replicate_succ, List.replicate_zero, List.length_cons, List.length_nil, List.cons_append, List.nil_append, List.getElem?_cons_zero, List.getElem?_cons_succ, List.getElem?_nil, List.set_cons_zero, List.set_cons_succ, Option.isSome_some, List.map_cons, List.map_nil, List.all_cons, List.all_nil, List.any_cons, List.any_nil, Nat.reduceSub, Nat.reduceAdd, Nat.reduceLT, Nat.reduceLeDiff, reduceIte, reduceCtorEq, Bool.not_true, Bool.not_false, Bool.false_eq_true, and_true, true_and, List.drop_zero, List.drop_succ_cons, List.take_succ_cons, List.take_zero, lenD, intD, boolD, strD, listD, tupleD, allD, anyD, blsD, cmpB, cmpD, binD, addD, subD, mulD, fdivD, modD, powD, negD, idxD, slcD, truD, ltD, gtD, leD, geD, eqD_int, eqD_bl, eqD_str, eqD_non, L2.atI, ixN_lit, Int.reduceToNat, Option.bind_some, List.length_map, List.set_cons_zero, List.set_cons_succ, isNon, inD_ss, inStr_one, isiD, seqOf, lstOf, String.reduceNe, String.reduceEq, ne_eq, not_false_eq_true, not_true_eq_false, Bool.or_true, Bool.or_false, Bool.true_or, Bool.false_or, Bool.and_true, Bool.and_false, Bool.true_and, Bool.false_and, isT_NoneType_bool, isT_NoneType_int, isT_NoneType_str, isT_NoneType_list, isT_NoneType_tuple, isT_NoneType_dict, isT_bool_bool, isT_bool_int, isT_bool_str, isT_bool_list, isT_bool_tuple, isT_bool_dict, isT_int_bool, isT_int_int, isT_int_str, isT_int_list, isT_int_tuple, isT_int_dict, isT_str_bool, isT_str_int, isT_str_str, isT_str_list, isT_str_tuple, isT_str_dict, isT_list_bool, isT_list_int, isT_list_str, isT_list_list, isT_list_tuple, isT_list_dict, isT_tuple_bool, isT_tuple_int, isT_tuple_str, isT_tuple_list, isT_tuple_tuple, isT_tuple_dict, isT_dict_bool, isT_dict_int, isT_dict_str, isT_dict_list, isT_dict_tuple, isT_dict_dict, tyN_non, tyN_bl, tyN_int, tyN_str, tyN_lst, tyN_tup, tyN_klst, tyN_dic])
  refine ⟨d, 0, m, rfl, hd, hm, fun o o2 => ?_⟩
  simp only [dflF, kwF, shs, pickG, pickO, consO, Option.map_some, List.take_nil, wMeth, methD, joinD, strsOf_map, wSs_cons, wSs_nil, Later_nil, wS, wE, wT, wI, wX, wVl, wOl, wAv, mk3, mkT, mkI, opd, wIf, wOr, DL.wAnd, DL.wNot, wBool, wTru, wUn, wOp, wFn, wCons, wNil, wVCons, wVNil, wAvNil, wAvVal, wAvBor, wCall2, wC, wVar, wAndV, wOrV, wNotV, wIte, wLst, wTup, wDct, wChn, wSlc, partE, varOp, asOp, entry, content, resO, resOs, frz, wRet, wRetV, wRetN, wNext, wDrop, wSet, wUnp, wPar, wSti, wBrk, wCnt, wMut, muD, wSeq', wFor, wWhile, wLc, wRng1, wRng2, wZip, itemsD, nth, bindTg, bindTgs, noOw, wipeS, restore, wback_val, wback_nil, wback_bor, List.nodup_nil, List.nodup_cons, List.not_mem_nil, bors, resA, pairD, keyD, le_size, List.replicate_succ, List.replicate_zero, List.length_cons, List.length_nil, List.cons_append, List.nil_append, List.getElem?_cons_zero, List.getElem?_cons_succ, List.getElem?_nil, List.set_cons_zero, List.set_cons_succ, Option.isSome_some, List.map_cons, List.map_nil, List.all_cons, List.all_nil, List.any_cons, List.any_nil, Nat.reduceSub, Nat.reduceAdd, Nat.reduceLT, Nat.reduceLeDiff, reduceIte, reduceCtorEq, Bool.not_true, Bool.not_false, Bool.false_eq_true, and_true, true_and, List.drop_zero, List.drop_succ_cons, List.take_succ_cons, List.take_zero, lenD, intD, boolD, strD, listD, tupleD, allD, anyD, blsD, cmpB, cmpD, binD, addD, subD, mulD, fdivD, modD, powD, negD, idxD, slcD, truD, ltD, gtD, leD, geD, eqD_int, eqD_bl, eqD_str, eqD_non, L2.atI, ixN_lit, Int.reduceToNat, Option.bind_some, List.length_map, List.set_cons_zero, List.set_cons_succ, isNon, inD_ss, inStr_one, isiD, seqOf, lstOf, String.reduceNe, String.reduceEq, ne_eq, not_false_eq_true, not_true_eq_false, Bool.or_true, Bool.or_false, Bool.true_or, Bool.false_or, Bool.and_true, Bool.and_false, Bool.true_and, Bool.false_and, isT_NoneType_bool, isT_NoneType_int, isT_NoneType_str, isT_NoneType_list, isT_NoneType_tuple, isT_NoneType_dict, isT_bool_bool, isT_bool_int, isT_bool_str, isT_bool_list, isT_bool_tuple, isT_bool_dict, isT_int_bool, isT_int_int, isT_int_str, isT_int_list, isT_int_tuple, isT_int_dict, isT_str_bool, isT_str_int, isT_str_str, isT_str_list, isT_str_tuple, isT_str_dict, isT_list_bool, isT_list_int, isT_list_str, isT_list_list, isT_list_tuple, isT_list_dict, isT_tuple_bool, isT_tuple_int, isT_tuple_str, isT_tuple_list, isT_tuple_tuple, isT_tuple_dict, isT_dict_bool, isT_dict_int, isT_dict_str, isT_dict_list, isT_dict_tuple, isT_dict_dict, tyN_non, tyN_bl, tyN_int, tyN_str, tyN_lst, tyN_tup, tyN_klst, tyN_dic]
  refine ⟨d, a, _, rfl, hd, .inl rfl, fun o o2 => ?_⟩
  simp only [dflF, kwF, shs, pickG, pickO, consO, Option.map_some, List.take_nil, wMeth, methD, joinD, strsOf_map, wSs_cons, wSs_nil, Later_nil, wS, wE, wT, wI, wX, wVl, wOl, wAv, mk3, mkT, mkI, opd, wIf, wOr, DL.wAnd, DL.wNot, wBool, wTru, wUn, wOp, wFn, wCons, wNil, wVCons, wVNil, wAvNil, wAvVal, wAvBor, wCall2, wC, wVar, wAndV, wOrV, wNotV, wIte, wLst, wTup, wDct, wChn, wSlc, partE, varOp, asOp, entry, content, resO, resOs, frz, wRet, wRetV, wRetN, wNext, wDrop, wSet, wUnp, wPar, wSti, wBrk, wCnt, wMut, muD, wSeq', wFor, wWhile, wLc, wRng1, wRng2, wZip, itemsD, nth, bindTg, bindTgs, noOw, wipeS, restore, wback_val, wback_nil, wback_bor, List.nodup_nil, List.nodup_cons, List.not_mem_nil, bors, resA, pairD, keyD, le_size, List.replicate_succ, List.replicate_zero, List.length_cons, List.length_nil, List.cons_append, List.nil_append, List.getElem?_cons_zero, List.getElem?_cons_succ, List.getElem?_nil, List.set_cons_zero, List.set_cons_succ, Option.isSome_some, List.map_cons, List.map_nil, List.all_cons, List.all_nil, List.any_cons, List.any_nil, Nat.reduceSub, Nat.reduceAdd, Nat.reduceLT, Nat.reduceLeDiff, reduceIte, reduceCtorEq, Bool.not_true, Bool.not_false, Bool.false_eq_true, and_true, true_and, List.drop_zero, List.drop_succ_cons, List.take_succ_cons, List.take_zero, lenD, intD, boolD, strD, listD, tupleD, allD, anyD, blsD, cmpB, cmpD, binD, addD, subD, mulD, fdivD, modD, powD, negD, idxD, slcD, truD, ltD, gtD, leD, geD, eqD_int, eqD_bl, eqD_str, eqD_non, L2.atI, ixN_lit, Int.reduceToNat, Option.bind_some, List.length_map, List.set_cons_zero, List.set_cons_succ, isNon, inD_ss, inStr_one, isiD, seqOf, lstOf, String.reduceNe, String.reduceEq, ne_eq, not_false_eq_true, not_true_eq_false, Bool.or_true, Bool.or_false, Bool.true_or, Bool.false_or, Bool.and_true, Bool.and_false, Bool.true_and, Bool.false_and, isT_NoneType_bool, isT_NoneType_int, isT_NoneType_str, isT_NoneType_list, isT_NoneType_tuple, isT_NoneType_dict, isT_bool_bool, isT_bool_int, isT_bool_str, isT_bool_list, isT_bool_tuple, isT_bool_dict, isT_int_bool, isT_int_int, isT_int_str, isT_int_list, isT_int_tuple, isT_int_dict, isT_str_bool, isT_str_int, isT_str_str, isT_str_list, isT_str_tuple, isT_str_dict, isT_list_bool, isT_list_int, isT_list_str, isT_list_list, isT_list_tuple, isT_list_dict, isT_tuple_bool, isT_tuple_int, isT_tuple_str, isT_tuple_list, isT_tuple_tuple, isT_tuple_dict, isT_dict_bool, isT_dict_int, isT_dict_str, isT_dict_list, isT_dict_tuple, isT_dict_dict, tyN_non, tyN_bl, tyN_int, tyN_str, tyN_lst, tyN_tup, tyN_klst, tyN_dic]
  refine ⟨d, a, _, rfl, hd, .inl rfl, fun o o2 => ?_⟩
  simp only [dflF, kwF, shs, pickG, pickO, consO, Option.map_some, List.take_nil, wMeth, methD, joinD, strsOf_map, wSs_cons, wSs_nil, Later_nil, wS, wE, wT, wI, wX, wVl, wOl, wAv, mk3, mkT, mkI, opd, wIf, wOr, DL.wAnd, DL.wNot, wBool, wTru, wUn, wOp, wFn, wCons, wNil, wVCons, wVNil, wAvNil, wAvVal, wAvBor, wCall2, wC, wVar, wAndV, wOrV, wNotV, wIte, wLst, wTup, wDct, wChn, wSlc, partE, varOp, asOp, entry, content, resO, resOs, frz, wRet, wRetV, wRetN, wNext, wDrop, wSet, wUnp, wPar, wSti, wBrk, wCnt, wMut, muD, wSeq', wFor, wWhile, wLc, wRng1, wRng2, wZip, itemsD, nth, bindTg, bindTgs, noOw, wipeS, restore, wback_val, wback_nil, wback_bor, List.nodup_nil, List.nodup_cons, List.not_mem_nil, bors, resA, pairD, keyD, le_size, List.replicate_succ, List.replicate_zero, List.length_cons, List.length_nil, List.cons_append, List.nil_append, List.getElem?_cons_zero, List.getElem?_cons_succ, List.getElem?_nil, List.set_cons_zero, List.set_cons_succ, Option.isSome_some, List.map_cons, List.map_nil, List.all_cons, List.all_nil, List.any_cons, List.any_nil, Nat.reduceSub, Nat.reduceAdd, Nat.reduceLT, Nat.reduceLeDiff, reduceIte, reduceCtorEq, Bool.not_true, Bool.not_false, Bool.false_eq_true, and_true, true_and, List.drop_zero, List.drop_succ_cons, List.take_succ_cons, List.take_zero, lenD, intD, boolD, strD, listD, tupleD, allD, anyD, blsD, cmpB, cmpD, binD, addD, subD, mulD, fdivD, modD, powD, negD, idxD, slcD, truD, ltD, gtD, leD, geD, eqD_int, eqD_bl, eqD_str, eqD_non, L2.atI, ixN_lit, Int.reduceToNat, Option.bind_some, List.length_map, List.set_cons_zero, List.set_cons_succ, isNon, inD_ss, inStr_one, isiD, seqOf, lstOf, String.reduceNe, String.reduceEq, ne_eq, not_false_eq_true, not_true_eq_false, Bool.or_true, Bool.or_false, Bool.true_or, Bool.false_or, Bool.and_true, Bool.and_false, Bool.true_and, Bool.false_and, isT_NoneType_bool, isT_NoneType_int, isT_NoneType_str, isT_NoneType_list, isT_NoneType_tuple, isT_NoneType_dict, isT_bool_bool, isT_bool_int, isT_bool_str, isT_bool_list, isT_bool_tuple, isT_bool_dict, isT_int_bool, isT_int_int, isT_int_str, isT_int_list, isT_int_tuple, isT_int_dict, isT_str_bool, isT_str_int, isT_str_str, isT_str_list, isT_str_tuple, isT_str_dict, isT_list_bool, isT_list_int, isT_list_str, isT_list_list, isT_list_tuple, isT_list_dict, isT_tuple_bool, isT_tuple_int, isT_tuple_str, isT_tuple_list, isT_tuple_tuple, isT_tuple_dict, isT_dict_bool, isT_dict_int, isT_dict_str, isT_dict_list, isT_dict_tuple, isT_dict_dict, tyN_non, tyN_bl, tyN_int, tyN_str, tyN_lst, tyN_tup, tyN_klst, tyN_dic]
  (refine later ?_; simp only [dflF, kwF, shs, pickG, pickO, consO, Option.map_some, List.take_nil, wMeth, methD, joinD, strsOf_map, wSs_cons, wSs_nil, Later_nil, wS, wE, wT, wI, wX, wVl, wOl, wAv, mk3, mkT, mkI, opd, wIf, wOr, DL.wAnd, DL.wNot, wBool, wTru, wUn, wOp, wFn, wCons, wNil, wVCons, wVNil, wAvNil, wAvVal, wAvBor, wCall2, wC, wVar, wAndV, wOrV, wNotV, wIte, wLst, wTup, wDct, wChn, wSlc, partE, varOp, asOp, entry, content, resO, resOs, frz, wRet, wRetV, wRetN, wNext, wDrop, wSet, wUnp, wPar, wSti, wBrk, wCnt, wMut, muD, wSeq', wFor, wWhile, wLc, wRng1, wRng2, wZip, itemsD, nth, bindTg, bindTgs, noOw, wipeS, restore, wback_val, wback_nil, wback_bor, List.nodup_nil, List.nodup_cons, List.not_mem_nil, bors, resA, pairD, keyD, le_size, List.replicate_succ, List.replicate_zero, List.length_cons, List.length_nil, List.cons_append, List.nil_append, List.getElem?_cons_zero, List.getElem?_cons_succ, List.getElem?_nil, List.set_cons_zero, List.set_cons_succ, Option.isSome_some, List.map_cons, List.map_nil, List.all_cons, List.all_nil, List.any_cons, List.any_nil, Nat.reduceSub, Nat.reduceAdd, Nat.reduceLT, Nat.reduceLeDiff, reduceIte, reduceCtorEq, Bool.not_true, Bool.not_false, Bool.false_eq_true, and_true, true_and, List.drop_zero, List.drop_succ_cons, List.take_succ_cons, List.take_zero, lenD, intD, boolD, strD, listD, tupleD, allD, anyD, blsD, cmpB, cmpD, binD, addD, subD, mulD, fdivD, modD, powD, negD, idxD, slcD, truD, ltD, gtD, leD, geD, eqD_int, eqD_bl, eqD_str, eqD_non, L2.atI, ixN_lit, Int.reduceToNat, Option.bind_some, List.length_map, List.set_cons_zero, List.set_cons_succ, isNon, inD_ss, inStr_one, isiD, seqOf, lstOf, String.reduceNe, String.reduceEq, ne_eq, not_false_eq_true, not_true_eq_false, Bool.or_true, Bool.or_false, Bool.true_or, Bool.false_or, Bool.and_true, Bool.and_false, Bool.true_and, Bool.false_and, isT_NoneType_bool, isT_NoneType_int, isT_NoneType_str, isT_NoneType_list, isT_NoneType_tuple, isT_NoneType_dict, isT_bool_bool, isT_bool_int, isT_bool_str, isT_bool_list, isT_bool_tuple, isT_bool_dict, isT_int_bool, isT_int_int, isT_int_str, isT_int_list, isT_int_tuple, isT_int_dict, isT_str_bool, isT_str_int, isT_str_str, isT_str_list, isT_str_tuple, isT_str_dict, isT_list_bool, isT_list_int, isT_list_str, isT_list_list, isT_list_tuple, isT_list_dict, isT_tuple_bool, isT_tuple_int, isT_tuple_str, isT_tuple_list, isT_tuple_tuple, isT_tuple_dict, isT_dict_bool, isT_dict_int, isT_dict_str, isT_dict_list, isT_dict_tuple, isT_dict_dict, tyN_non, tyN_bl, tyN_int, tyN_str, tyN_lst, tyN_tup, tyN_klst, tyN_dic])
  refine ⟨d, 0, _, rfl, hd, .inl rfl, fun o => ?_⟩
  simp only [dflF, kwF, shs, pickG, pickO, consO, Option.map_some, List.take_nil, wMeth, methD, joinD, strsOf_map, wSs_cons, wSs_nil, Later_nil, wS, wE, wT, wI, wX, wVl, wOl, wAv, mk3, mkT, mkI, opd, wIf, wOr, DL.wAnd, DL.wNot, wBool, wTru, wUn, wOp, wFn, wCons, wNil, wVCons, wVNil, wAvNil, wAvVal, wAvBor, wCall2, wC, wVar, wAndV, wOrV, wNotV, wIte, wLst, wTup, wDct, wChn, wSlc, partE, varOp, asOp, entry, content, resO, resOs, frz, wRet, wRetV, wRetN, wNext, wDrop, wSet, wUnp, wPar, wSti, wBrk, wCnt, wMut, muD, wSeq', wFor, wWhile, wLc, wRng1, wRng2, wZip, itemsD, nth, bindTg, bindTgs, noOw, wipeS, restore, wback_val, wback_nil, wback_bor, List.nodup_nil, List.nodup_cons, List.not_mem_nil, bors, resA, pairD, keyD, le_size, List.replicate_succ, List.replicate_zero, List.length_cons, List.length_nil, List.cons_append, List.nil_append, List.getElem?_cons_zero, List.getElem?_cons_succ, List.getElem?_nil, List.set_cons_zero, List.set_cons_succ, Option.isSome_some, List.map_cons, List.map_nil, List.all_cons, List.all_nil, List.any_cons, List.any_nil, Nat.reduceSub, Nat.reduceAdd, Nat.reduceLT, Nat.reduceLeDiff, reduceIte, reduceCtorEq, Bool.not_true, Bool.not_false, Bool.false_eq_true, and_true, true_and, List.drop_zero, List.drop_succ_cons, List.take_succ_cons, List.take_zero, lenD, intD, boolD, strD, listD, tupleD, allD, anyD, blsD, cmpB, cmpD, binD, addD, subD, mulD, fdivD, modD, powD, negD, idxD, slcD, truD, ltD, gtD, leD, geD, eqD_int, eqD_bl, eqD_str, eqD_non, L2.atI, ixN_lit, Int.reduceToNat, Option.bind_some, List.length_map, List.set_cons_zero, List.set_cons_succ, isNon, inD_ss, inStr_one, isiD, seqOf, lstOf, String.reduceNe, String.reduceEq, ne_eq, not_false_eq_true, not_true_eq_false, Bool.or_true, Bool.or_false, Bool.true_or, Bool.false_or, Bool.and_true, Bool.and_false, Bool.true_and, Bool.false_and, isT_NoneType_bool, isT_NoneType_int, isT_NoneType_str, isT_NoneType_list, isT_NoneType_tuple, isT_NoneType_dict, isT_bool_bool, isT_bool_int, isT_bool_str, isT_bool_list, isT_bool_tuple, isT_bool_dict, isT_int_bool, isT_int_int, isT_int_str, isT_int_list, isT_int_tuple, isT_int_dict, isT_str_bool, isT_str_int, isT_str_str, isT_str_list, isT_str_tuple, isT_str_dict, isT_list_bool, isT_list_int, isT_list_str, isT_list_list, isT_list_tuple, isT_list_dict, isT_tuple_bool, isT_tuple_int, isT_tuple_str, isT_tuple_list, isT_tuple_tuple, isT_tuple_dict, isT_dict_bool, isT_dict_int, isT_dict_str, isT_dict_list, isT_dict_tuple, isT_dict_dict, tyN_non, tyN_bl, tyN_int, tyN_str, tyN_lst, tyN_tup, tyN_klst, tyN_dic]
  refine ⟨d, a, _, rfl, hd, .inl rfl, fun o => ?_⟩
  simp only [dflF, kwF, shs, pickG, pickO, consO, Option.map_some, List.take_nil, wMeth, methD, joinD, strsOf_map, wSs_cons, wSs_nil, Later_nil, wS, wE, wT, wI, wX, wVl, wOl, wAv, mk3, mkT, mkI, opd, wIf, wOr, DL.wAnd, DL.wNot, wBool, wTru, wUn, wOp, wFn, wCons, wNil, wVCons, wVNil, wAvNil, wAvVal, wAvBor, wCall2, wC, wVar, wAndV, wOrV, wNotV, wIte, wLst, wTup, wDct, wChn, wSlc, partE, varOp, asOp, entry, content, resO, resOs, frz, wRet, wRetV, wRetN, wNext, wDrop, wSet, wUnp, wPar, wSti, wBrk, wCnt, wMut, muD, wSeq', wFor, wWhile, wLc, wRng1, wRng2, wZip, itemsD, nth, bindTg, bindTgs, noOw, wipeS, restore, wback_val, wback_nil, wback_bor, List.nodup_nil, List.nodup_cons, List.not_mem_nil, bors, resA, pairD, keyD, le_size, List.replicate_succ, List.replicate_zero, List.length_cons, List.length_nil, List.cons_append, List.nil_append, List.getElem?_cons_zero, List.getElem?_cons_succ, List.getElem?_nil, List.set_cons_zero, List.set_cons_succ, Option.isSome_some, List.map_cons, List.map_nil, List.all_cons, List.all_nil, List.any_cons, List.any_nil, Nat.reduceSub, Nat.reduceAdd, Nat.reduceLT, Nat.reduceLeDiff, reduceIte, reduceCtorEq, Bool.not_true, Bool.not_false, Bool.false_eq_true, and_true, true_and, List.drop_zero, List.drop_succ_cons, List.take_succ_cons, List.take_zero, lenD, intD, boolD, strD, listD, tupleD, allD, anyD, blsD, cmpB, cmpD, binD, addD, subD, mulD, fdivD, modD, powD, negD, idxD, slcD, truD, ltD, gtD, leD, geD, eqD_int, eqD_bl, eqD_str, eqD_non, L2.atI, ixN_lit, Int.reduceToNat, Option.bind_some, List.length_map, List.set_cons_zero, List.set_cons_succ, isNon, inD_ss, inStr_one, isiD, seqOf, lstOf, String.reduceNe, String.reduceEq, ne_eq, not_false_eq_true, not_true_eq_false, Bool.or_true, Bool.or_false, Bool.true_or, Bool.false_or, Bool.and_true, Bool.and_false, Bool.true_and, Bool.false_and, isT_NoneType_bool, isT_NoneType_int, isT_NoneType_str, isT_NoneType_list, isT_NoneType_tuple, isT_NoneType_dict, isT_bool_bool, isT_bool_int, isT_bool_str, isT_bool_list, isT_bool_tuple, isT_bool_dict, isT_int_bool, isT_int_int, isT_int_str, isT_int_list, isT_int_tuple, isT_int_dict, isT_str_bool, isT_str_int, isT_str_str, isT_str_list, isT_str_tuple, isT_str_dict, isT_list_bool, isT_list_int, isT_list_str, isT_list_list, isT_list_tuple, isT_list_dict, isT_tuple_bool, isT_tuple_int, isT_tuple_str, isT_tuple_list, isT_tuple_tuple, isT_tuple_dict, isT_dict_bool, isT_dict_int, isT_dict_str, isT_dict_list, isT_dict_tuple, isT_dict_dict, tyN_non, tyN_bl, tyN_int, tyN_str, tyN_lst, tyN_tup, tyN_klst, tyN_dic]
  refine ⟨d, a, m, rfl, hd, hm, fun o => ?_⟩
  simp only [dflF, kwF, shs, pickG, pickO, consO, Option.map_some, List.take_nil, wMeth, methD, joinD, strsOf_map, wSs_cons, wSs_nil, Later_nil, wS, wE, wT, wI, wX, wVl, wOl, wAv, mk3, mkT, mkI, opd, wIf, wOr, DL.wAnd, DL.wNot, wBool, wTru, wUn, wOp, wFn, wCons, wNil, wVCons, wVNil, wAvNil, wAvVal, wAvBor, wCall2, wC, wVar, wAndV, wOrV, wNotV, wIte, wLst, wTup, wDct, wChn, wSlc, partE, varOp, asOp, entry, content, resO, resOs, frz, wRet, wRetV, wRetN, wNext, wDrop, wSet, wUnp, wPar, wSti, wBrk, wCnt, wMut, muD, wSeq', wFor, wWhile, wLc, wRng1, wRng2, wZip, itemsD, nth, bindTg, bindTgs, noOw, wipeS, restore, wback_val, wback_nil, wback_bor, List.nodup_nil, List.nodup_cons, List.not_mem_nil, bors, resA, pairD, keyD, le_size, List.replicate_succ, List.replicate_zero, List.length_cons, List.length_nil, List.cons_append, List.nil_append, List.getElem?_cons_zero, List.getElem?_cons_succ, List.getElem?_nil, List.set_cons_zero, List.set_cons_succ, Option.isSome_some, List.map_cons, List.map_nil, List.all_cons, List.all_nil, List.any_cons, List.any_nil, Nat.reduceSub, Nat.reduceAdd, Nat.reduceLT, Nat.reduceLeDiff, reduceIte, reduceCtorEq, Bool.not_true, Bool.not_false, Bool.false_eq_true, and_true, true_and, List.drop_zero, List.drop_succ_cons, List.take_succ_cons, List.take_zero, lenD, intD, boolD, strD, listD, tupleD, allD, anyD, blsD, cmpB, cmpD, binD, addD, subD, mulD, fdivD, modD, powD, negD, idxD, slcD, truD, ltD, gtD, leD, geD, eqD_int, eqD_bl, eqD_str, eqD_non, L2.atI, ixN_lit, Int.reduceToNat, Option.bind_some, List.length_map, List.set_cons_zero, List.set_cons_succ, isNon, inD_ss, inStr_one, isiD, seqOf, lstOf, String.reduceNe, String.reduceEq, ne_eq, not_false_eq_true, not_true_eq_false, Bool.or_true, Bool.or_false, Bool.true_or, Bool.false_or, Bool.and_true, Bool.and_false, Bool.true_and, Bool.false_and, isT_NoneType_bool, isT_NoneType_int, isT_NoneType_str, isT_NoneType_list, isT_NoneType_tuple, isT_NoneType_dict, isT_bool_bool, isT_bool_int, isT_bool_str, isT_bool_list, isT_bool_tuple, isT_bool_dict, isT_int_bool, isT_int_int, isT_int_str, isT_int_list, isT_int_tuple, isT_int_dict, isT_str_bool, isT_str_int, isT_str_str, isT_str_list, isT_str_tuple, isT_str_dict, isT_list_bool, isT_list_int, isT_list_str, isT_list_list, isT_list_tuple, isT_list_dict, isT_tuple_bool, isT_tuple_int, isT_tuple_str, isT_tuple_list, isT_tuple_tuple, isT_tuple_dict, isT_dict_bool, isT_dict_int, isT_dict_str, isT_dict_list, isT_dict_tuple, isT_dict_dict, tyN_non, tyN_bl, tyN_int, tyN_str, tyN_lst, tyN_tup, tyN_klst, tyN_dic]
  (refine later ?_; simp only [dflF, kwF, shs, pickG, pickO, consO, Option.map_some, List.take_nil, wMeth, methD, joinD, strsOf_map, wSs_cons, wSs_nil, Later_nil, wS, wE, wT, wI, wX, wVl, wOl, wAv, mk3, mkT, mkI, opd, wIf, wOr, DL.wAnd, DL.wNot, wBool, wTru, wUn, wOp, wFn, wCons, wNil, wVCons, wVNil, wAvNil, wAvVal, wAvBor, wCall2, wC, wVar, wAndV, wOrV, wNotV, wIte, wLst, wTup, wDct, wChn, wSlc, partE, varOp, asOp, entry, content, resO, resOs, frz, wRet, wRetV, wRetN, wNext, wDrop, wSet, wUnp, wPar, wSti, wBrk, wCnt, wMut, muD, wSeq', wFor, wWhile, wLc, wRng1, wRng2, wZip, itemsD, nth, bindTg, bindTgs, noOw, wipeS, restore, wback_val, wback_nil, wback_bor, List.nodup_nil, List.nodup_cons, List.not_mem_nil, bors, resA, pairD, keyD, le_size, List.replicate_succ, List.replicate_zero, List.length_cons, List.length_nil, List.cons_append, List.nil_append, List.getElem?_cons_zero, List.getElem?_cons_succ, List.getElem?_nil, List.set_cons_zero, List.set_cons_succ, Option.isSome_some, List.map_cons, List.map_nil, List.all_cons, List.all_nil, List.any_cons, List.any_nil, Nat.reduceSub, Nat.reduceAdd, Nat.reduceLT, Nat.reduceLeDiff, reduceIte, reduceCtorEq, Bool.not_true, Bool.not_false, Bool.false_eq_true, and_true, true_and, List.drop_zero, List.drop_succ_cons, List.take_succ_cons, List.take_zero, lenD, intD, boolD, strD, listD, tupleD, allD, anyD, blsD, cmpB, cmpD, binD, addD, subD, mulD, fdivD, modD, powD, negD, idxD, slcD, truD, ltD, gtD, leD, geD, eqD_int, eqD_bl, eqD_str, eqD_non, L2.atI, ixN_lit, Int.reduceToNat, Option.bind_some, List.length_map, List.set_cons_zero, List.set_cons_succ, isNon, inD_ss, inStr_one, isiD, seqOf, lstOf, String.reduceNe, String.reduceEq, ne_eq, not_false_eq_true, not_true_eq_false, Bool.or_true, Bool.or_false, Bool.true_or, Bool.false_or, Bool.and_true, Bool.and_false, Bool.true_and, Bool.false_and, isT_NoneType_bool, isT_NoneType_int, isT_NoneType_str, isT_NoneType_list, isT_NoneType_tuple, isT_NoneType_dict, isT_bool_bool, isT_bool_int, isT_bool_str, isT_bool_list, isT_bool_tuple, isT_bool_dict, isT_int_bool, isT_int_int, isT_int_str, isT_int_list, isT_int_tuple, isT_int_dict, isT_str_bool, isT_str_int, isT_str_str, isT_str_list, isT_str_tuple, isT_str_dict, isT_list_bool, isT_list_int, isT_list_str, isT_list_list, isT_list_tuple, isT_list_dict, isT_tuple_bool, isT_tuple_int, isT_tuple_str, isT_tuple_list, isT_tuple_tuple, isT_tuple_dict, isT_dict_bool, isT_dict_int, isT_dict_str, isT_dict_list, isT_dict_tuple, isT_dict_dict, tyN_non, tyN_bl, tyN_int, tyN_str, tyN_lst, tyN_tup, tyN_klst, tyN_dic])
  refine ⟨d, a, m, rfl, hd, hm, fun o => ?_⟩
  simp only [dflF, kwF, shs, pickG, pickO, consO, Option.map_some, List.take_nil, wMeth, methD, joinD, strsOf_map, wSs_cons, wSs_nil, Later_nil, wS, wE, wT, wI, wX, wVl, wOl, wAv, mk3, mkT, mkI, opd, wIf, wOr, DL.wAnd, DL.wNot, wBool, wTru, wUn, wOp, wFn, wCons, wNil, wVCons, wVNil, wAvNil, wAvVal, wAvBor, wCall2, wC, wVar, wAndV, wOrV, wNotV, wIte, wLst, wTup, wDct, wChn, wSlc, partE, varOp, asOp, entry, content, resO, resOs, frz, wRet, wRetV, wRetN, wNext, wDrop, wSet, wUnp, wPar, wSti, wBrk, wCnt, wMut, muD, wSeq', wFor, wWhile, wLc, wRng1, wRng2, wZip, itemsD, nth, bindTg, bindTgs, noOw, wipeS, restore, wback_val, wback_nil, wback_bor, List.nodup_nil, List.nodup_cons, List.not_mem_nil, bors, resA, pairD, keyD, le_size, List.replicate_succ, List.replicate_zero, List.length_cons, List.length_nil, List.cons_append, List.nil_append, List.getElem?_cons_zero, List.getElem?_cons_succ, List.getElem?_nil, List.set_cons_zero, List.set_cons_succ, Option.isSome_some, List.map_cons, List.map_nil, List.all_cons, List.all_nil, List.any_cons, List.any_nil, Nat.reduceSub, Nat.reduceAdd, Nat.reduceLT, Nat.reduceLeDiff, reduceIte, reduceCtorEq, Bool.not_true, Bool.not_false, Bool.false_eq_true, and_true, true_and, List.drop_zero, List.drop_succ_cons, List.take_succ_cons, List.take_zero, lenD, intD, boolD, strD, listD, tupleD, allD, anyD, blsD, cmpB, cmpD, binD, addD, subD, mulD, fdivD, modD, powD, negD, idxD, slcD, truD, ltD, gtD, leD, geD, eqD_int, eqD_bl, eqD_str, eqD_non, L2.atI, ixN_lit, Int.reduceToNat, Option.bind_some, List.length_map, List.set_cons_zero, List.set_cons_succ, isNon, inD_ss, inStr_one, isiD, seqOf, lstOf, String.reduceNe, String.reduceEq, ne_eq, not_false_eq_true, not_true_eq_false, Bool.or_true, Bool.or_false, Bool.true_or, Bool.false_or, Bool.and_true, Bool.and_false, Bool.true_and, Bool.false_and, isT_NoneType_bool, isT_NoneType_int, isT_NoneType_str, isT_NoneType_list, isT_NoneType_tuple, isT_NoneType_dict, isT_bool_bool, isT_bool_int, isT_bool_str, isT_bool_list, isT_bool_tuple, isT_bool_dict, isT_int_bool, isT_int_int, isT_int_str, isT_int_list, isT_int_tuple, isT_int_dict, isT_str_bool, isT_str_int, isT_str_str, isT_str_list, isT_str_tuple, isT_str_dict, isT_list_bool, isT_list_int, isT_list_str, isT_list_list, isT_list_tuple, isT_list_dict, isT_tuple_bool, isT_tuple_int, isT_tuple_str, isT_tuple_list, isT_tuple_tuple, isT_tuple_dict, isT_dict_bool, isT_dict_int, isT_dict_str, isT_dict_list, isT_dict_tuple, isT_dict_dict, tyN_non, tyN_bl, tyN_int, tyN_str, tyN_lst, tyN_tup, tyN_klst, tyN_dic]
  refine ⟨d, 0, m, rfl, hd, hm, fun o => ?_⟩
  simp only [dflF, kwF, shs, pickG, pickO, consO, Option.map_some, List.take_nil, wMeth, methD, joinD, strsOf_map, wSs_cons, wSs_nil, Later_nil, wS, wE, wT, wI, wX, wVl, wOl, wAv, mk3, mkT, mkI, opd, wIf, wOr, DL.wAnd, DL.wNot, wBool, wTru, wUn, wOp, wFn, wCons, wNil, wVCons, wVNil, wAvNil, wAvVal, wAvBor, wCall2, wC, wVar, wAndV, wOrV, wNotV, wIte, wLst, wTup, wDct, wChn, wSlc, partE, varOp, asOp, entry, content, resO, resOs, frz, wRet, wRetV, wRetN, wNext, wDrop, wSet, wUnp, wPar, wSti, wBrk, wCnt, wMut, muD, wSeq', wFor, wWhile, wLc, wRng1, wRng2, wZip, itemsD, nth, bindTg, bindTgs, noOw, wipeS, restore, wback_val, wback_nil, wback_bor, List.nodup_nil, List.nodup_cons, List.not_mem_nil, bors, resA, pairD, keyD, le_size, List.replicate_succ, List.replicate_zero, List.length_cons, List.length_nil, List.cons_append, List.nil_append, List.getElem?_cons_zero, List.getElem?_cons_succ, List.getElem?_nil, List.set_cons_zero, List.set_cons_succ, Option.isSome_some, List.map_cons, List.map_nil, List.all_cons, List.all_nil, List.any_cons, List.any_nil, Nat.reduceSub, Nat.reduceAdd, Nat.reduceLT, Nat.reduceLeDiff, reduceIte, reduceCtorEq, Bool.not_true, Bool.not_false, Bool.false_eq_true, and_true, true_and, List.drop_zero, List.drop_succ_cons, List.take_succ_cons, List.take_zero, lenD, intD, boolD, strD, listD, tupleD, allD, anyD, blsD, cmpB, cmpD, binD, addD, subD, mulD, fdivD, modD, powD, negD, idxD, slcD, truD, ltD, gtD, leD, geD, eqD_int, eqD_bl, eqD_str, eqD_non, L2.atI, ixN_lit, Int.reduceToNat, Option.bind_some, List.length_map, List.set_cons_zero, List.set_cons_succ, isNon, inD_ss, inStr_one, isiD, seqOf, lstOf, String.reduceNe, String.reduceEq, ne_eq, not_false_eq_true, not_true_eq_false, Bool.or_true, Bool.or_false, Bool.true_or, Bool.false_or, Bool.and_true, Bool.and_false, Bool.true_and, Bool.false_and, isT_NoneType_bool, isT_NoneType_int, isT_NoneType_str, isT_NoneType_list, isT_NoneType_tuple, isT_NoneType_dict, isT_bool_bool, isT_bool_int, isT_bool_str, isT_bool_list, isT_bool_tuple, isT_bool_dict, isT_int_bool, isT_int_int, isT_int_str, isT_int_list, isT_int_tuple, isT_int_dict, isT_str_bool, isT_str_int, isT_str_str, isT_str_list, isT_str_tuple, isT_str_dict, isT_list_bool, isT_list_int, isT_list_str, isT_list_list, isT_list_tuple, isT_list_dict, isT_tuple_bool, isT_tuple_int, isT_tuple_str, isT_tuple_list, isT_tuple_tuple, isT_tuple_dict, isT_dict_bool, isT_dict_int, isT_dict_str, isT_dict_list, isT_dict_tuple, isT_dict_dict, tyN_non, tyN_bl, tyN_int, tyN_str, tyN_lst, tyN_tup, tyN_klst, tyN_dic]
  refine ⟨d, a, _, rfl, hd, .inl rfl, fun o => ?_⟩
  simp only [dflF, kwF, shs, pickG, pickO, consO, Option.map_some, List.take_nil, wMeth, methD, joinD, strsOf_map, wSs_cons, wSs_nil, Later_nil, wS, wE, wT, wI, wX, wVl, wOl, wAv, mk3, mkT, mkI, opd, wIf, wOr, DL.wAnd, DL.wNot, wBool, wTru, wUn, wOp, wFn, wCons, wNil, wVCons, wVNil, wAvNil, wAvVal, wAvBor, wCall2, wC, wVar, wAndV, wOrV, wNotV, wIte, wLst, wTup, wDct, wChn, wSlc, partE, varOp, asOp, entry, content, resO, resOs, frz, wRet, wRetV, wRetN, wNext, wDrop, wSet, wUnp, wPar, wSti, wBrk, wCnt, wMut, muD, wSeq', wFor, wWhile, wLc, wRng1, wRng2, wZip, itemsD, nth, bindTg, bindTgs, noOw, wipeS, restore, wback_val, wback_nil, wback_bor, List.nodup_nil, List.nodup_cons, List.not_mem_nil, bors, resA, pairD, keyD, le_size, List.replicate_succ, List.replicate_zero, List.length_cons, List.length_nil, List.cons_append, List.nil_append, List.getElem?_cons_zero, List.getElem?_cons_succ, List.getElem?_nil, List.set_cons_zero, List.set_cons_succ, Option.isSome_some, List.map_cons, List.map_nil, List.all_cons, List.all_nil, List.any_cons, List.any_nil, Nat.reduceSub, Nat.reduceAdd, Nat.reduceLT, Nat.reduceLeDiff, reduceIte, reduceCtorEq, Bool.not_true, Bool.not_false, Bool.false_eq_true, and_true, true_and, List.drop_zero, List.drop_succ_cons, List.take_succ_cons, List.take_zero, lenD, intD, boolD, strD, listD, tupleD, allD, anyD, blsD, cmpB, cmpD, binD, addD, subD, mulD, fdivD, modD, powD, negD, idxD, slcD, truD, ltD, gtD, leD, geD, eqD_int, eqD_bl, eqD_str, eqD_non, L2.atI, ixN_lit, Int.reduceToNat, Option.bind_some, List.length_map, List.set_cons_zero, List.set_cons_succ, isNon, inD_ss, inStr_one, isiD, seqOf, lstOf, String.reduceNe, String.reduceEq, ne_eq, not_false_eq_true, not_true_eq_false, Bool.or_true, Bool.or_false, Bool.true_or, Bool.false_or, Bool.and_true, Bool.and_false, Bool.true_and, Bool.false_and, isT_NoneType_bool, isT_NoneType_int, isT_NoneType_str, isT_NoneType_list, isT_NoneType_tuple, isT_NoneType_dict, isT_bool_bool, isT_bool_int, isT_bool_str, isT_bool_list, isT_bool_tuple, isT_bool_dict, isT_int_bool, isT_int_int, isT_int_str, isT_int_list, isT_int_tuple, isT_int_dict, isT_str_bool, isT_str_int, isT_str_str, isT_str_list, isT_str_tuple, isT_str_dict, isT_list_bool, isT_list_int, isT_list_str, isT_list_list, isT_list_tuple, isT_list_dict, isT_tuple_bool, isT_tuple_int, isT_tuple_str, isT_tuple_list, isT_tuple_tuple, isT_tuple_dict, isT_dict_bool, isT_dict_int, isT_dict_str, isT_dict_list, isT_dict_tuple, isT_dict_dict, tyN_non, tyN_bl, tyN_int, tyN_str, tyN_lst, tyN_tup, tyN_klst, tyN_dic]
  (refine later ?_; simp only [dflF, kwF, shs, pickG, pickO, consO, Option.map_some, List.take_nil, wMeth, methD, joinD, strsOf_map, wSs_cons, wSs_nil, Later_nil, wS, wE, wT, wI, wX, wVl, wOl, wAv, mk3, mkT, mkI, opd, wIf, wOr, DL.wAnd, DL.wNot, wBool, wTru, wUn, wOp, wFn, wCons, wNil, wVCons, wVNil, wAvNil, wAvVal, wAvBor, wCall2, wC, wVar, wAndV, wOrV, wNotV, wIte, wLst, wTup, wDct, wChn, wSlc, partE, varOp, asOp, entry, content, resO, resOs, frz, wRet, wRetV, wRetN, wNext, wDrop, wSet, wUnp, wPar, wSti, wBrk, wCnt, wMut, muD, wSeq', wFor, wWhile, wLc, wRng1, wRng2, wZip, itemsD, nth, bindTg, bindTgs, noOw, wipeS, restore, wback_val, wback_nil, wback_bor, List.nodup_nil, List.nodup_cons, List.not_mem_nil, bors, resA, pairD, keyD, le_size, List.replicate_succ, List.replicate_zero, List.length_cons, List.length_nil, List.cons_append, List.nil_append, List.getElem?_cons_zero, List.getElem?_cons_succ, List.getElem?_nil, List.set_cons_zero, List.set_cons_succ, Option.isSome_some, List.map_cons, List.map_nil, List.all_cons, List.all_nil, List.any_cons, List.any_nil, Nat.reduceSub, Nat.reduceAdd, Nat.reduceLT, Nat.reduceLeDiff, reduceIte, reduceCtorEq, Bool.not_true, Bool.not_false, Bool.false_eq_true, and_true, true_and, List.drop_zero, List.drop_succ_cons, List.take_succ_cons, List.take_zero, lenD, intD, boolD, strD, listD, tupleD, allD, anyD, blsD, cmpB, cmpD, binD, addD, subD, mulD, fdivD, modD, powD, negD, idxD, slcD, truD, ltD, gtD, leD, geD, eqD_int, eqD_bl, eqD_str, eqD_non, L2.atI, ixN_lit, Int.reduceToNat, Option.bind_some, List.length_map, List.set_cons_zero, List.set_cons_succ, isNon, inD_ss, inStr_one, isiD, seqOf, lstOf, String.reduceNe, String.reduceEq, ne_eq, not_false_eq_true, not_true_eq_false, Bool.or_true, Bool.or_false, Bool.true_or, Bool.false_or, Bool.and_true, Bool.and_false, Bool.true_and, Bool.false_and, isT_NoneType_bool, isT_NoneType_int, isT_NoneType_str, isT_NoneType_list, isT_NoneType_tuple, isT_NoneType_dict, isT_bool_bool, isT_bool_int, isT_bool_str, isT_bool_list, isT_bool_tuple, isT_bool_dict, isT_int_bool, isT_int_int, isT_int_str, isT_int_list, isT_int_tuple, isT_int_dict, isT_str_bool, isT_str_int, isT_str_str, isT_str_list, isT_str_tuple, isT_str_dict, isT_list_bool, isT_list_int, isT_list_str, isT_list_list, isT_list_tuple, isT_list_dict, isT_tuple_bool, isT_tuple_int, isT_tuple_str, isT_tuple_list, isT_tuple_tuple, isT_tuple_dict, isT_dict_bool, isT_dict_int, isT_dict_str, isT_dict_list, isT_dict_tuple, isT_dict_dict, tyN_non, tyN_bl, tyN_int, tyN_str, tyN_lst, tyN_tup, tyN_klst, tyN_dic])
  refine ⟨d, a, _, rfl, hd, .inl rfl, fun o => ?_⟩
  simp only [dflF, kwF, shs, pickG, pickO, consO, Option.map_some, List.take_nil, wMeth, methD, joinD, strsOf_map, wSs_cons, wSs_nil, Later_nil, wS, wE, wT, wI, wX, wVl, wOl, wAv, mk3, mkT, mkI, opd, wIf, wOr, DL.wAnd, DL.wNot, wBool, wTru, wUn, wOp, wFn, wCons, wNil, wVCons, wVNil, wAvNil, wAvVal, wAvBor, wCall2, wC, wVar, wAndV, wOrV, wNotV, wIte, wLst, wTup, wDct, wChn, wSlc, partE, varOp, asOp, entry, content, resO, resOs, frz, wRet, wRetV, wRetN, wNext, wDrop, wSet, wUnp, wPar, wSti, wBrk, wCnt, wMut, muD, wSeq', wFor, wWhile, wLc, wRng1, wRng2, wZip, itemsD, nth, bindTg, bindTgs, noOw, wipeS, restore, wback_val, wback_nil, wback_bor, List.nodup_nil, List.nodup_cons, List.not_mem_nil, bors, resA, pairD, keyD, le_size, List.replicate_succ, List.replicate_zero, List.length_cons, List.length_nil, List.cons_append, List.nil_append, List.getElem?_cons_zero, List.getElem?_cons_succ, List.getElem?_nil, List.set_cons_zero, List.set_cons_succ, Option.isSome_some, List.map_cons, List.map_nil, List.all_cons, List.all_nil, List.any_cons, List.any_nil, Nat.reduceSub, Nat.reduceAdd, Nat.reduceLT, Nat.reduceLeDiff, reduceIte, reduceCtorEq, Bool.not_true, Bool.not_false, Bool.false_eq_true, and_true, true_and, List.drop_zero, List.drop_succ_cons, List.take_succ_cons, List.take_zero, lenD, intD, boolD, strD, listD, tupleD, allD, anyD, blsD, cmpB, cmpD, binD, addD, subD, mulD, fdivD, modD, powD, negD, idxD, slcD, truD, ltD, gtD, leD, geD, eqD_int, eqD_bl, eqD_str, eqD_non, L2.atI, ixN_lit, Int.reduceToNat, Option.bind_some, List.length_map, List.set_cons_zero, List.set_cons_succ, isNon, inD_ss, inStr_one, isiD, seqOf, lstOf, String.reduceNe, String.reduceEq, ne_eq, not_false_eq_true, not_true_eq_false, Bool.or_true, Bool.or_false, Bool.true_or, Bool.false_or, Bool.and_true, Bool.and_false, Bool.true_and, Bool.false_and, isT_NoneType_bool, isT_NoneType_int, isT_NoneType_str, isT_NoneType_list, isT_NoneType_tuple, isT_NoneType_dict, isT_bool_bool, isT_bool_int, isT_bool_str, isT_bool_list, isT_bool_tuple, isT_bool_dict, isT_int_bool, isT_int_int, isT_int_str, isT_int_list, isT_int_tuple, isT_int_dict, isT_str_bool, isT_str_int, isT_str_str, isT_str_list, isT_str_tuple, isT_str_dict, isT_list_bool, isT_list_int, isT_list_str, isT_list_list, isT_list_tuple, isT_list_dict, isT_tuple_bool, isT_tuple_int, isT_tuple_str, isT_tuple_list, isT_tuple_tuple, isT_tuple_dict, isT_dict_bool, isT_dict_int, isT_dict_str, isT_dict_list, isT_dict_tuple, isT_dict_dict, tyN_non, tyN_bl, tyN_int, tyN_str, tyN_lst, tyN_tup, tyN_klst, tyN_dic]
  refine ⟨_, rfl, like_flat rfl (by show 7 ≤ 1000000; decide), fun o => ?_⟩
  exact hR _
theorem ok__law_numbers_so {P : Program} {w : World} {K : PySem.W.Frag} {mg : Str → Option Value} {base : Heap} (V : VE K mg) : ∃ fd, FunD K "_law_numbers_so" "_law_numbers_so" (defArgs (top 20)) (defBody (top 20)) (defScope (top 20)) [] [] (He.ga K "_law_numbers_so") fd ∧ FnOk P w K mg base CX0 3 (He.ga K "_law_numbers_so") fd ["_law_thing", "_law_low", "_law_high"] (spOf K F__law_numbers_so) := by
  obtain ⟨fd, Fd⟩ := V.def_ 13 (d := dd "_law_numbers_so" 20 []) rfl
  exact ⟨fd, Fd, fn_ok Fd (d__law_numbers_so 2) (mkTab (.cons (cj_is_number_1 V (by first | decide | omega)) (.cons (cj_is_number_2 V (by first | decide | omega)) (.cons (cj_is_number_3 V (by first | decide | omega)) (.cons (cj_is_number_0_most_least_value V (by first | decide | omega)) (.cons (cj_is_number_0_value_most V (by first | decide | omega)) (.cons (cj_is_number_1_least V (by first | decide | omega)) (.cons (cj_is_number_2_most V (by first | decide | omega)) (.cons (cj__law_within_3 V (by first | decide | omega)) (.cons (cj__law_like_2 V (by first | decide | omega)) .nil))))))))) .nil (show ([] : List (Str × Nat)).all (fun c => decide (c.1 ∈ FR)) = true by decide +kernel) .nil .nil noAt_ok V.free) rfl p__law_numbers_so⟩
theorem cj__law_numbers_so_3 {P : Program} {w : World} {K : PySem.W.Frag} {mg : Str → Option Value} {base : Heap} {lv : Nat} (V : VE K mg) (h : 3 ≤ lv) : CallJ P w K mg base lv "_law_numbers_so" 3 [] F__law_numbers_so := by
  obtain ⟨fd, Fd, F⟩ := ok__law_numbers_so (P := P) (w := w) (base := base) V
  exact callJ F h (V.glo 13 rfl) Fd.kp (FunD.bindsN Fd (fun _ _ _ _ _ _ us hl => match us, hl with | [_, _, _], _ => rfl)) 3
end K01

namespace K01
open PySem DL
open L2 (V FnOk FunD CX0 defArgs defBody defScope SqL FnScope KBn)
def C_law (lv : Nat) : CC := { N := ["_law_script", "_law_bag_here", "_law_turn", "_law_texts", "_law_low", "_law_high", "_law_odd_here", "_law_thing"], sc := defScope (top 21), lv := lv, kp := [], brw := [1], calls := [("_law_bag", 1, []), ("_law_like", 2, []), ("_law_text", 1, []), ("_law_far", 1, []), ("_law_draw", 2, []), ("_law_of", 2, []), ("_law_odd", 1, []), ("_law_names_so", 1, []), ("_law_numbers_so", 3, [])], bis := [("str", 1)], cons := ["MOST", "PLENTY", "WHEEL"], fr := FR }
def b_law : List S := [(.set 1 (.call 0 [(.var 0)] [])), (.ifs (.nt (.call 1 [(.lst [(.con 0), (.con 1), (.con 2)]), (.lst [(.int 1000000), (.int 1000000000), (.str "car")])] [])) [(.ret (.bl false))] []), (.for (.nm 2) (.rng [(.int 5)]) [(.set 3 (.lst [(.call 2 [(.bor 1)] []), (.call 2 [(.bor 1)] [])])), (.set 4 (.call 3 [(.bor 1)] [])), (.set 5 (.ite (.cmp .Gt (.call 4 [(.bor 1), (.int 4)] []) (.int 0)) (.bin .Add (.var 4) (.call 4 [(.bor 1), (.call 5 [(.bor 1), (.lst [(.int 1), (.int 2), (.int 3), (.int 1000)])] [])] [])) (.call 3 [(.bor 1)] []))), (.ifs (.cmp .Eq (.call 4 [(.bor 1), (.int 9)] []) (.int 0)) [(.unp (.tp [(.nm 4), (.nm 5)]) (.tup [(.int 0), (.int 1)]))] []), (.set 6 (.lst [(.call 6 [(.bor 1)] []), (.lst [(.idx (.var 3) (.int 0))]), (.tup [(.var 4)]), (.bi 0 [(.var 4)]), (.bin .Add (.idx (.var 3) (.int 0)) (.idx (.var 3) (.int 1))), (.bin .Add (.idx (.var 3) (.int 0)) (.str "\n")), (.tup [(.idx (.var 3) (.int 1)), .non])])), (.for (.nm 7) (.bin .Add (.bin .Add (.var 3) (.var 6)) (.lst [(.str "car"), (.str "aaaaaaaa"), (.str "aaaaaaaaa"), (.str ""), (.str "a"), (.str "z")])) [(.ifs (.or (.nt (.call 7 [(.var 7)] [])) (.nt (.call 8 [(.var 7), (.var 4), (.var 5)] []))) [(.ret (.bl false))] [])]), (.for (.nm 7) (.lst [(.bin .Sub (.var 4) (.int 1)), (.var 4), (.bin .Add (.var 4) (.int 1)), (.bin .Sub (.var 5) (.int 1)), (.var 5), (.bin .Add (.var 5) (.int 1)), (.int 0), (.neg (.int 1)), (.int 1), (.call 3 [(.bor 1)] []), (.bl true), (.bl false), .non]) [(.ifs (.or (.nt (.call 8 [(.var 7), (.var 4), (.call 5 [(.bor 1), (.lst [(.var 5), (.var 5), .non])] [])] [])) (.nt (.call 7 [(.var 7)] []))) [(.ret (.bl false))] [])])]), (.ret (.bl true))]
theorem sc_law : FnScope ["_law_script", "_law_bag_here", "_law_turn", "_law_texts", "_law_low", "_law_high", "_law_odd_here", "_law_thing"] ["_law_script"] (defScope (top 21)) := ⟨rfl, rfl, rfl, by decide +kernel, rfl, by decide +kernel, by decide +kernel⟩
theorem d_law (lv : Nat) : DefC (C_law lv) ["_law_script"] (defArgs (top 21)) (defBody (top 21)) (defScope (top 21)) b_law := ⟨sc_law, rfl, rfl, (show ∀ i ∈ ([] : List Nat), i < 1 by decide), by kernel_rfl⟩
abbrev M_law : Sem := mkSem [] [F__law_bag, (F__law_like 2), F__law_text, F__law_far, F__law_draw, F__law_of, F__law_odd, F__law_names_so, F__law_numbers_so] [strD] [.int 1000000, .int 1000000000, .str "car"] [] noAt
def F_law : FS := fun args R => ∃ ns : List Int, args = [.sh (.klst (ns.map .int))] ∧ ns.length ≤ 63 ∧ ∀ o, R (.sh (.bl true)) o
def lawLoop : List S := match b_law with
  | [_, _, .for _ _ b, _] => b
  | _ => []
theorem okS_of (s : String) (h : s.length ≤ 1000) : okS (Str.ofString s) := by
  refine ⟨by rw [ofString_length]; exact h, fun c hc => ?_⟩
  rw [Str.ofString_eq_toList] at hc
  have hc' : c ∈ s.toList.map Char.toNat := hc
  rw [List.mem_map] at hc'
  obtain ⟨x, _, rfl⟩ := hc'
  have h := x.valid
  simp only [UInt32.isValidChar, Nat.isValidChar] at h
  show x.val.toNat < 0x110000
  omega
theorem okS_int {i : Int} (h1 : -100000000000 < i) (h2 : i < 100000000000) : okS (Str.ofString (toString i)) := by
  have h := int_text_length_le10 (a := i) (k := 11) (by decide) (by show i.natAbs < 100000000000; omega)
  exact okS_of _ (by omega)
theorem okS_app {a b : Str} (h1 : okS a) (h2 : okS b) (hl : a.length + b.length ≤ 1000) : okS (a ++ b) := by
  refine ⟨by rw [Str.length_append]; exact hl, fun c hc => ?_⟩
  have hc' : c ∈ TL.tl (a ++ b) := hc
  rw [TL.tl_append, List.mem_append] at hc'
  rcases hc' with h | h
  · exact h1.2 c h
  · exact h2.2 c h
theorem thing_str {z : Str} (h : okS z) : Thing (.str z) := ⟨by simp only [tyN_str, ne_eq, String.reduceEq, not_false_eq_true], fun y e => by cases e; exact h⟩
theorem log_of {i : Int} (h1 : -100000000000 < i) (h2 : i < 100000000000) : i.natAbs.log2 < 1920 := by
  by_cases h0 : i.natAbs = 0
  · rw [h0]; decide
  · have : i.natAbs.log2 < 40 := (Nat.log2_lt h0).mpr (by show i.natAbs < 1099511627776; omega)
    omega
theorem loop4 (sc x2 x6 x7 : Sl) (z1 z2 : Str) (N' : DEnds) (low high : Int) (d : D) (hd : BagOk d) (h1 : okS z1) (h2 : okS z2) (hz1 : z1.length ≤ 100) (hz2 : z2.length ≤ 100) (hl1 : -10000000000 < low) (hl2 : low < 10000000000) (hh1 : -30000000000 < high) (hh2 : high < 30000000000)
    (hN : ∀ d' y2 y3 y4 y5 y6 y7, BagOk d' → N'.nx [sc, .ow d', y2, y3, y4, y5, y6, y7]) : Later M_law (lawLoop.drop 4) N' [sc, .ow d, x2, .ow (.lst [.str z1, .str z2]), .sh (.int low), .sh (.int high), x6, x7] := by
  refine later ?_
  simp only [lawLoop, b_law, List.drop_succ_cons, List.drop_zero]
  simp only [dflF, kwF, shs, pickG, pickO, consO, Option.map_some, List.take_nil, wMeth, methD, joinD, strsOf_map, wSs_cons, wSs_nil, Later_nil, wS, wE, wT, wI, wX, wVl, wOl, wAv, mk3, mkT, mkI, opd, wIf, wOr, DL.wAnd, DL.wNot, wBool, wTru, wUn, wOp, wFn, wCons, wNil, wVCons, wVNil, wAvNil, wAvVal, wAvBor, wCall2, wC, wVar, wAndV, wOrV, wNotV, wIte, wLst, wTup, wDct, wChn, wSlc, partE, varOp, asOp, entry, content, resO, resOs, frz, wRet, wRetV, wRetN, wNext, wDrop, wSet, wUnp, wPar, wSti, wBrk, wCnt, wMut, muD, wSeq', wFor, wWhile, wLc, wRng1, wRng2, wZip, itemsD, nth, bindTg, bindTgs, noOw, wipeS, restore, wback_val, wback_nil, wback_bor, List.nodup_nil, List.nodup_cons, List.not_mem_nil, bors, resA, pairD, keyD, le_size, List.replicate_succ, List.replicate_zero, List.length_cons, List.length_nil, List.cons_append, List.nil_append, List.getElem?_cons_zero, List.getElem?_cons_succ, List.getElem?_nil, List.set_cons_zero, List.set_cons_succ, Option.isSome_some, List.map_cons, List.map_nil, List.all_cons, List.all_nil, List.any_cons, List.any_nil, Nat.reduceSub, Nat.reduceAdd, Nat.reduceLT, Nat.reduceLeDiff, reduceIte, reduceCtorEq, Bool.not_true, Bool.not_false, Bool.false_eq_true, and_true, true_and, List.drop_zero, List.drop_succ_cons, List.take_succ_cons, List.take_zero, lenD, intD, boolD, strD, listD, tupleD, allD, anyD, blsD, cmpB, cmpD, binD, addD, subD, mulD, fdivD, modD, powD, negD, idxD, slcD, truD, ltD, gtD, leD, geD, eqD_int, eqD_bl, eqD_str, eqD_non, L2.atI, ixN_lit, Int.reduceToNat, Option.bind_some, List.length_map, List.set_cons_zero, List.set_cons_succ, isNon, inD_ss, inStr_one, isiD, seqOf, lstOf, String.reduceNe, String.reduceEq, ne_eq, not_false_eq_true, not_true_eq_false, Bool.or_true, Bool.or_false, Bool.true_or, Bool.false_or, Bool.and_true, Bool.and_false, Bool.true_and, Bool.false_and, isT_NoneType_bool, isT_NoneType_int, isT_NoneType_str, isT_NoneType_list, isT_NoneType_tuple, isT_NoneType_dict, isT_bool_bool, isT_bool_int, isT_bool_str, isT_bool_list, isT_bool_tuple, isT_bool_dict, isT_int_bool, isT_int_int, isT_int_str, isT_int_list, isT_int_tuple, isT_int_dict, isT_str_bool, isT_str_int, isT_str_str, isT_str_list, isT_str_tuple, isT_str_dict, isT_list_bool, isT_list_int, isT_list_str, isT_list_list, isT_list_tuple, isT_list_dict, isT_tuple_bool, isT_tuple_int, isT_tuple_str, isT_tuple_list, isT_tuple_tuple, isT_tuple_dict, isT_dict_bool, isT_dict_int, isT_dict_str, isT_dict_list, isT_dict_tuple, isT_dict_dict, tyN_non, tyN_bl, tyN_int, tyN_str, tyN_lst, tyN_tup, tyN_klst, tyN_dic]
  refine ⟨d, rfl, hd, fun x d2 hx hd2 => ?_⟩
  simp only [dflF, kwF, shs, pickG, pickO, consO, Option.map_some, List.take_nil, wMeth, methD, joinD, strsOf_map, wSs_cons, wSs_nil, Later_nil, wS, wE, wT, wI, wX, wVl, wOl, wAv, mk3, mkT, mkI, opd, wIf, wOr, DL.wAnd, DL.wNot, wBool, wTru, wUn, wOp, wFn, wCons, wNil, wVCons, wVNil, wAvNil, wAvVal, wAvBor, wCall2, wC, wVar, wAndV, wOrV, wNotV, wIte, wLst, wTup, wDct, wChn, wSlc, partE, varOp, asOp, entry, content, resO, resOs, frz, wRet, wRetV, wRetN, wNext, wDrop, wSet, wUnp, wPar, wSti, wBrk, wCnt, wMut, muD, wSeq', wFor, wWhile, wLc, wRng1, wRng2, wZip, itemsD, nth, bindTg, bindTgs, noOw, wipeS, restore, wback_val, wback_nil, wback_bor, List.nodup_nil, List.nodup_cons, List.not_mem_nil, bors, resA, pairD, keyD, le_size, List.replicate_succ, List.replicate_zero, List.length_cons, List.length_nil, List.cons_append, List.nil_append, List.getElem?_cons_zero, List.getElem?_cons_succ, List.getElem?_nil, List.set_cons_zero, List.set_cons_succ, Option.isSome_some, List.map_cons, List.map_nil, List.all_cons, List.all_nil, List.any_cons, List.any_nil, Nat.reduceSub, Nat.reduceAdd, Nat.reduceLT, Nat.reduceLeDiff, reduceIte, reduceCtorEq, Bool.not_true, Bool.not_false, Bool.false_eq_true, and_true, true_and, List.drop_zero, List.drop_succ_cons, List.take_succ_cons, List.take_zero, lenD, intD, boolD, strD, listD, tupleD, allD, anyD, blsD, cmpB, cmpD, binD, addD, subD, mulD, fdivD, modD, powD, negD, idxD, slcD, truD, ltD, gtD, leD, geD, eqD_int, eqD_bl, eqD_str, eqD_non, L2.atI, ixN_lit, Int.reduceToNat, Option.bind_some, List.length_map, List.set_cons_zero, List.set_cons_succ, isNon, inD_ss, inStr_one, isiD, seqOf, lstOf, String.reduceNe, String.reduceEq, ne_eq, not_false_eq_true, not_true_eq_false, Bool.or_true, Bool.or_false, Bool.true_or, Bool.false_or, Bool.and_true, Bool.and_false, Bool.true_and, Bool.false_and, isT_NoneType_bool, isT_NoneType_int, isT_NoneType_str, isT_NoneType_list, isT_NoneType_tuple, isT_NoneType_dict, isT_bool_bool, isT_bool_int, isT_bool_str, isT_bool_list, isT_bool_tuple, isT_bool_dict, isT_int_bool, isT_int_int, isT_int_str, isT_int_list, isT_int_tuple, isT_int_dict, isT_str_bool, isT_str_int, isT_str_str, isT_str_list, isT_str_tuple, isT_str_dict, isT_list_bool, isT_list_int, isT_list_str, isT_list_list, isT_list_tuple, isT_list_dict, isT_tuple_bool, isT_tuple_int, isT_tuple_str, isT_tuple_list, isT_tuple_tuple, isT_tuple_dict, isT_dict_bool, isT_dict_int, isT_dict_str, isT_dict_list, isT_dict_tuple, isT_dict_dict, tyN_non, tyN_bl, tyN_int, tyN_str, tyN_lst, tyN_tup, tyN_klst, tyN_dic]
  refine ⟨log_of (by omega) (by omega), Nat.le_trans (show z1.length + z2.length ≤ 1000000 by omega) (by decide), Nat.le_trans (show z1.length + 1 ≤ 1000000 by omega) (by decide), ?_⟩
  (refine later ?_; simp only [dflF, kwF, shs, pickG, pickO, consO, Option.map_some, List.take_nil, wMeth, methD, joinD, strsOf_map, wSs_cons, wSs_nil, Later_nil, wS, wE, wT, wI, wX, wVl, wOl, wAv, mk3, mkT, mkI, opd, wIf, wOr, DL.wAnd, DL.wNot, wBool, wTru, wUn, wOp, wFn, wCons, wNil, wVCons, wVNil, wAvNil, wAvVal, wAvBor, wCall2, wC, wVar, wAndV, wOrV, wNotV, wIte, wLst, wTup, wDct, wChn, wSlc, partE, varOp, asOp, entry, content, resO, resOs, frz, wRet, wRetV, wRetN, wNext, wDrop, wSet, wUnp, wPar, wSti, wBrk, wCnt, wMut, muD, wSeq', wFor, wWhile, wLc, wRng1, wRng2, wZip, itemsD, nth, bindTg, bindTgs, noOw, wipeS, restore, wback_val, wback_nil, wback_bor, List.nodup_nil, List.nodup_cons, List.not_mem_nil, bors, resA, pairD, keyD, le_size, List.replicate_succ, List.replicate_zero, List.length_cons, List.length_nil, List.cons_append, List.nil_append, List.getElem?_cons_zero, List.getElem?_cons_succ, List.getElem?_nil, List.set_cons_zero, List.set_cons_succ, Option.isSome_some, List.map_cons, List.map_nil, List.all_cons, List.all_nil, List.any_cons, List.any_nil, Nat.reduceSub, Nat.reduceAdd, Nat.reduceLT, Nat.reduceLeDiff, reduceIte, reduceCtorEq, Bool.not_true, Bool.not_false, Bool.false_eq_true, and_true, true_and, List.drop_zero, List.drop_succ_cons, List.take_succ_cons, List.take_zero, lenD, intD, boolD, strD, listD, tupleD, allD, anyD, blsD, cmpB, cmpD, binD, addD, subD, mulD, fdivD, modD, powD, negD, idxD, slcD, truD, ltD, gtD, leD, geD, eqD_int, eqD_bl, eqD_str, eqD_non, L2.atI, ixN_lit, Int.reduceToNat, Option.bind_some, List.length_map, List.set_cons_zero, List.set_cons_succ, isNon, inD_ss, inStr_one, isiD, seqOf, lstOf, String.reduceNe, String.reduceEq, ne_eq, not_false_eq_true, not_true_eq_false, Bool.or_true, Bool.or_false, Bool.true_or, Bool.false_or, Bool.and_true, Bool.and_false, Bool.true_and, Bool.false_and, isT_NoneType_bool, isT_NoneType_int, isT_NoneType_str, isT_NoneType_list, isT_NoneType_tuple, isT_NoneType_dict, isT_bool_bool, isT_bool_int, isT_bool_str, isT_bool_list, isT_bool_tuple, isT_bool_dict, isT_int_bool, isT_int_int, isT_int_str, isT_int_list, isT_int_tuple, isT_int_dict, isT_str_bool, isT_str_int, isT_str_str, isT_str_list, isT_str_tuple, isT_str_dict, isT_list_bool, isT_list_int, isT_list_str, isT_list_list, isT_list_tuple, isT_list_dict, isT_tuple_bool, isT_tuple_int, isT_tuple_str, isT_tuple_list, isT_tuple_tuple, isT_tuple_dict, isT_dict_bool, isT_dict_int, isT_dict_str, isT_dict_list, isT_dict_tuple, isT_dict_dict, tyN_non, tyN_bl, tyN_int, tyN_str, tyN_lst, tyN_tup, tyN_klst, tyN_dic])
  have num : ∀ (m : D) (y6 y7 : Sl) (d2 : D), BagOk d2 → Later M_law (lawLoop.drop 6) N' [sc, .ow d2, x2, .ow (.lst [.str z1, .str z2]), .sh (.int low), .sh (.int high), y6, y7] := by
    intro m y6 y7 d2 hd2
    refine later ?_
    simp only [lawLoop, b_law, List.drop_succ_cons, List.drop_zero]
    simp only [dflF, kwF, shs, pickG, pickO, consO, Option.map_some, List.take_nil, wMeth, methD, joinD, strsOf_map, wSs_cons, wSs_nil, Later_nil, wS, wE, wT, wI, wX, wVl, wOl, wAv, mk3, mkT, mkI, opd, wIf, wOr, DL.wAnd, DL.wNot, wBool, wTru, wUn, wOp, wFn, wCons, wNil, wVCons, wVNil, wAvNil, wAvVal, wAvBor, wCall2, wC, wVar, wAndV, wOrV, wNotV, wIte, wLst, wTup, wDct, wChn, wSlc, partE, varOp, asOp, entry, content, resO, resOs, frz, wRet, wRetV, wRetN, wNext, wDrop, wSet, wUnp, wPar, wSti, wBrk, wCnt, wMut, muD, wSeq', wFor, wWhile, wLc, wRng1, wRng2, wZip, itemsD, nth, bindTg, bindTgs, noOw, wipeS, restore, wback_val, wback_nil, wback_bor, List.nodup_nil, List.nodup_cons, List.not_mem_nil, bors, resA, pairD, keyD, le_size, List.replicate_succ, List.replicate_zero, List.length_cons, List.length_nil, List.cons_append, List.nil_append, List.getElem?_cons_zero, List.getElem?_cons_succ, List.getElem?_nil, List.set_cons_zero, List.set_cons_succ, Option.isSome_some, List.map_cons, List.map_nil, List.all_cons, List.all_nil, List.any_cons, List.any_nil, Nat.reduceSub, Nat.reduceAdd, Nat.reduceLT, Nat.reduceLeDiff, reduceIte, reduceCtorEq, Bool.not_true, Bool.not_false, Bool.false_eq_true, and_true, true_and, List.drop_zero, List.drop_succ_cons, List.take_succ_cons, List.take_zero, lenD, intD, boolD, strD, listD, tupleD, allD, anyD, blsD, cmpB, cmpD, binD, addD, subD, mulD, fdivD, modD, powD, negD, idxD, slcD, truD, ltD, gtD, leD, geD, eqD_int, eqD_bl, eqD_str, eqD_non, L2.atI, ixN_lit, Int.reduceToNat, Option.bind_some, List.length_map, List.set_cons_zero, List.set_cons_succ, isNon, inD_ss, inStr_one, isiD, seqOf, lstOf, String.reduceNe, String.reduceEq, ne_eq, not_false_eq_true, not_true_eq_false, Bool.or_true, Bool.or_false, Bool.true_or, Bool.false_or, Bool.and_true, Bool.and_false, Bool.true_and, Bool.false_and, isT_NoneType_bool, isT_NoneType_int, isT_NoneType_str, isT_NoneType_list, isT_NoneType_tuple, isT_NoneType_dict, isT_bool_bool, isT_bool_int, isT_bool_str, isT_bool_list, isT_bool_tuple, isT_bool_dict, isT_int_bool, isT_int_int, isT_int_str, isT_int_list, isT_int_tuple, isT_int_dict, isT_str_bool, isT_str_int, isT_str_str, isT_str_list, isT_str_tuple, isT_str_dict, isT_list_bool, isT_list_int, isT_list_str, isT_list_list, isT_list_tuple, isT_list_dict, isT_tuple_bool, isT_tuple_int, isT_tuple_str, isT_tuple_list, isT_tuple_tuple, isT_tuple_dict, isT_dict_bool, isT_dict_int, isT_dict_str, isT_dict_list, isT_dict_tuple, isT_dict_dict, tyN_non, tyN_bl, tyN_int, tyN_str, tyN_lst, tyN_tup, tyN_klst, tyN_dic]
    refine ⟨d2, rfl, hd2, fun i d3 hi1 hi2 hd3 => ?_⟩
    simp only [dflF, kwF, shs, pickG, pickO, consO, Option.map_some, List.take_nil, wMeth, methD, joinD, strsOf_map, wSs_cons, wSs_nil, Later_nil, wS, wE, wT, wI, wX, wVl, wOl, wAv, mk3, mkT, mkI, opd, wIf, wOr, DL.wAnd, DL.wNot, wBool, wTru, wUn, wOp, wFn, wCons, wNil, wVCons, wVNil, wAvNil, wAvVal, wAvBor, wCall2, wC, wVar, wAndV, wOrV, wNotV, wIte, wLst, wTup, wDct, wChn, wSlc, partE, varOp, asOp, entry, content, resO, resOs, frz, wRet, wRetV, wRetN, wNext, wDrop, wSet, wUnp, wPar, wSti, wBrk, wCnt, wMut, muD, wSeq', wFor, wWhile, wLc, wRng1, wRng2, wZip, itemsD, nth, bindTg, bindTgs, noOw, wipeS, restore, wback_val, wback_nil, wback_bor, List.nodup_nil, List.nodup_cons, List.not_mem_nil, bors, resA, pairD, keyD, le_size, List.replicate_succ, List.replicate_zero, List.length_cons, List.length_nil, List.cons_append, List.nil_append, List.getElem?_cons_zero, List.getElem?_cons_succ, List.getElem?_nil, List.set_cons_zero, List.set_cons_succ, Option.isSome_some, List.map_cons, List.map_nil, List.all_cons, List.all_nil, List.any_cons, List.any_nil, Nat.reduceSub, Nat.reduceAdd, Nat.reduceLT, Nat.reduceLeDiff, reduceIte, reduceCtorEq, Bool.not_true, Bool.not_false, Bool.false_eq_true, and_true, true_and, List.drop_zero, List.drop_succ_cons, List.take_succ_cons, List.take_zero, lenD, intD, boolD, strD, listD, tupleD, allD, anyD, blsD, cmpB, cmpD, binD, addD, subD, mulD, fdivD, modD, powD, negD, idxD, slcD, truD, ltD, gtD, leD, geD, eqD_int, eqD_bl, eqD_str, eqD_non, L2.atI, ixN_lit, Int.reduceToNat, Option.bind_some, List.length_map, List.set_cons_zero, List.set_cons_succ, isNon, inD_ss, inStr_one, isiD, seqOf, lstOf, String.reduceNe, String.reduceEq, ne_eq, not_false_eq_true, not_true_eq_false, Bool.or_true, Bool.or_false, Bool.true_or, Bool.false_or, Bool.and_true, Bool.and_false, Bool.true_and, Bool.false_and, isT_NoneType_bool, isT_NoneType_int, isT_NoneType_str, isT_NoneType_list, isT_NoneType_tuple, isT_NoneType_dict, isT_bool_bool, isT_bool_int, isT_bool_str, isT_bool_list, isT_bool_tuple, isT_bool_dict, isT_int_bool, isT_int_int, isT_int_str, isT_int_list, isT_int_tuple, isT_int_dict, isT_str_bool, isT_str_int, isT_str_str, isT_str_list, isT_str_tuple, isT_str_dict, isT_list_bool, isT_list_int, isT_list_str, isT_list_list, isT_list_tuple, isT_list_dict, isT_tuple_bool, isT_tuple_int, isT_tuple_str, isT_tuple_list, isT_tuple_tuple, isT_tuple_dict, isT_dict_bool, isT_dict_int, isT_dict_str, isT_dict_list, isT_dict_tuple, isT_dict_dict, tyN_non, tyN_bl, tyN_int, tyN_str, tyN_lst, tyN_tup, tyN_klst, tyN_dic]
    refine forGo_ind (fun ds s => (∀ y ∈ ds, Thing y) ∧ ∃ d' y6 y7, s = [sc, .ow d', x2, .ow (.lst [.str z1, .str z2]), .sh (.int low), .sh (.int high), y6, y7] ∧ BagOk d') ?_ ?_ _ _ ⟨fun y hy => ?_, d3, _, _, rfl, hd3⟩
    · rintro s ⟨_, d', y6, y7, rfl, hd'⟩
      simp only [Later_nil]
      exact hN _ _ _ _ _ _ _ hd'
    · rintro y ds s ⟨hds, d', y6, y7, rfl, hd'⟩ K hK
      refine ⟨_, rfl, ?_⟩
      have hy := hds y (.head _)
      simp only [dflF, kwF, shs, pickG, pickO, consO, Option.map_some, List.take_nil, wMeth, methD, joinD, strsOf_map, wSs_cons, wSs_nil, Later_nil, wS, wE, wT, wI, wX, wVl, wOl, wAv, mk3, mkT, mkI, opd, wIf, wOr, DL.wAnd, DL.wNot, wBool, wTru, wUn, wOp, wFn, wCons, wNil, wVCons, wVNil, wAvNil, wAvVal, wAvBor, wCall2, wC, wVar, wAndV, wOrV, wNotV, wIte, wLst, wTup, wDct, wChn, wSlc, partE, varOp, asOp, entry, content, resO, resOs, frz, wRet, wRetV, wRetN, wNext, wDrop, wSet, wUnp, wPar, wSti, wBrk, wCnt, wMut, muD, wSeq', wFor, wWhile, wLc, wRng1, wRng2, wZip, itemsD, nth, bindTg, bindTgs, noOw, wipeS, restore, wback_val, wback_nil, wback_bor, List.nodup_nil, List.nodup_cons, List.not_mem_nil, bors, resA, pairD, keyD, le_size, List.replicate_succ, List.replicate_zero, List.length_cons, List.length_nil, List.cons_append, List.nil_append, List.getElem?_cons_zero, List.getElem?_cons_succ, List.getElem?_nil, List.set_cons_zero, List.set_cons_succ, Option.isSome_some, List.map_cons, List.map_nil, List.all_cons, List.all_nil, List.any_cons, List.any_nil, Nat.reduceSub, Nat.reduceAdd, Nat.reduceLT, Nat.reduceLeDiff, reduceIte, reduceCtorEq, Bool.not_true, Bool.not_false, Bool.false_eq_true, and_true, true_and, List.drop_zero, List.drop_succ_cons, List.take_succ_cons, List.take_zero, lenD, intD, boolD, strD, listD, tupleD, allD, anyD, blsD, cmpB, cmpD, binD, addD, subD, mulD, fdivD, modD, powD, negD, idxD, slcD, truD, ltD, gtD, leD, geD, eqD_int, eqD_bl, eqD_str, eqD_non, L2.atI, ixN_lit, Int.reduceToNat, Option.bind_some, List.length_map, List.set_cons_zero, List.set_cons_succ, isNon, inD_ss, inStr_one, isiD, seqOf, lstOf, String.reduceNe, String.reduceEq, ne_eq, not_false_eq_true, not_true_eq_false, Bool.or_true, Bool.or_false, Bool.true_or, Bool.false_or, Bool.and_true, Bool.and_false, Bool.true_and, Bool.false_and, isT_NoneType_bool, isT_NoneType_int, isT_NoneType_str, isT_NoneType_list, isT_NoneType_tuple, isT_NoneType_dict, isT_bool_bool, isT_bool_int, isT_bool_str, isT_bool_list, isT_bool_tuple, isT_bool_dict, isT_int_bool, isT_int_int, isT_int_str, isT_int_list, isT_int_tuple, isT_int_dict, isT_str_bool, isT_str_int, isT_str_str, isT_str_list, isT_str_tuple, isT_str_dict, isT_list_bool, isT_list_int, isT_list_str, isT_list_list, isT_list_tuple, isT_list_dict, isT_tuple_bool, isT_tuple_int, isT_tuple_str, isT_tuple_list, isT_tuple_tuple, isT_tuple_dict, isT_dict_bool, isT_dict_int, isT_dict_str, isT_dict_list, isT_dict_tuple, isT_dict_dict, tyN_non, tyN_bl, tyN_int, tyN_str, tyN_lst, tyN_tup, tyN_klst, tyN_dic]
      refine ⟨d', _, _, rfl, hd', rfl, by show 0 < 3; decide, by show 3 ≤ 1000000; decide, fun t d4 ht hd4 => ?_⟩
      have hto : topOk t := by
        simp only [List.mem_cons, List.not_mem_nil, or_false] at ht
        rcases ht with rfl | rfl | rfl
        · exact .inr ⟨_, rfl⟩
        · exact .inr ⟨_, rfl⟩
        · exact .inl rfl
      simp only [dflF, kwF, shs, pickG, pickO, consO, Option.map_some, List.take_nil, wMeth, methD, joinD, strsOf_map, wSs_cons, wSs_nil, Later_nil, wS, wE, wT, wI, wX, wVl, wOl, wAv, mk3, mkT, mkI, opd, wIf, wOr, DL.wAnd, DL.wNot, wBool, wTru, wUn, wOp, wFn, wCons, wNil, wVCons, wVNil, wAvNil, wAvVal, wAvBor, wCall2, wC, wVar, wAndV, wOrV, wNotV, wIte, wLst, wTup, wDct, wChn, wSlc, partE, varOp, asOp, entry, content, resO, resOs, frz, wRet, wRetV, wRetN, wNext, wDrop, wSet, wUnp, wPar, wSti, wBrk, wCnt, wMut, muD, wSeq', wFor, wWhile, wLc, wRng1, wRng2, wZip, itemsD, nth, bindTg, bindTgs, noOw, wipeS, restore, wback_val, wback_nil, wback_bor, List.nodup_nil, List.nodup_cons, List.not_mem_nil, bors, resA, pairD, keyD, le_size, List.replicate_succ, List.replicate_zero, List.length_cons, List.length_nil, List.cons_append, List.nil_append, List.getElem?_cons_zero, List.getElem?_cons_succ, List.getElem?_nil, List.set_cons_zero, List.set_cons_succ, Option.isSome_some, List.map_cons, List.map_nil, List.all_cons, List.all_nil, List.any_cons, List.any_nil, Nat.reduceSub, Nat.reduceAdd, Nat.reduceLT, Nat.reduceLeDiff, reduceIte, reduceCtorEq, Bool.not_true, Bool.not_false, Bool.false_eq_true, and_true, true_and, List.drop_zero, List.drop_succ_cons, List.take_succ_cons, List.take_zero, lenD, intD, boolD, strD, listD, tupleD, allD, anyD, blsD, cmpB, cmpD, binD, addD, subD, mulD, fdivD, modD, powD, negD, idxD, slcD, truD, ltD, gtD, leD, geD, eqD_int, eqD_bl, eqD_str, eqD_non, L2.atI, ixN_lit, Int.reduceToNat, Option.bind_some, List.length_map, List.set_cons_zero, List.set_cons_succ, isNon, inD_ss, inStr_one, isiD, seqOf, lstOf, String.reduceNe, String.reduceEq, ne_eq, not_false_eq_true, not_true_eq_false, Bool.or_true, Bool.or_false, Bool.true_or, Bool.false_or, Bool.and_true, Bool.and_false, Bool.true_and, Bool.false_and, isT_NoneType_bool, isT_NoneType_int, isT_NoneType_str, isT_NoneType_list, isT_NoneType_tuple, isT_NoneType_dict, isT_bool_bool, isT_bool_int, isT_bool_str, isT_bool_list, isT_bool_tuple, isT_bool_dict, isT_int_bool, isT_int_int, isT_int_str, isT_int_list, isT_int_tuple, isT_int_dict, isT_str_bool, isT_str_int, isT_str_str, isT_str_list, isT_str_tuple, isT_str_dict, isT_list_bool, isT_list_int, isT_list_str, isT_list_list, isT_list_tuple, isT_list_dict, isT_tuple_bool, isT_tuple_int, isT_tuple_str, isT_tuple_list, isT_tuple_tuple, isT_tuple_dict, isT_dict_bool, isT_dict_int, isT_dict_str, isT_dict_list, isT_dict_tuple, isT_dict_dict, tyN_non, tyN_bl, tyN_int, tyN_str, tyN_lst, tyN_tup, tyN_klst, tyN_dic]
      refine ⟨y, low, t, rfl, hy.1, hto, fun o => ?_⟩
      simp only [dflF, kwF, shs, pickG, pickO, consO, Option.map_some, List.take_nil, wMeth, methD, joinD, strsOf_map, wSs_cons, wSs_nil, Later_nil, wS, wE, wT, wI, wX, wVl, wOl, wAv, mk3, mkT, mkI, opd, wIf, wOr, DL.wAnd, DL.wNot, wBool, wTru, wUn, wOp, wFn, wCons, wNil, wVCons, wVNil, wAvNil, wAvVal, wAvBor, wCall2, wC, wVar, wAndV, wOrV, wNotV, wIte, wLst, wTup, wDct, wChn, wSlc, partE, varOp, asOp, entry, content, resO, resOs, frz, wRet, wRetV, wRetN, wNext, wDrop, wSet, wUnp, wPar, wSti, wBrk, wCnt, wMut, muD, wSeq', wFor, wWhile, wLc, wRng1, wRng2, wZip, itemsD, nth, bindTg, bindTgs, noOw, wipeS, restore, wback_val, wback_nil, wback_bor, List.nodup_nil, List.nodup_cons, List.not_mem_nil, bors, resA, pairD, keyD, le_size, List.replicate_succ, List.replicate_zero, List.length_cons, List.length_nil, List.cons_append, List.nil_append, List.getElem?_cons_zero, List.getElem?_cons_succ, List.getElem?_nil, List.set_cons_zero, List.set_cons_succ, Option.isSome_some, List.map_cons, List.map_nil, List.all_cons, List.all_nil, List.any_cons, List.any_nil, Nat.reduceSub, Nat.reduceAdd, Nat.reduceLT, Nat.reduceLeDiff, reduceIte, reduceCtorEq, Bool.not_true, Bool.not_false, Bool.false_eq_true, and_true, true_and, List.drop_zero, List.drop_succ_cons, List.take_succ_cons, List.take_zero, lenD, intD, boolD, strD, listD, tupleD, allD, anyD, blsD, cmpB, cmpD, binD, addD, subD, mulD, fdivD, modD, powD, negD, idxD, slcD, truD, ltD, gtD, leD, geD, eqD_int, eqD_bl, eqD_str, eqD_non, L2.atI, ixN_lit, Int.reduceToNat, Option.bind_some, List.length_map, List.set_cons_zero, List.set_cons_succ, isNon, inD_ss, inStr_one, isiD, seqOf, lstOf, String.reduceNe, String.reduceEq, ne_eq, not_false_eq_true, not_true_eq_false, Bool.or_true, Bool.or_false, Bool.true_or, Bool.false_or, Bool.and_true, Bool.and_false, Bool.true_and, Bool.false_and, isT_NoneType_bool, isT_NoneType_int, isT_NoneType_str, isT_NoneType_list, isT_NoneType_tuple, isT_NoneType_dict, isT_bool_bool, isT_bool_int, isT_bool_str, isT_bool_list, isT_bool_tuple, isT_bool_dict, isT_int_bool, isT_int_int, isT_int_str, isT_int_list, isT_int_tuple, isT_int_dict, isT_str_bool, isT_str_int, isT_str_str, isT_str_list, isT_str_tuple, isT_str_dict, isT_list_bool, isT_list_int, isT_list_str, isT_list_list, isT_list_tuple, isT_list_dict, isT_tuple_bool, isT_tuple_int, isT_tuple_str, isT_tuple_list, isT_tuple_tuple, isT_tuple_dict, isT_dict_bool, isT_dict_int, isT_dict_str, isT_dict_list, isT_dict_tuple, isT_dict_dict, tyN_non, tyN_bl, tyN_int, tyN_str, tyN_lst, tyN_tup, tyN_klst, tyN_dic]
      refine ⟨y, rfl, hy, fun o => ?_⟩
      simp only [dflF, kwF, shs, pickG, pickO, consO, Option.map_some, List.take_nil, wMeth, methD, joinD, strsOf_map, wSs_cons, wSs_nil, Later_nil, wS, wE, wT, wI, wX, wVl, wOl, wAv, mk3, mkT, mkI, opd, wIf, wOr, DL.wAnd, DL.wNot, wBool, wTru, wUn, wOp, wFn, wCons, wNil, wVCons, wVNil, wAvNil, wAvVal, wAvBor, wCall2, wC, wVar, wAndV, wOrV, wNotV, wIte, wLst, wTup, wDct, wChn, wSlc, partE, varOp, asOp, entry, content, resO, resOs, frz, wRet, wRetV, wRetN, wNext, wDrop, wSet, wUnp, wPar, wSti, wBrk, wCnt, wMut, muD, wSeq', wFor, wWhile, wLc, wRng1, wRng2, wZip, itemsD, nth, bindTg, bindTgs, noOw, wipeS, restore, wback_val, wback_nil, wback_bor, List.nodup_nil, List.nodup_cons, List.not_mem_nil, bors, resA, pairD, keyD, le_size, List.replicate_succ, List.replicate_zero, List.length_cons, List.length_nil, List.cons_append, List.nil_append, List.getElem?_cons_zero, List.getElem?_cons_succ, List.getElem?_nil, List.set_cons_zero, List.set_cons_succ, Option.isSome_some, List.map_cons, List.map_nil, List.all_cons, List.all_nil, List.any_cons, List.any_nil, Nat.reduceSub, Nat.reduceAdd, Nat.reduceLT, Nat.reduceLeDiff, reduceIte, reduceCtorEq, Bool.not_true, Bool.not_false, Bool.false_eq_true, and_true, true_and, List.drop_zero, List.drop_succ_cons, List.take_succ_cons, List.take_zero, lenD, intD, boolD, strD, listD, tupleD, allD, anyD, blsD, cmpB, cmpD, binD, addD, subD, mulD, fdivD, modD, powD, negD, idxD, slcD, truD, ltD, gtD, leD, geD, eqD_int, eqD_bl, eqD_str, eqD_non, L2.atI, ixN_lit, Int.reduceToNat, Option.bind_some, List.length_map, List.set_cons_zero, List.set_cons_succ, isNon, inD_ss, inStr_one, isiD, seqOf, lstOf, String.reduceNe, String.reduceEq, ne_eq, not_false_eq_true, not_true_eq_false, Bool.or_true, Bool.or_false, Bool.true_or, Bool.false_or, Bool.and_true, Bool.and_false, Bool.true_and, Bool.false_and, isT_NoneType_bool, isT_NoneType_int, isT_NoneType_str, isT_NoneType_list, isT_NoneType_tuple, isT_NoneType_dict, isT_bool_bool, isT_bool_int, isT_bool_str, isT_bool_list, isT_bool_tuple, isT_bool_dict, isT_int_bool, isT_int_int, isT_int_str, isT_int_list, isT_int_tuple, isT_int_dict, isT_str_bool, isT_str_int, isT_str_str, isT_str_list, isT_str_tuple, isT_str_dict, isT_list_bool, isT_list_int, isT_list_str, isT_list_list, isT_list_tuple, isT_list_dict, isT_tuple_bool, isT_tuple_int, isT_tuple_str, isT_tuple_list, isT_tuple_tuple, isT_tuple_dict, isT_dict_bool, isT_dict_int, isT_dict_str, isT_dict_list, isT_dict_tuple, isT_dict_dict, tyN_non, tyN_bl, tyN_int, tyN_str, tyN_lst, tyN_tup, tyN_klst, tyN_dic]
      exact hK _ ⟨fun z m => hds z (.tail _ m), _, _, _, rfl, hd4⟩
    · refine thing_of ?_
      simp only [List.mem_cons, List.not_mem_nil, or_false] at hy
      rcases hy with rfl | rfl | rfl | rfl | rfl | rfl | rfl | rfl | rfl | rfl | rfl | rfl | rfl <;> rfl
  refine forGo_ind (fun ds s => (∀ y ∈ ds, Thing y) ∧ ∃ y6 y7, s = [sc, .ow d2, x2, .ow (.lst [.str z1, .str z2]), .sh (.int low), .sh (.int high), y6, y7]) ?_ ?_ _ _ ⟨fun y hy => ?_, _, _, rfl⟩
  · rintro s ⟨_, y6, y7, rfl⟩
    exact num .non _ _ d2 hd2
  · rintro y ds s ⟨hds, y6, y7, rfl⟩ K hK
    refine ⟨_, rfl, ?_⟩
    have hy := hds y (.head _)
    simp only [dflF, kwF, shs, pickG, pickO, consO, Option.map_some, List.take_nil, wMeth, methD, joinD, strsOf_map, wSs_cons, wSs_nil, Later_nil, wS, wE, wT, wI, wX, wVl, wOl, wAv, mk3, mkT, mkI, opd, wIf, wOr, DL.wAnd, DL.wNot, wBool, wTru, wUn, wOp, wFn, wCons, wNil, wVCons, wVNil, wAvNil, wAvVal, wAvBor, wCall2, wC, wVar, wAndV, wOrV, wNotV, wIte, wLst, wTup, wDct, wChn, wSlc, partE, varOp, asOp, entry, content, resO, resOs, frz, wRet, wRetV, wRetN, wNext, wDrop, wSet, wUnp, wPar, wSti, wBrk, wCnt, wMut, muD, wSeq', wFor, wWhile, wLc, wRng1, wRng2, wZip, itemsD, nth, bindTg, bindTgs, noOw, wipeS, restore, wback_val, wback_nil, wback_bor, List.nodup_nil, List.nodup_cons, List.not_mem_nil, bors, resA, pairD, keyD, le_size, List.replicate_succ, List.replicate_zero, List.length_cons, List.length_nil, List.cons_append, List.nil_append, List.getElem?_cons_zero, List.getElem?_cons_succ, List.getElem?_nil, List.set_cons_zero, List.set_cons_succ, Option.isSome_some, List.map_cons, List.map_nil, List.all_cons, List.all_nil, List.any_cons, List.any_nil, Nat.reduceSub, Nat.reduceAdd, Nat.reduceLT, Nat.reduceLeDiff, reduceIte, reduceCtorEq, Bool.not_true, Bool.not_false, Bool.false_eq_true, and_true, true_and, List.drop_zero, List.drop_succ_cons, List.take_succ_cons, List.take_zero, lenD, intD, boolD, strD, listD, tupleD, allD, anyD, blsD, cmpB, cmpD, binD, addD, subD, mulD, fdivD, modD, powD, negD, idxD, slcD, truD, ltD, gtD, leD, geD, eqD_int, eqD_bl, eqD_str, eqD_non, L2.atI, ixN_lit, Int.reduceToNat, Option.bind_some, List.length_map, List.set_cons_zero, List.set_cons_succ, isNon, inD_ss, inStr_one, isiD, seqOf, lstOf, String.reduceNe, String.reduceEq, ne_eq, not_false_eq_true, not_true_eq_false, Bool.or_true, Bool.or_false, Bool.true_or, Bool.false_or, Bool.and_true, Bool.and_false, Bool.true_and, Bool.false_and, isT_NoneType_bool, isT_NoneType_int, isT_NoneType_str, isT_NoneType_list, isT_NoneType_tuple, isT_NoneType_dict, isT_bool_bool, isT_bool_int, isT_bool_str, isT_bool_list, isT_bool_tuple, isT_bool_dict, isT_int_bool, isT_int_int, isT_int_str, isT_int_list, isT_int_tuple, isT_int_dict, isT_str_bool, isT_str_int, isT_str_str, isT_str_list, isT_str_tuple, isT_str_dict, isT_list_bool, isT_list_int, isT_list_str, isT_list_list, isT_list_tuple, isT_list_dict, isT_tuple_bool, isT_tuple_int, isT_tuple_str, isT_tuple_list, isT_tuple_tuple, isT_tuple_dict, isT_dict_bool, isT_dict_int, isT_dict_str, isT_dict_list, isT_dict_tuple, isT_dict_dict, tyN_non, tyN_bl, tyN_int, tyN_str, tyN_lst, tyN_tup, tyN_klst, tyN_dic]
    refine ⟨y, rfl, hy, fun o => ?_⟩
    simp only [dflF, kwF, shs, pickG, pickO, consO, Option.map_some, List.take_nil, wMeth, methD, joinD, strsOf_map, wSs_cons, wSs_nil, Later_nil, wS, wE, wT, wI, wX, wVl, wOl, wAv, mk3, mkT, mkI, opd, wIf, wOr, DL.wAnd, DL.wNot, wBool, wTru, wUn, wOp, wFn, wCons, wNil, wVCons, wVNil, wAvNil, wAvVal, wAvBor, wCall2, wC, wVar, wAndV, wOrV, wNotV, wIte, wLst, wTup, wDct, wChn, wSlc, partE, varOp, asOp, entry, content, resO, resOs, frz, wRet, wRetV, wRetN, wNext, wDrop, wSet, wUnp, wPar, wSti, wBrk, wCnt, wMut, muD, wSeq', wFor, wWhile, wLc, wRng1, wRng2, wZip, itemsD, nth, bindTg, bindTgs, noOw, wipeS, restore, wback_val, wback_nil, wback_bor, List.nodup_nil, List.nodup_cons, List.not_mem_nil, bors, resA, pairD, keyD, le_size, List.replicate_succ, List.replicate_zero, List.length_cons, List.length_nil, List.cons_append, List.nil_append, List.getElem?_cons_zero, List.getElem?_cons_succ, List.getElem?_nil, List.set_cons_zero, List.set_cons_succ, Option.isSome_some, List.map_cons, List.map_nil, List.all_cons, List.all_nil, List.any_cons, List.any_nil, Nat.reduceSub, Nat.reduceAdd, Nat.reduceLT, Nat.reduceLeDiff, reduceIte, reduceCtorEq, Bool.not_true, Bool.not_false, Bool.false_eq_true, and_true, true_and, List.drop_zero, List.drop_succ_cons, List.take_succ_cons, List.take_zero, lenD, intD, boolD, strD, listD, tupleD, allD, anyD, blsD, cmpB, cmpD, binD, addD, subD, mulD, fdivD, modD, powD, negD, idxD, slcD, truD, ltD, gtD, leD, geD, eqD_int, eqD_bl, eqD_str, eqD_non, L2.atI, ixN_lit, Int.reduceToNat, Option.bind_some, List.length_map, List.set_cons_zero, List.set_cons_succ, isNon, inD_ss, inStr_one, isiD, seqOf, lstOf, String.reduceNe, String.reduceEq, ne_eq, not_false_eq_true, not_true_eq_false, Bool.or_true, Bool.or_false, Bool.true_or, Bool.false_or, Bool.and_true, Bool.and_false, Bool.true_and, Bool.false_and, isT_NoneType_bool, isT_NoneType_int, isT_NoneType_str, isT_NoneType_list, isT_NoneType_tuple, isT_NoneType_dict, isT_bool_bool, isT_bool_int, isT_bool_str, isT_bool_list, isT_bool_tuple, isT_bool_dict, isT_int_bool, isT_int_int, isT_int_str, isT_int_list, isT_int_tuple, isT_int_dict, isT_str_bool, isT_str_int, isT_str_str, isT_str_list, isT_str_tuple, isT_str_dict, isT_list_bool, isT_list_int, isT_list_str, isT_list_list, isT_list_tuple, isT_list_dict, isT_tuple_bool, isT_tuple_int, isT_tuple_str, isT_tuple_list, isT_tuple_tuple, isT_tuple_dict, isT_dict_bool, isT_dict_int, isT_dict_str, isT_dict_list, isT_dict_tuple, isT_dict_dict, tyN_non, tyN_bl, tyN_int, tyN_str, tyN_lst, tyN_tup, tyN_klst, tyN_dic]
    refine ⟨y, low, _, rfl, hy.1, .inr ⟨high, rfl⟩, fun o => ?_⟩
    simp only [dflF, kwF, shs, pickG, pickO, consO, Option.map_some, List.take_nil, wMeth, methD, joinD, strsOf_map, wSs_cons, wSs_nil, Later_nil, wS, wE, wT, wI, wX, wVl, wOl, wAv, mk3, mkT, mkI, opd, wIf, wOr, DL.wAnd, DL.wNot, wBool, wTru, wUn, wOp, wFn, wCons, wNil, wVCons, wVNil, wAvNil, wAvVal, wAvBor, wCall2, wC, wVar, wAndV, wOrV, wNotV, wIte, wLst, wTup, wDct, wChn, wSlc, partE, varOp, asOp, entry, content, resO, resOs, frz, wRet, wRetV, wRetN, wNext, wDrop, wSet, wUnp, wPar, wSti, wBrk, wCnt, wMut, muD, wSeq', wFor, wWhile, wLc, wRng1, wRng2, wZip, itemsD, nth, bindTg, bindTgs, noOw, wipeS, restore, wback_val, wback_nil, wback_bor, List.nodup_nil, List.nodup_cons, List.not_mem_nil, bors, resA, pairD, keyD, le_size, List.replicate_succ, List.replicate_zero, List.length_cons, List.length_nil, List.cons_append, List.nil_append, List.getElem?_cons_zero, List.getElem?_cons_succ, List.getElem?_nil, List.set_cons_zero, List.set_cons_succ, Option.isSome_some, List.map_cons, List.map_nil, List.all_cons, List.all_nil, List.any_cons, List.any_nil, Nat.reduceSub, Nat.reduceAdd, Nat.reduceLT, Nat.reduceLeDiff, reduceIte, reduceCtorEq, Bool.not_true, Bool.not_false, Bool.false_eq_true, and_true, true_and, List.drop_zero, List.drop_succ_cons, List.take_succ_cons, List.take_zero, lenD, intD, boolD, strD, listD, tupleD, allD, anyD, blsD, cmpB, cmpD, binD, addD, subD, mulD, fdivD, modD, powD, negD, idxD, slcD, truD, ltD, gtD, leD, geD, eqD_int, eqD_bl, eqD_str, eqD_non, L2.atI, ixN_lit, Int.reduceToNat, Option.bind_some, List.length_map, List.set_cons_zero, List.set_cons_succ, isNon, inD_ss, inStr_one, isiD, seqOf, lstOf, String.reduceNe, String.reduceEq, ne_eq, not_false_eq_true, not_true_eq_false, Bool.or_true, Bool.or_false, Bool.true_or, Bool.false_or, Bool.and_true, Bool.and_false, Bool.true_and, Bool.false_and, isT_NoneType_bool, isT_NoneType_int, isT_NoneType_str, isT_NoneType_list, isT_NoneType_tuple, isT_NoneType_dict, isT_bool_bool, isT_bool_int, isT_bool_str, isT_bool_list, isT_bool_tuple, isT_bool_dict, isT_int_bool, isT_int_int, isT_int_str, isT_int_list, isT_int_tuple, isT_int_dict, isT_str_bool, isT_str_int, isT_str_str, isT_str_list, isT_str_tuple, isT_str_dict, isT_list_bool, isT_list_int, isT_list_str, isT_list_list, isT_list_tuple, isT_list_dict, isT_tuple_bool, isT_tuple_int, isT_tuple_str, isT_tuple_list, isT_tuple_tuple, isT_tuple_dict, isT_dict_bool, isT_dict_int, isT_dict_str, isT_dict_list, isT_dict_tuple, isT_dict_dict, tyN_non, tyN_bl, tyN_int, tyN_str, tyN_lst, tyN_tup, tyN_klst, tyN_dic]
    exact hK _ ⟨fun z m => hds z (.tail _ m), _, _, rfl⟩
  · simp only [List.mem_cons, List.not_mem_nil, or_false] at hy
    rcases hy with rfl | rfl | rfl | rfl | rfl | rfl | rfl | rfl | rfl | rfl | rfl | rfl | rfl | rfl | rfl
    · exact thing_str h1
    · exact thing_str h2
    · exact hx
    · exact thing_of rfl
    · exact thing_of rfl
    · exact thing_str (okS_int (by omega) (by omega))
    · exact thing_str (okS_app h1 h2 (by omega))
    · exact thing_str (okS_app h1 (okS_of _ (by decide)) (by show z1.length + 1 ≤ 1000; omega))
    · exact thing_of rfl
    all_goals exact thing_of (by decide +kernel)
theorem loop3 (sc x2 tx x6 x7 : Sl) (z1 z2 : Str) (N' : DEnds) (low high : Int) (d : D) (hd : BagOk d) (h1 : okS z1) (h2 : okS z2) (hz1 : z1.length ≤ 100) (hz2 : z2.length ≤ 100) (hl1 : -10000000000 < low) (hl2 : low < 10000000000) (hh1 : -30000000000 < high) (hh2 : high < 30000000000)
    (hN : ∀ d' y2 y3 y4 y5 y6 y7, BagOk d' → N'.nx [sc, .ow d', y2, y3, y4, y5, y6, y7]) : Later M_law (lawLoop.drop 3) N' [sc, .ow d, x2, .ow (.lst [.str z1, .str z2]), .sh (.int low), .sh (.int high), x6, x7] := by
  refine later ?_
  simp only [lawLoop, b_law, List.drop_succ_cons, List.drop_zero]
  simp only [dflF, kwF, shs, pickG, pickO, consO, Option.map_some, List.take_nil, wMeth, methD, joinD, strsOf_map, wSs_cons, wSs_nil, Later_nil, wS, wE, wT, wI, wX, wVl, wOl, wAv, mk3, mkT, mkI, opd, wIf, wOr, DL.wAnd, DL.wNot, wBool, wTru, wUn, wOp, wFn, wCons, wNil, wVCons, wVNil, wAvNil, wAvVal, wAvBor, wCall2, wC, wVar, wAndV, wOrV, wNotV, wIte, wLst, wTup, wDct, wChn, wSlc, partE, varOp, asOp, entry, content, resO, resOs, frz, wRet, wRetV, wRetN, wNext, wDrop, wSet, wUnp, wPar, wSti, wBrk, wCnt, wMut, muD, wSeq', wFor, wWhile, wLc, wRng1, wRng2, wZip, itemsD, nth, bindTg, bindTgs, noOw, wipeS, restore, wback_val, wback_nil, wback_bor, List.nodup_nil, List.nodup_cons, List.not_mem_nil, bors, resA, pairD, keyD, le_size, List.replicate_succ, List.replicate_zero, List.length_cons, List.length_nil, List.cons_append, List.nil_append, List.getElem?_cons_zero, List.getElem?_cons_succ, List.getElem?_nil, List.set_cons_zero, List.set_cons_succ, Option.isSome_some, List.map_cons, List.map_nil, List.all_cons, List.all_nil, List.any_cons, List.any_nil, Nat.reduceSub, Nat.reduceAdd, Nat.reduceLT, Nat.reduceLeDiff, reduceIte, reduceCtorEq, Bool.not_true, Bool.not_false, Bool.false_eq_true, and_true, true_and, List.drop_zero, List.drop_succ_cons, List.take_succ_cons, List.take_zero, lenD, intD, boolD, strD, listD, tupleD, allD, anyD, blsD, cmpB, cmpD, binD, addD, subD, mulD, fdivD, modD, powD, negD, idxD, slcD, truD, ltD, gtD, leD, geD, eqD_int, eqD_bl, eqD_str, eqD_non, L2.atI, ixN_lit, Int.reduceToNat, Option.bind_some, List.length_map, List.set_cons_zero, List.set_cons_succ, isNon, inD_ss, inStr_one, isiD, seqOf, lstOf, String.reduceNe, String.reduceEq, ne_eq, not_false_eq_true, not_true_eq_false, Bool.or_true, Bool.or_false, Bool.true_or, Bool.false_or, Bool.and_true, Bool.and_false, Bool.true_and, Bool.false_and, isT_NoneType_bool, isT_NoneType_int, isT_NoneType_str, isT_NoneType_list, isT_NoneType_tuple, isT_NoneType_dict, isT_bool_bool, isT_bool_int, isT_bool_str, isT_bool_list, isT_bool_tuple, isT_bool_dict, isT_int_bool, isT_int_int, isT_int_str, isT_int_list, isT_int_tuple, isT_int_dict, isT_str_bool, isT_str_int, isT_str_str, isT_str_list, isT_str_tuple, isT_str_dict, isT_list_bool, isT_list_int, isT_list_str, isT_list_list, isT_list_tuple, isT_list_dict, isT_tuple_bool, isT_tuple_int, isT_tuple_str, isT_tuple_list, isT_tuple_tuple, isT_tuple_dict, isT_dict_bool, isT_dict_int, isT_dict_str, isT_dict_list, isT_dict_tuple, isT_dict_dict, tyN_non, tyN_bl, tyN_int, tyN_str, tyN_lst, tyN_tup, tyN_klst, tyN_dic]
  refine ⟨d, 9, rfl, hd, by decide, by decide, fun v d2 h3 h4 hd2 => ?_⟩
  simp only [dflF, kwF, shs, pickG, pickO, consO, Option.map_some, List.take_nil, wMeth, methD, joinD, strsOf_map, wSs_cons, wSs_nil, Later_nil, wS, wE, wT, wI, wX, wVl, wOl, wAv, mk3, mkT, mkI, opd, wIf, wOr, DL.wAnd, DL.wNot, wBool, wTru, wUn, wOp, wFn, wCons, wNil, wVCons, wVNil, wAvNil, wAvVal, wAvBor, wCall2, wC, wVar, wAndV, wOrV, wNotV, wIte, wLst, wTup, wDct, wChn, wSlc, partE, varOp, asOp, entry, content, resO, resOs, frz, wRet, wRetV, wRetN, wNext, wDrop, wSet, wUnp, wPar, wSti, wBrk, wCnt, wMut, muD, wSeq', wFor, wWhile, wLc, wRng1, wRng2, wZip, itemsD, nth, bindTg, bindTgs, noOw, wipeS, restore, wback_val, wback_nil, wback_bor, List.nodup_nil, List.nodup_cons, List.not_mem_nil, bors, resA, pairD, keyD, le_size, List.replicate_succ, List.replicate_zero, List.length_cons, List.length_nil, List.cons_append, List.nil_append, List.getElem?_cons_zero, List.getElem?_cons_succ, List.getElem?_nil, List.set_cons_zero, List.set_cons_succ, Option.isSome_some, List.map_cons, List.map_nil, List.all_cons, List.all_nil, List.any_cons, List.any_nil, Nat.reduceSub, Nat.reduceAdd, Nat.reduceLT, Nat.reduceLeDiff, reduceIte, reduceCtorEq, Bool.not_true, Bool.not_false, Bool.false_eq_true, and_true, true_and, List.drop_zero, List.drop_succ_cons, List.take_succ_cons, List.take_zero, lenD, intD, boolD, strD, listD, tupleD, allD, anyD, blsD, cmpB, cmpD, binD, addD, subD, mulD, fdivD, modD, powD, negD, idxD, slcD, truD, ltD, gtD, leD, geD, eqD_int, eqD_bl, eqD_str, eqD_non, L2.atI, ixN_lit, Int.reduceToNat, Option.bind_some, List.length_map, List.set_cons_zero, List.set_cons_succ, isNon, inD_ss, inStr_one, isiD, seqOf, lstOf, String.reduceNe, String.reduceEq, ne_eq, not_false_eq_true, not_true_eq_false, Bool.or_true, Bool.or_false, Bool.true_or, Bool.false_or, Bool.and_true, Bool.and_false, Bool.true_and, Bool.false_and, isT_NoneType_bool, isT_NoneType_int, isT_NoneType_str, isT_NoneType_list, isT_NoneType_tuple, isT_NoneType_dict, isT_bool_bool, isT_bool_int, isT_bool_str, isT_bool_list, isT_bool_tuple, isT_bool_dict, isT_int_bool, isT_int_int, isT_int_str, isT_int_list, isT_int_tuple, isT_int_dict, isT_str_bool, isT_str_int, isT_str_str, isT_str_list, isT_str_tuple, isT_str_dict, isT_list_bool, isT_list_int, isT_list_str, isT_list_list, isT_list_tuple, isT_list_dict, isT_tuple_bool, isT_tuple_int, isT_tuple_str, isT_tuple_list, isT_tuple_tuple, isT_tuple_dict, isT_dict_bool, isT_dict_int, isT_dict_str, isT_dict_list, isT_dict_tuple, isT_dict_dict, tyN_non, tyN_bl, tyN_int, tyN_str, tyN_lst, tyN_tup, tyN_klst, tyN_dic]
  split
  · exact loop4 sc x2 x6 x7 z1 z2 N' 0 1 d2 hd2 h1 h2 hz1 hz2 (by decide) (by decide) (by decide) (by decide) hN
  · exact loop4 sc x2 x6 x7 z1 z2 N' low high d2 hd2 h1 h2 hz1 hz2 hl1 hl2 hh1 hh2 hN
theorem p_law : ∀ args R, F_law args R → runF [] 1 8 (wSs M_law b_law) args R := by
  rintro args R ⟨ns, rfl, hl, hR⟩
  refine ⟨rfl, ?_⟩
  unfold b_law
  simp only [dflF, kwF, shs, pickG, pickO, consO, Option.map_some, List.take_nil, wMeth, methD, joinD, strsOf_map, wSs_cons, wSs_nil, Later_nil, wS, wE, wT, wI, wX, wVl, wOl, wAv, mk3, mkT, mkI, opd, wIf, wOr, DL.wAnd, DL.wNot, wBool, wTru, wUn, wOp, wFn, wCons, wNil, wVCons, wVNil, wAvNil, wAvVal, wAvBor, wCall2, wC, wVar, wAndV, wOrV, wNotV, wIte, wLst, wTup, wDct, wChn, wSlc, partE, varOp, asOp, entry, content, resO, resOs, frz, wRet, wRetV, wRetN, wNext, wDrop, wSet, wUnp, wPar, wSti, wBrk, wCnt, wMut, muD, wSeq', wFor, wWhile, wLc, wRng1, wRng2, wZip, itemsD, nth, bindTg, bindTgs, noOw, wipeS, restore, wback_val, wback_nil, wback_bor, List.nodup_nil, List.nodup_cons, List.not_mem_nil, bors, resA, pairD, keyD, le_size, List.replicate_succ, List.replicate_zero, List.length_cons, List.length_nil, List.cons_append, List.nil_append, List.getElem?_cons_zero, List.getElem?_cons_succ, List.getElem?_nil, List.set_cons_zero, List.set_cons_succ, Option.isSome_some, List.map_cons, List.map_nil, List.all_cons, List.all_nil, List.any_cons, List.any_nil, Nat.reduceSub, Nat.reduceAdd, Nat.reduceLT, Nat.reduceLeDiff, reduceIte, reduceCtorEq, Bool.not_true, Bool.not_false, Bool.false_eq_true, and_true, true_and, List.drop_zero, List.drop_succ_cons, List.take_succ_cons, List.take_zero, lenD, intD, boolD, strD, listD, tupleD, allD, anyD, blsD, cmpB, cmpD, binD, addD, subD, mulD, fdivD, modD, powD, negD, idxD, slcD, truD, ltD, gtD, leD, geD, eqD_int, eqD_bl, eqD_str, eqD_non, L2.atI, ixN_lit, Int.reduceToNat, Option.bind_some, List.length_map, List.set_cons_zero, List.set_cons_succ, isNon, inD_ss, inStr_one, isiD, seqOf, lstOf, String.reduceNe, String.reduceEq, ne_eq, not_false_eq_true, not_true_eq_false, Bool.or_true, Bool.or_false, Bool.true_or, Bool.false_or, Bool.and_true, Bool.and_false, Bool.true_and, Bool.false_and, isT_NoneType_bool, isT_NoneType_int, isT_NoneType_str, isT_NoneType_list, isT_NoneType_tuple, isT_NoneType_dict, isT_bool_bool, isT_bool_int, isT_bool_str, isT_bool_list, isT_bool_tuple, isT_bool_dict, isT_int_bool, isT_int_int, isT_int_str, isT_int_list, isT_int_tuple, isT_int_dict, isT_str_bool, isT_str_int, isT_str_str, isT_str_list, isT_str_tuple, isT_str_dict, isT_list_bool, isT_list_int, isT_list_str, isT_list_list, isT_list_tuple, isT_list_dict, isT_tuple_bool, isT_tuple_int, isT_tuple_str, isT_tuple_list, isT_tuple_tuple, isT_tuple_dict, isT_dict_bool, isT_dict_int, isT_dict_str, isT_dict_list, isT_dict_tuple, isT_dict_dict, tyN_non, tyN_bl, tyN_int, tyN_str, tyN_lst, tyN_tup, tyN_klst, tyN_dic]
  refine ⟨ns, rfl, hl, fun d o hd => ?_⟩
  simp only [dflF, kwF, shs, pickG, pickO, consO, Option.map_some, List.take_nil, wMeth, methD, joinD, strsOf_map, wSs_cons, wSs_nil, Later_nil, wS, wE, wT, wI, wX, wVl, wOl, wAv, mk3, mkT, mkI, opd, wIf, wOr, DL.wAnd, DL.wNot, wBool, wTru, wUn, wOp, wFn, wCons, wNil, wVCons, wVNil, wAvNil, wAvVal, wAvBor, wCall2, wC, wVar, wAndV, wOrV, wNotV, wIte, wLst, wTup, wDct, wChn, wSlc, partE, varOp, asOp, entry, content, resO, resOs, frz, wRet, wRetV, wRetN, wNext, wDrop, wSet, wUnp, wPar, wSti, wBrk, wCnt, wMut, muD, wSeq', wFor, wWhile, wLc, wRng1, wRng2, wZip, itemsD, nth, bindTg, bindTgs, noOw, wipeS, restore, wback_val, wback_nil, wback_bor, List.nodup_nil, List.nodup_cons, List.not_mem_nil, bors, resA, pairD, keyD, le_size, List.replicate_succ, List.replicate_zero, List.length_cons, List.length_nil, List.cons_append, List.nil_append, List.getElem?_cons_zero, List.getElem?_cons_succ, List.getElem?_nil, List.set_cons_zero, List.set_cons_succ, Option.isSome_some, List.map_cons, List.map_nil, List.all_cons, List.all_nil, List.any_cons, List.any_nil, Nat.reduceSub, Nat.reduceAdd, Nat.reduceLT, Nat.reduceLeDiff, reduceIte, reduceCtorEq, Bool.not_true, Bool.not_false, Bool.false_eq_true, and_true, true_and, List.drop_zero, List.drop_succ_cons, List.take_succ_cons, List.take_zero, lenD, intD, boolD, strD, listD, tupleD, allD, anyD, blsD, cmpB, cmpD, binD, addD, subD, mulD, fdivD, modD, powD, negD, idxD, slcD, truD, ltD, gtD, leD, geD, eqD_int, eqD_bl, eqD_str, eqD_non, L2.atI, ixN_lit, Int.reduceToNat, Option.bind_some, List.length_map, List.set_cons_zero, List.set_cons_succ, isNon, inD_ss, inStr_one, isiD, seqOf, lstOf, String.reduceNe, String.reduceEq, ne_eq, not_false_eq_true, not_true_eq_false, Bool.or_true, Bool.or_false, Bool.true_or, Bool.false_or, Bool.and_true, Bool.and_false, Bool.true_and, Bool.false_and, isT_NoneType_bool, isT_NoneType_int, isT_NoneType_str, isT_NoneType_list, isT_NoneType_tuple, isT_NoneType_dict, isT_bool_bool, isT_bool_int, isT_bool_str, isT_bool_list, isT_bool_tuple, isT_bool_dict, isT_int_bool, isT_int_int, isT_int_str, isT_int_list, isT_int_tuple, isT_int_dict, isT_str_bool, isT_str_int, isT_str_str, isT_str_list, isT_str_tuple, isT_str_dict, isT_list_bool, isT_list_int, isT_list_str, isT_list_list, isT_list_tuple, isT_list_dict, isT_tuple_bool, isT_tuple_int, isT_tuple_str, isT_tuple_list, isT_tuple_tuple, isT_tuple_dict, isT_dict_bool, isT_dict_int, isT_dict_str, isT_dict_list, isT_dict_tuple, isT_dict_dict, tyN_non, tyN_bl, tyN_int, tyN_str, tyN_lst, tyN_tup, tyN_klst, tyN_dic]
  (refine later ?_; simp only [dflF, kwF, shs, pickG, pickO, consO, Option.map_some, List.take_nil, wMeth, methD, joinD, strsOf_map, wSs_cons, wSs_nil, Later_nil, wS, wE, wT, wI, wX, wVl, wOl, wAv, mk3, mkT, mkI, opd, wIf, wOr, DL.wAnd, DL.wNot, wBool, wTru, wUn, wOp, wFn, wCons, wNil, wVCons, wVNil, wAvNil, wAvVal, wAvBor, wCall2, wC, wVar, wAndV, wOrV, wNotV, wIte, wLst, wTup, wDct, wChn, wSlc, partE, varOp, asOp, entry, content, resO, resOs, frz, wRet, wRetV, wRetN, wNext, wDrop, wSet, wUnp, wPar, wSti, wBrk, wCnt, wMut, muD, wSeq', wFor, wWhile, wLc, wRng1, wRng2, wZip, itemsD, nth, bindTg, bindTgs, noOw, wipeS, restore, wback_val, wback_nil, wback_bor, List.nodup_nil, List.nodup_cons, List.not_mem_nil, bors, resA, pairD, keyD, le_size, List.replicate_succ, List.replicate_zero, List.length_cons, List.length_nil, List.cons_append, List.nil_append, List.getElem?_cons_zero, List.getElem?_cons_succ, List.getElem?_nil, List.set_cons_zero, List.set_cons_succ, Option.isSome_some, List.map_cons, List.map_nil, List.all_cons, List.all_nil, List.any_cons, List.any_nil, Nat.reduceSub, Nat.reduceAdd, Nat.reduceLT, Nat.reduceLeDiff, reduceIte, reduceCtorEq, Bool.not_true, Bool.not_false, Bool.false_eq_true, and_true, true_and, List.drop_zero, List.drop_succ_cons, List.take_succ_cons, List.take_zero, lenD, intD, boolD, strD, listD, tupleD, allD, anyD, blsD, cmpB, cmpD, binD, addD, subD, mulD, fdivD, modD, powD, negD, idxD, slcD, truD, ltD, gtD, leD, geD, eqD_int, eqD_bl, eqD_str, eqD_non, L2.atI, ixN_lit, Int.reduceToNat, Option.bind_some, List.length_map, List.set_cons_zero, List.set_cons_succ, isNon, inD_ss, inStr_one, isiD, seqOf, lstOf, String.reduceNe, String.reduceEq, ne_eq, not_false_eq_true, not_true_eq_false, Bool.or_true, Bool.or_false, Bool.true_or, Bool.false_or, Bool.and_true, Bool.and_false, Bool.true_and, Bool.false_and, isT_NoneType_bool, isT_NoneType_int, isT_NoneType_str, isT_NoneType_list, isT_NoneType_tuple, isT_NoneType_dict, isT_bool_bool, isT_bool_int, isT_bool_str, isT_bool_list, isT_bool_tuple, isT_bool_dict, isT_int_bool, isT_int_int, isT_int_str, isT_int_list, isT_int_tuple, isT_int_dict, isT_str_bool, isT_str_int, isT_str_str, isT_str_list, isT_str_tuple, isT_str_dict, isT_list_bool, isT_list_int, isT_list_str, isT_list_list, isT_list_tuple, isT_list_dict, isT_tuple_bool, isT_tuple_int, isT_tuple_str, isT_tuple_list, isT_tuple_tuple, isT_tuple_dict, isT_dict_bool, isT_dict_int, isT_dict_str, isT_dict_list, isT_dict_tuple, isT_dict_dict, tyN_non, tyN_bl, tyN_int, tyN_str, tyN_lst, tyN_tup, tyN_klst, tyN_dic])
  refine ⟨_, rfl, like_flat rfl (by show 3 ≤ 1000000; decide), fun o => ?_⟩
  simp only [dflF, kwF, shs, pickG, pickO, consO, Option.map_some, List.take_nil, wMeth, methD, joinD, strsOf_map, wSs_cons, wSs_nil, Later_nil, wS, wE, wT, wI, wX, wVl, wOl, wAv, mk3, mkT, mkI, opd, wIf, wOr, DL.wAnd, DL.wNot, wBool, wTru, wUn, wOp, wFn, wCons, wNil, wVCons, wVNil, wAvNil, wAvVal, wAvBor, wCall2, wC, wVar, wAndV, wOrV, wNotV, wIte, wLst, wTup, wDct, wChn, wSlc, partE, varOp, asOp, entry, content, resO, resOs, frz, wRet, wRetV, wRetN, wNext, wDrop, wSet, wUnp, wPar, wSti, wBrk, wCnt, wMut, muD, wSeq', wFor, wWhile, wLc, wRng1, wRng2, wZip, itemsD, nth, bindTg, bindTgs, noOw, wipeS, restore, wback_val, wback_nil, wback_bor, List.nodup_nil, List.nodup_cons, List.not_mem_nil, bors, resA, pairD, keyD, le_size, List.replicate_succ, List.replicate_zero, List.length_cons, List.length_nil, List.cons_append, List.nil_append, List.getElem?_cons_zero, List.getElem?_cons_succ, List.getElem?_nil, List.set_cons_zero, List.set_cons_succ, Option.isSome_some, List.map_cons, List.map_nil, List.all_cons, List.all_nil, List.any_cons, List.any_nil, Nat.reduceSub, Nat.reduceAdd, Nat.reduceLT, Nat.reduceLeDiff, reduceIte, reduceCtorEq, Bool.not_true, Bool.not_false, Bool.false_eq_true, and_true, true_and, List.drop_zero, List.drop_succ_cons, List.take_succ_cons, List.take_zero, lenD, intD, boolD, strD, listD, tupleD, allD, anyD, blsD, cmpB, cmpD, binD, addD, subD, mulD, fdivD, modD, powD, negD, idxD, slcD, truD, ltD, gtD, leD, geD, eqD_int, eqD_bl, eqD_str, eqD_non, L2.atI, ixN_lit, Int.reduceToNat, Option.bind_some, List.length_map, List.set_cons_zero, List.set_cons_succ, isNon, inD_ss, inStr_one, isiD, seqOf, lstOf, String.reduceNe, String.reduceEq, ne_eq, not_false_eq_true, not_true_eq_false, Bool.or_true, Bool.or_false, Bool.true_or, Bool.false_or, Bool.and_true, Bool.and_false, Bool.true_and, Bool.false_and, isT_NoneType_bool, isT_NoneType_int, isT_NoneType_str, isT_NoneType_list, isT_NoneType_tuple, isT_NoneType_dict, isT_bool_bool, isT_bool_int, isT_bool_str, isT_bool_list, isT_bool_tuple, isT_bool_dict, isT_int_bool, isT_int_int, isT_int_str, isT_int_list, isT_int_tuple, isT_int_dict, isT_str_bool, isT_str_int, isT_str_str, isT_str_list, isT_str_tuple, isT_str_dict, isT_list_bool, isT_list_int, isT_list_str, isT_list_list, isT_list_tuple, isT_list_dict, isT_tuple_bool, isT_tuple_int, isT_tuple_str, isT_tuple_list, isT_tuple_tuple, isT_tuple_dict, isT_dict_bool, isT_dict_int, isT_dict_str, isT_dict_list, isT_dict_tuple, isT_dict_dict, tyN_non, tyN_bl, tyN_int, tyN_str, tyN_lst, tyN_tup, tyN_klst, tyN_dic]
  (refine later ?_; simp only [dflF, kwF, shs, pickG, pickO, consO, Option.map_some, List.take_nil, wMeth, methD, joinD, strsOf_map, wSs_cons, wSs_nil, Later_nil, wS, wE, wT, wI, wX, wVl, wOl, wAv, mk3, mkT, mkI, opd, wIf, wOr, DL.wAnd, DL.wNot, wBool, wTru, wUn, wOp, wFn, wCons, wNil, wVCons, wVNil, wAvNil, wAvVal, wAvBor, wCall2, wC, wVar, wAndV, wOrV, wNotV, wIte, wLst, wTup, wDct, wChn, wSlc, partE, varOp, asOp, entry, content, resO, resOs, frz, wRet, wRetV, wRetN, wNext, wDrop, wSet, wUnp, wPar, wSti, wBrk, wCnt, wMut, muD, wSeq', wFor, wWhile, wLc, wRng1, wRng2, wZip, itemsD, nth, bindTg, bindTgs, noOw, wipeS, restore, wback_val, wback_nil, wback_bor, List.nodup_nil, List.nodup_cons, List.not_mem_nil, bors, resA, pairD, keyD, le_size, List.replicate_succ, List.replicate_zero, List.length_cons, List.length_nil, List.cons_append, List.nil_append, List.getElem?_cons_zero, List.getElem?_cons_succ, List.getElem?_nil, List.set_cons_zero, List.set_cons_succ, Option.isSome_some, List.map_cons, List.map_nil, List.all_cons, List.all_nil, List.any_cons, List.any_nil, Nat.reduceSub, Nat.reduceAdd, Nat.reduceLT, Nat.reduceLeDiff, reduceIte, reduceCtorEq, Bool.not_true, Bool.not_false, Bool.false_eq_true, and_true, true_and, List.drop_zero, List.drop_succ_cons, List.take_succ_cons, List.take_zero, lenD, intD, boolD, strD, listD, tupleD, allD, anyD, blsD, cmpB, cmpD, binD, addD, subD, mulD, fdivD, modD, powD, negD, idxD, slcD, truD, ltD, gtD, leD, geD, eqD_int, eqD_bl, eqD_str, eqD_non, L2.atI, ixN_lit, Int.reduceToNat, Option.bind_some, List.length_map, List.set_cons_zero, List.set_cons_succ, isNon, inD_ss, inStr_one, isiD, seqOf, lstOf, String.reduceNe, String.reduceEq, ne_eq, not_false_eq_true, not_true_eq_false, Bool.or_true, Bool.or_false, Bool.true_or, Bool.false_or, Bool.and_true, Bool.and_false, Bool.true_and, Bool.false_and, isT_NoneType_bool, isT_NoneType_int, isT_NoneType_str, isT_NoneType_list, isT_NoneType_tuple, isT_NoneType_dict, isT_bool_bool, isT_bool_int, isT_bool_str, isT_bool_list, isT_bool_tuple, isT_bool_dict, isT_int_bool, isT_int_int, isT_int_str, isT_int_list, isT_int_tuple, isT_int_dict, isT_str_bool, isT_str_int, isT_str_str, isT_str_list, isT_str_tuple, isT_str_dict, isT_list_bool, isT_list_int, isT_list_str, isT_list_list, isT_list_tuple, isT_list_dict, isT_tuple_bool, isT_tuple_int, isT_tuple_str, isT_tuple_list, isT_tuple_tuple, isT_tuple_dict, isT_dict_bool, isT_dict_int, isT_dict_str, isT_dict_list, isT_dict_tuple, isT_dict_dict, tyN_non, tyN_bl, tyN_int, tyN_str, tyN_lst, tyN_tup, tyN_klst, tyN_dic])
  refine ⟨⟨by decide, by decide⟩, ?_⟩
  refine forGo_ind (fun ds s => ∃ d' y2 y3 y4 y5 y6 y7, s = [.sh (.klst (ns.map .int)), .ow d', y2, y3, y4, y5, y6, y7] ∧ BagOk d') ?_ ?_ _ _ ⟨d, _, _, _, _, _, _, rfl, hd⟩
  · rintro s ⟨d', y2, y3, y4, y5, y6, y7, rfl, hd'⟩
    (refine later ?_; simp only [dflF, kwF, shs, pickG, pickO, consO, Option.map_some, List.take_nil, wMeth, methD, joinD, strsOf_map, wSs_cons, wSs_nil, Later_nil, wS, wE, wT, wI, wX, wVl, wOl, wAv, mk3, mkT, mkI, opd, wIf, wOr, DL.wAnd, DL.wNot, wBool, wTru, wUn, wOp, wFn, wCons, wNil, wVCons, wVNil, wAvNil, wAvVal, wAvBor, wCall2, wC, wVar, wAndV, wOrV, wNotV, wIte, wLst, wTup, wDct, wChn, wSlc, partE, varOp, asOp, entry, content, resO, resOs, frz, wRet, wRetV, wRetN, wNext, wDrop, wSet, wUnp, wPar, wSti, wBrk, wCnt, wMut, muD, wSeq', wFor, wWhile, wLc, wRng1, wRng2, wZip, itemsD, nth, bindTg, bindTgs, noOw, wipeS, restore, wback_val, wback_nil, wback_bor, List.nodup_nil, List.nodup_cons, List.not_mem_nil, bors, resA, pairD, keyD, le_size, List.replicate_succ, List.replicate_zero, List.length_cons, List.length_nil, List.cons_append, List.nil_append, List.getElem?_cons_zero, List.getElem?_cons_succ, List.getElem?_nil, List.set_cons_zero, List.set_cons_succ, Option.isSome_some, List.map_cons, List.map_nil, List.all_cons, List.all_nil, List.any_cons, List.any_nil, Nat.reduceSub, Nat.reduceAdd, Nat.reduceLT, Nat.reduceLeDiff, reduceIte, reduceCtorEq, Bool.not_true, Bool.not_false, Bool.false_eq_true, and_true, true_and, List.drop_zero, List.drop_succ_cons, List.take_succ_cons, List.take_zero, lenD, intD, boolD, strD, listD, tupleD, allD, anyD, blsD, cmpB, cmpD, binD, addD, subD, mulD, fdivD, modD, powD, negD, idxD, slcD, truD, ltD, gtD, leD, geD, eqD_int, eqD_bl, eqD_str, eqD_non, L2.atI, ixN_lit, Int.reduceToNat, Option.bind_some, List.length_map, List.set_cons_zero, List.set_cons_succ, isNon, inD_ss, inStr_one, isiD, seqOf, lstOf, String.reduceNe, String.reduceEq, ne_eq, not_false_eq_true, not_true_eq_false, Bool.or_true, Bool.or_false, Bool.true_or, Bool.false_or, Bool.and_true, Bool.and_false, Bool.true_and, Bool.false_and, isT_NoneType_bool, isT_NoneType_int, isT_NoneType_str, isT_NoneType_list, isT_NoneType_tuple, isT_NoneType_dict, isT_bool_bool, isT_bool_int, isT_bool_str, isT_bool_list, isT_bool_tuple, isT_bool_dict, isT_int_bool, isT_int_int, isT_int_str, isT_int_list, isT_int_tuple, isT_int_dict, isT_str_bool, isT_str_int, isT_str_str, isT_str_list, isT_str_tuple, isT_str_dict, isT_list_bool, isT_list_int, isT_list_str, isT_list_list, isT_list_tuple, isT_list_dict, isT_tuple_bool, isT_tuple_int, isT_tuple_str, isT_tuple_list, isT_tuple_tuple, isT_tuple_dict, isT_dict_bool, isT_dict_int, isT_dict_str, isT_dict_list, isT_dict_tuple, isT_dict_dict, tyN_non, tyN_bl, tyN_int, tyN_str, tyN_lst, tyN_tup, tyN_klst, tyN_dic])
    exact hR _
  · rintro k ds s ⟨d', y2, y3, y4, y5, y6, y7, rfl, hd'⟩ K hK
    refine ⟨_, rfl, ?_⟩
    simp only [dflF, kwF, shs, pickG, pickO, consO, Option.map_some, List.take_nil, wMeth, methD, joinD, strsOf_map, wSs_cons, wSs_nil, Later_nil, wS, wE, wT, wI, wX, wVl, wOl, wAv, mk3, mkT, mkI, opd, wIf, wOr, DL.wAnd, DL.wNot, wBool, wTru, wUn, wOp, wFn, wCons, wNil, wVCons, wVNil, wAvNil, wAvVal, wAvBor, wCall2, wC, wVar, wAndV, wOrV, wNotV, wIte, wLst, wTup, wDct, wChn, wSlc, partE, varOp, asOp, entry, content, resO, resOs, frz, wRet, wRetV, wRetN, wNext, wDrop, wSet, wUnp, wPar, wSti, wBrk, wCnt, wMut, muD, wSeq', wFor, wWhile, wLc, wRng1, wRng2, wZip, itemsD, nth, bindTg, bindTgs, noOw, wipeS, restore, wback_val, wback_nil, wback_bor, List.nodup_nil, List.nodup_cons, List.not_mem_nil, bors, resA, pairD, keyD, le_size, List.replicate_succ, List.replicate_zero, List.length_cons, List.length_nil, List.cons_append, List.nil_append, List.getElem?_cons_zero, List.getElem?_cons_succ, List.getElem?_nil, List.set_cons_zero, List.set_cons_succ, Option.isSome_some, List.map_cons, List.map_nil, List.all_cons, List.all_nil, List.any_cons, List.any_nil, Nat.reduceSub, Nat.reduceAdd, Nat.reduceLT, Nat.reduceLeDiff, reduceIte, reduceCtorEq, Bool.not_true, Bool.not_false, Bool.false_eq_true, and_true, true_and, List.drop_zero, List.drop_succ_cons, List.take_succ_cons, List.take_zero, lenD, intD, boolD, strD, listD, tupleD, allD, anyD, blsD, cmpB, cmpD, binD, addD, subD, mulD, fdivD, modD, powD, negD, idxD, slcD, truD, ltD, gtD, leD, geD, eqD_int, eqD_bl, eqD_str, eqD_non, L2.atI, ixN_lit, Int.reduceToNat, Option.bind_some, List.length_map, List.set_cons_zero, List.set_cons_succ, isNon, inD_ss, inStr_one, isiD, seqOf, lstOf, String.reduceNe, String.reduceEq, ne_eq, not_false_eq_true, not_true_eq_false, Bool.or_true, Bool.or_false, Bool.true_or, Bool.false_or, Bool.and_true, Bool.and_false, Bool.true_and, Bool.false_and, isT_NoneType_bool, isT_NoneType_int, isT_NoneType_str, isT_NoneType_list, isT_NoneType_tuple, isT_NoneType_dict, isT_bool_bool, isT_bool_int, isT_bool_str, isT_bool_list, isT_bool_tuple, isT_bool_dict, isT_int_bool, isT_int_int, isT_int_str, isT_int_list, isT_int_tuple, isT_int_dict, isT_str_bool, isT_str_int, isT_str_str, isT_str_list, isT_str_tuple, isT_str_dict, isT_list_bool, isT_list_int, isT_list_str, isT_list_list, isT_list_tuple, isT_list_dict, isT_tuple_bool, isT_tuple_int, isT_tuple_str, isT_tuple_list, isT_tuple_tuple, isT_tuple_dict, isT_dict_bool, isT_dict_int, isT_dict_str, isT_dict_list, isT_dict_tuple, isT_dict_dict, tyN_non, tyN_bl, tyN_int, tyN_str, tyN_lst, tyN_tup, tyN_klst, tyN_dic]
    refine ⟨d', rfl, hd', fun z1 d2 hz1 hs1 hd2 => ?_⟩
    simp only [dflF, kwF, shs, pickG, pickO, consO, Option.map_some, List.take_nil, wMeth, methD, joinD, strsOf_map, wSs_cons, wSs_nil, Later_nil, wS, wE, wT, wI, wX, wVl, wOl, wAv, mk3, mkT, mkI, opd, wIf, wOr, DL.wAnd, DL.wNot, wBool, wTru, wUn, wOp, wFn, wCons, wNil, wVCons, wVNil, wAvNil, wAvVal, wAvBor, wCall2, wC, wVar, wAndV, wOrV, wNotV, wIte, wLst, wTup, wDct, wChn, wSlc, partE, varOp, asOp, entry, content, resO, resOs, frz, wRet, wRetV, wRetN, wNext, wDrop, wSet, wUnp, wPar, wSti, wBrk, wCnt, wMut, muD, wSeq', wFor, wWhile, wLc, wRng1, wRng2, wZip, itemsD, nth, bindTg, bindTgs, noOw, wipeS, restore, wback_val, wback_nil, wback_bor, List.nodup_nil, List.nodup_cons, List.not_mem_nil, bors, resA, pairD, keyD, le_size, List.replicate_succ, List.replicate_zero, List.length_cons, List.length_nil, List.cons_append, List.nil_append, List.getElem?_cons_zero, List.getElem?_cons_succ, List.getElem?_nil, List.set_cons_zero, List.set_cons_succ, Option.isSome_some, List.map_cons, List.map_nil, List.all_cons, List.all_nil, List.any_cons, List.any_nil, Nat.reduceSub, Nat.reduceAdd, Nat.reduceLT, Nat.reduceLeDiff, reduceIte, reduceCtorEq, Bool.not_true, Bool.not_false, Bool.false_eq_true, and_true, true_and, List.drop_zero, List.drop_succ_cons, List.take_succ_cons, List.take_zero, lenD, intD, boolD, strD, listD, tupleD, allD, anyD, blsD, cmpB, cmpD, binD, addD, subD, mulD, fdivD, modD, powD, negD, idxD, slcD, truD, ltD, gtD, leD, geD, eqD_int, eqD_bl, eqD_str, eqD_non, L2.atI, ixN_lit, Int.reduceToNat, Option.bind_some, List.length_map, List.set_cons_zero, List.set_cons_succ, isNon, inD_ss, inStr_one, isiD, seqOf, lstOf, String.reduceNe, String.reduceEq, ne_eq, not_false_eq_true, not_true_eq_false, Bool.or_true, Bool.or_false, Bool.true_or, Bool.false_or, Bool.and_true, Bool.and_false, Bool.true_and, Bool.false_and, isT_NoneType_bool, isT_NoneType_int, isT_NoneType_str, isT_NoneType_list, isT_NoneType_tuple, isT_NoneType_dict, isT_bool_bool, isT_bool_int, isT_bool_str, isT_bool_list, isT_bool_tuple, isT_bool_dict, isT_int_bool, isT_int_int, isT_int_str, isT_int_list, isT_int_tuple, isT_int_dict, isT_str_bool, isT_str_int, isT_str_str, isT_str_list, isT_str_tuple, isT_str_dict, isT_list_bool, isT_list_int, isT_list_str, isT_list_list, isT_list_tuple, isT_list_dict, isT_tuple_bool, isT_tuple_int, isT_tuple_str, isT_tuple_list, isT_tuple_tuple, isT_tuple_dict, isT_dict_bool, isT_dict_int, isT_dict_str, isT_dict_list, isT_dict_tuple, isT_dict_dict, tyN_non, tyN_bl, tyN_int, tyN_str, tyN_lst, tyN_tup, tyN_klst, tyN_dic]
    refine ⟨d2, rfl, hd2, fun z2 d3 hz2 hs2 hd3 => ?_⟩
    simp only [dflF, kwF, shs, pickG, pickO, consO, Option.map_some, List.take_nil, wMeth, methD, joinD, strsOf_map, wSs_cons, wSs_nil, Later_nil, wS, wE, wT, wI, wX, wVl, wOl, wAv, mk3, mkT, mkI, opd, wIf, wOr, DL.wAnd, DL.wNot, wBool, wTru, wUn, wOp, wFn, wCons, wNil, wVCons, wVNil, wAvNil, wAvVal, wAvBor, wCall2, wC, wVar, wAndV, wOrV, wNotV, wIte, wLst, wTup, wDct, wChn, wSlc, partE, varOp, asOp, entry, content, resO, resOs, frz, wRet, wRetV, wRetN, wNext, wDrop, wSet, wUnp, wPar, wSti, wBrk, wCnt, wMut, muD, wSeq', wFor, wWhile, wLc, wRng1, wRng2, wZip, itemsD, nth, bindTg, bindTgs, noOw, wipeS, restore, wback_val, wback_nil, wback_bor, List.nodup_nil, List.nodup_cons, List.not_mem_nil, bors, resA, pairD, keyD, le_size, List.replicate_succ, List.replicate_zero, List.length_cons, List.length_nil, List.cons_append, List.nil_append, List.getElem?_cons_zero, List.getElem?_cons_succ, List.getElem?_nil, List.set_cons_zero, List.set_cons_succ, Option.isSome_some, List.map_cons, List.map_nil, List.all_cons, List.all_nil, List.any_cons, List.any_nil, Nat.reduceSub, Nat.reduceAdd, Nat.reduceLT, Nat.reduceLeDiff, reduceIte, reduceCtorEq, Bool.not_true, Bool.not_false, Bool.false_eq_true, and_true, true_and, List.drop_zero, List.drop_succ_cons, List.take_succ_cons, List.take_zero, lenD, intD, boolD, strD, listD, tupleD, allD, anyD, blsD, cmpB, cmpD, binD, addD, subD, mulD, fdivD, modD, powD, negD, idxD, slcD, truD, ltD, gtD, leD, geD, eqD_int, eqD_bl, eqD_str, eqD_non, L2.atI, ixN_lit, Int.reduceToNat, Option.bind_some, List.length_map, List.set_cons_zero, List.set_cons_succ, isNon, inD_ss, inStr_one, isiD, seqOf, lstOf, String.reduceNe, String.reduceEq, ne_eq, not_false_eq_true, not_true_eq_false, Bool.or_true, Bool.or_false, Bool.true_or, Bool.false_or, Bool.and_true, Bool.and_false, Bool.true_and, Bool.false_and, isT_NoneType_bool, isT_NoneType_int, isT_NoneType_str, isT_NoneType_list, isT_NoneType_tuple, isT_NoneType_dict, isT_bool_bool, isT_bool_int, isT_bool_str, isT_bool_list, isT_bool_tuple, isT_bool_dict, isT_int_bool, isT_int_int, isT_int_str, isT_int_list, isT_int_tuple, isT_int_dict, isT_str_bool, isT_str_int, isT_str_str, isT_str_list, isT_str_tuple, isT_str_dict, isT_list_bool, isT_list_int, isT_list_str, isT_list_list, isT_list_tuple, isT_list_dict, isT_tuple_bool, isT_tuple_int, isT_tuple_str, isT_tuple_list, isT_tuple_tuple, isT_tuple_dict, isT_dict_bool, isT_dict_int, isT_dict_str, isT_dict_list, isT_dict_tuple, isT_dict_dict, tyN_non, tyN_bl, tyN_int, tyN_str, tyN_lst, tyN_tup, tyN_klst, tyN_dic]
    (refine later ?_; simp only [dflF, kwF, shs, pickG, pickO, consO, Option.map_some, List.take_nil, wMeth, methD, joinD, strsOf_map, wSs_cons, wSs_nil, Later_nil, wS, wE, wT, wI, wX, wVl, wOl, wAv, mk3, mkT, mkI, opd, wIf, wOr, DL.wAnd, DL.wNot, wBool, wTru, wUn, wOp, wFn, wCons, wNil, wVCons, wVNil, wAvNil, wAvVal, wAvBor, wCall2, wC, wVar, wAndV, wOrV, wNotV, wIte, wLst, wTup, wDct, wChn, wSlc, partE, varOp, asOp, entry, content, resO, resOs, frz, wRet, wRetV, wRetN, wNext, wDrop, wSet, wUnp, wPar, wSti, wBrk, wCnt, wMut, muD, wSeq', wFor, wWhile, wLc, wRng1, wRng2, wZip, itemsD, nth, bindTg, bindTgs, noOw, wipeS, restore, wback_val, wback_nil, wback_bor, List.nodup_nil, List.nodup_cons, List.not_mem_nil, bors, resA, pairD, keyD, le_size, List.replicate_succ, List.replicate_zero, List.length_cons, List.length_nil, List.cons_append, List.nil_append, List.getElem?_cons_zero, List.getElem?_cons_succ, List.getElem?_nil, List.set_cons_zero, List.set_cons_succ, Option.isSome_some, List.map_cons, List.map_nil, List.all_cons, List.all_nil, List.any_cons, List.any_nil, Nat.reduceSub, Nat.reduceAdd, Nat.reduceLT, Nat.reduceLeDiff, reduceIte, reduceCtorEq, Bool.not_true, Bool.not_false, Bool.false_eq_true, and_true, true_and, List.drop_zero, List.drop_succ_cons, List.take_succ_cons, List.take_zero, lenD, intD, boolD, strD, listD, tupleD, allD, anyD, blsD, cmpB, cmpD, binD, addD, subD, mulD, fdivD, modD, powD, negD, idxD, slcD, truD, ltD, gtD, leD, geD, eqD_int, eqD_bl, eqD_str, eqD_non, L2.atI, ixN_lit, Int.reduceToNat, Option.bind_some, List.length_map, List.set_cons_zero, List.set_cons_succ, isNon, inD_ss, inStr_one, isiD, seqOf, lstOf, String.reduceNe, String.reduceEq, ne_eq, not_false_eq_true, not_true_eq_false, Bool.or_true, Bool.or_false, Bool.true_or, Bool.false_or, Bool.and_true, Bool.and_false, Bool.true_and, Bool.false_and, isT_NoneType_bool, isT_NoneType_int, isT_NoneType_str, isT_NoneType_list, isT_NoneType_tuple, isT_NoneType_dict, isT_bool_bool, isT_bool_int, isT_bool_str, isT_bool_list, isT_bool_tuple, isT_bool_dict, isT_int_bool, isT_int_int, isT_int_str, isT_int_list, isT_int_tuple, isT_int_dict, isT_str_bool, isT_str_int, isT_str_str, isT_str_list, isT_str_tuple, isT_str_dict, isT_list_bool, isT_list_int, isT_list_str, isT_list_list, isT_list_tuple, isT_list_dict, isT_tuple_bool, isT_tuple_int, isT_tuple_str, isT_tuple_list, isT_tuple_tuple, isT_tuple_dict, isT_dict_bool, isT_dict_int, isT_dict_str, isT_dict_list, isT_dict_tuple, isT_dict_dict, tyN_non, tyN_bl, tyN_int, tyN_str, tyN_lst, tyN_tup, tyN_klst, tyN_dic])
    refine ⟨d3, rfl, hd3, fun low d4 hl1 hl2 hd4 => ?_⟩
    simp only [dflF, kwF, shs, pickG, pickO, consO, Option.map_some, List.take_nil, wMeth, methD, joinD, strsOf_map, wSs_cons, wSs_nil, Later_nil, wS, wE, wT, wI, wX, wVl, wOl, wAv, mk3, mkT, mkI, opd, wIf, wOr, DL.wAnd, DL.wNot, wBool, wTru, wUn, wOp, wFn, wCons, wNil, wVCons, wVNil, wAvNil, wAvVal, wAvBor, wCall2, wC, wVar, wAndV, wOrV, wNotV, wIte, wLst, wTup, wDct, wChn, wSlc, partE, varOp, asOp, entry, content, resO, resOs, frz, wRet, wRetV, wRetN, wNext, wDrop, wSet, wUnp, wPar, wSti, wBrk, wCnt, wMut, muD, wSeq', wFor, wWhile, wLc, wRng1, wRng2, wZip, itemsD, nth, bindTg, bindTgs, noOw, wipeS, restore, wback_val, wback_nil, wback_bor, List.nodup_nil, List.nodup_cons, List.not_mem_nil, bors, resA, pairD, keyD, le_size, List.replicate_succ, List.replicate_zero, List.length_cons, List.length_nil, List.cons_append, List.nil_append, List.getElem?_cons_zero, List.getElem?_cons_succ, List.getElem?_nil, List.set_cons_zero, List.set_cons_succ, Option.isSome_some, List.map_cons, List.map_nil, List.all_cons, List.all_nil, List.any_cons, List.any_nil, Nat.reduceSub, Nat.reduceAdd, Nat.reduceLT, Nat.reduceLeDiff, reduceIte, reduceCtorEq, Bool.not_true, Bool.not_false, Bool.false_eq_true, and_true, true_and, List.drop_zero, List.drop_succ_cons, List.take_succ_cons, List.take_zero, lenD, intD, boolD, strD, listD, tupleD, allD, anyD, blsD, cmpB, cmpD, binD, addD, subD, mulD, fdivD, modD, powD, negD, idxD, slcD, truD, ltD, gtD, leD, geD, eqD_int, eqD_bl, eqD_str, eqD_non, L2.atI, ixN_lit, Int.reduceToNat, Option.bind_some, List.length_map, List.set_cons_zero, List.set_cons_succ, isNon, inD_ss, inStr_one, isiD, seqOf, lstOf, String.reduceNe, String.reduceEq, ne_eq, not_false_eq_true, not_true_eq_false, Bool.or_true, Bool.or_false, Bool.true_or, Bool.false_or, Bool.and_true, Bool.and_false, Bool.true_and, Bool.false_and, isT_NoneType_bool, isT_NoneType_int, isT_NoneType_str, isT_NoneType_list, isT_NoneType_tuple, isT_NoneType_dict, isT_bool_bool, isT_bool_int, isT_bool_str, isT_bool_list, isT_bool_tuple, isT_bool_dict, isT_int_bool, isT_int_int, isT_int_str, isT_int_list, isT_int_tuple, isT_int_dict, isT_str_bool, isT_str_int, isT_str_str, isT_str_list, isT_str_tuple, isT_str_dict, isT_list_bool, isT_list_int, isT_list_str, isT_list_list, isT_list_tuple, isT_list_dict, isT_tuple_bool, isT_tuple_int, isT_tuple_str, isT_tuple_list, isT_tuple_tuple, isT_tuple_dict, isT_dict_bool, isT_dict_int, isT_dict_str, isT_dict_list, isT_dict_tuple, isT_dict_dict, tyN_non, tyN_bl, tyN_int, tyN_str, tyN_lst, tyN_tup, tyN_klst, tyN_dic]
    (refine later ?_; simp only [dflF, kwF, shs, pickG, pickO, consO, Option.map_some, List.take_nil, wMeth, methD, joinD, strsOf_map, wSs_cons, wSs_nil, Later_nil, wS, wE, wT, wI, wX, wVl, wOl, wAv, mk3, mkT, mkI, opd, wIf, wOr, DL.wAnd, DL.wNot, wBool, wTru, wUn, wOp, wFn, wCons, wNil, wVCons, wVNil, wAvNil, wAvVal, wAvBor, wCall2, wC, wVar, wAndV, wOrV, wNotV, wIte, wLst, wTup, wDct, wChn, wSlc, partE, varOp, asOp, entry, content, resO, resOs, frz, wRet, wRetV, wRetN, wNext, wDrop, wSet, wUnp, wPar, wSti, wBrk, wCnt, wMut, muD, wSeq', wFor, wWhile, wLc, wRng1, wRng2, wZip, itemsD, nth, bindTg, bindTgs, noOw, wipeS, restore, wback_val, wback_nil, wback_bor, List.nodup_nil, List.nodup_cons, List.not_mem_nil, bors, resA, pairD, keyD, le_size, List.replicate_succ, List.replicate_zero, List.length_cons, List.length_nil, List.cons_append, List.nil_append, List.getElem?_cons_zero, List.getElem?_cons_succ, List.getElem?_nil, List.set_cons_zero, List.set_cons_succ, Option.isSome_some, List.map_cons, List.map_nil, List.all_cons, List.all_nil, List.any_cons, List.any_nil, Nat.reduceSub, Nat.reduceAdd, Nat.reduceLT, Nat.reduceLeDiff, reduceIte, reduceCtorEq, Bool.not_true, Bool.not_false, Bool.false_eq_true, and_true, true_and, List.drop_zero, List.drop_succ_cons, List.take_succ_cons, List.take_zero, lenD, intD, boolD, strD, listD, tupleD, allD, anyD, blsD, cmpB, cmpD, binD, addD, subD, mulD, fdivD, modD, powD, negD, idxD, slcD, truD, ltD, gtD, leD, geD, eqD_int, eqD_bl, eqD_str, eqD_non, L2.atI, ixN_lit, Int.reduceToNat, Option.bind_some, List.length_map, List.set_cons_zero, List.set_cons_succ, isNon, inD_ss, inStr_one, isiD, seqOf, lstOf, String.reduceNe, String.reduceEq, ne_eq, not_false_eq_true, not_true_eq_false, Bool.or_true, Bool.or_false, Bool.true_or, Bool.false_or, Bool.and_true, Bool.and_false, Bool.true_and, Bool.false_and, isT_NoneType_bool, isT_NoneType_int, isT_NoneType_str, isT_NoneType_list, isT_NoneType_tuple, isT_NoneType_dict, isT_bool_bool, isT_bool_int, isT_bool_str, isT_bool_list, isT_bool_tuple, isT_bool_dict, isT_int_bool, isT_int_int, isT_int_str, isT_int_list, isT_int_tuple, isT_int_dict, isT_str_bool, isT_str_int, isT_str_str, isT_str_list, isT_str_tuple, isT_str_dict, isT_list_bool, isT_list_int, isT_list_str, isT_list_list, isT_list_tuple, isT_list_dict, isT_tuple_bool, isT_tuple_int, isT_tuple_str, isT_tuple_list, isT_tuple_tuple, isT_tuple_dict, isT_dict_bool, isT_dict_int, isT_dict_str, isT_dict_list, isT_dict_tuple, isT_dict_dict, tyN_non, tyN_bl, tyN_int, tyN_str, tyN_lst, tyN_tup, tyN_klst, tyN_dic])
    refine ⟨d4, 4, rfl, hd4, by decide, by decide, fun v d5 h3 h4 hd5 => ?_⟩
    simp only [dflF, kwF, shs, pickG, pickO, consO, Option.map_some, List.take_nil, wMeth, methD, joinD, strsOf_map, wSs_cons, wSs_nil, Later_nil, wS, wE, wT, wI, wX, wVl, wOl, wAv, mk3, mkT, mkI, opd, wIf, wOr, DL.wAnd, DL.wNot, wBool, wTru, wUn, wOp, wFn, wCons, wNil, wVCons, wVNil, wAvNil, wAvVal, wAvBor, wCall2, wC, wVar, wAndV, wOrV, wNotV, wIte, wLst, wTup, wDct, wChn, wSlc, partE, varOp, asOp, entry, content, resO, resOs, frz, wRet, wRetV, wRetN, wNext, wDrop, wSet, wUnp, wPar, wSti, wBrk, wCnt, wMut, muD, wSeq', wFor, wWhile, wLc, wRng1, wRng2, wZip, itemsD, nth, bindTg, bindTgs, noOw, wipeS, restore, wback_val, wback_nil, wback_bor, List.nodup_nil, List.nodup_cons, List.not_mem_nil, bors, resA, pairD, keyD, le_size, List.replicate_succ, List.replicate_zero, List.length_cons, List.length_nil, List.cons_append, List.nil_append, List.getElem?_cons_zero, List.getElem?_cons_succ, List.getElem?_nil, List.set_cons_zero, List.set_cons_succ, Option.isSome_some, List.map_cons, List.map_nil, List.all_cons, List.all_nil, List.any_cons, List.any_nil, Nat.reduceSub, Nat.reduceAdd, Nat.reduceLT, Nat.reduceLeDiff, reduceIte, reduceCtorEq, Bool.not_true, Bool.not_false, Bool.false_eq_true, and_true, true_and, List.drop_zero, List.drop_succ_cons, List.take_succ_cons, List.take_zero, lenD, intD, boolD, strD, listD, tupleD, allD, anyD, blsD, cmpB, cmpD, binD, addD, subD, mulD, fdivD, modD, powD, negD, idxD, slcD, truD, ltD, gtD, leD, geD, eqD_int, eqD_bl, eqD_str, eqD_non, L2.atI, ixN_lit, Int.reduceToNat, Option.bind_some, List.length_map, List.set_cons_zero, List.set_cons_succ, isNon, inD_ss, inStr_one, isiD, seqOf, lstOf, String.reduceNe, String.reduceEq, ne_eq, not_false_eq_true, not_true_eq_false, Bool.or_true, Bool.or_false, Bool.true_or, Bool.false_or, Bool.and_true, Bool.and_false, Bool.true_and, Bool.false_and, isT_NoneType_bool, isT_NoneType_int, isT_NoneType_str, isT_NoneType_list, isT_NoneType_tuple, isT_NoneType_dict, isT_bool_bool, isT_bool_int, isT_bool_str, isT_bool_list, isT_bool_tuple, isT_bool_dict, isT_int_bool, isT_int_int, isT_int_str, isT_int_list, isT_int_tuple, isT_int_dict, isT_str_bool, isT_str_int, isT_str_str, isT_str_list, isT_str_tuple, isT_str_dict, isT_list_bool, isT_list_int, isT_list_str, isT_list_list, isT_list_tuple, isT_list_dict, isT_tuple_bool, isT_tuple_int, isT_tuple_str, isT_tuple_list, isT_tuple_tuple, isT_tuple_dict, isT_dict_bool, isT_dict_int, isT_dict_str, isT_dict_list, isT_dict_tuple, isT_dict_dict, tyN_non, tyN_bl, tyN_int, tyN_str, tyN_lst, tyN_tup, tyN_klst, tyN_dic]
    split
    · refine ⟨d5, _, _, rfl, hd5, rfl, by decide, by decide, fun x d6 hx hd6 => ?_⟩
      obtain ⟨n, rfl, hn1, hn2⟩ := pos_all hx (by decide +kernel)
      have hn3 : n ≤ 1000 := by
        simp only [List.mem_cons, List.not_mem_nil, or_false, D.int.injEq] at hx
        omega
      simp only [dflF, kwF, shs, pickG, pickO, consO, Option.map_some, List.take_nil, wMeth, methD, joinD, strsOf_map, wSs_cons, wSs_nil, Later_nil, wS, wE, wT, wI, wX, wVl, wOl, wAv, mk3, mkT, mkI, opd, wIf, wOr, DL.wAnd, DL.wNot, wBool, wTru, wUn, wOp, wFn, wCons, wNil, wVCons, wVNil, wAvNil, wAvVal, wAvBor, wCall2, wC, wVar, wAndV, wOrV, wNotV, wIte, wLst, wTup, wDct, wChn, wSlc, partE, varOp, asOp, entry, content, resO, resOs, frz, wRet, wRetV, wRetN, wNext, wDrop, wSet, wUnp, wPar, wSti, wBrk, wCnt, wMut, muD, wSeq', wFor, wWhile, wLc, wRng1, wRng2, wZip, itemsD, nth, bindTg, bindTgs, noOw, wipeS, restore, wback_val, wback_nil, wback_bor, List.nodup_nil, List.nodup_cons, List.not_mem_nil, bors, resA, pairD, keyD, le_size, List.replicate_succ, List.replicate_zero, List.length_cons, List.length_nil, List.cons_append, List.nil_append, List.getElem?_cons_zero, List.getElem?_cons_succ, List.getElem?_nil, List.set_cons_zero, List.set_cons_succ, Option.isSome_some, List.map_cons, List.map_nil, List.all_cons, List.all_nil, List.any_cons, List.any_nil, Nat.reduceSub, Nat.reduceAdd, Nat.reduceLT, Nat.reduceLeDiff, reduceIte, reduceCtorEq, Bool.not_true, Bool.not_false, Bool.false_eq_true, and_true, true_and, List.drop_zero, List.drop_succ_cons, List.take_succ_cons, List.take_zero, lenD, intD, boolD, strD, listD, tupleD, allD, anyD, blsD, cmpB, cmpD, binD, addD, subD, mulD, fdivD, modD, powD, negD, idxD, slcD, truD, ltD, gtD, leD, geD, eqD_int, eqD_bl, eqD_str, eqD_non, L2.atI, ixN_lit, Int.reduceToNat, Option.bind_some, List.length_map, List.set_cons_zero, List.set_cons_succ, isNon, inD_ss, inStr_one, isiD, seqOf, lstOf, String.reduceNe, String.reduceEq, ne_eq, not_false_eq_true, not_true_eq_false, Bool.or_true, Bool.or_false, Bool.true_or, Bool.false_or, Bool.and_true, Bool.and_false, Bool.true_and, Bool.false_and, isT_NoneType_bool, isT_NoneType_int, isT_NoneType_str, isT_NoneType_list, isT_NoneType_tuple, isT_NoneType_dict, isT_bool_bool, isT_bool_int, isT_bool_str, isT_bool_list, isT_bool_tuple, isT_bool_dict, isT_int_bool, isT_int_int, isT_int_str, isT_int_list, isT_int_tuple, isT_int_dict, isT_str_bool, isT_str_int, isT_str_str, isT_str_list, isT_str_tuple, isT_str_dict, isT_list_bool, isT_list_int, isT_list_str, isT_list_list, isT_list_tuple, isT_list_dict, isT_tuple_bool, isT_tuple_int, isT_tuple_str, isT_tuple_list, isT_tuple_tuple, isT_tuple_dict, isT_dict_bool, isT_dict_int, isT_dict_str, isT_dict_list, isT_dict_tuple, isT_dict_dict, tyN_non, tyN_bl, tyN_int, tyN_str, tyN_lst, tyN_tup, tyN_klst, tyN_dic]
      refine ⟨d6, n, rfl, hd6, hn1, by omega, fun w d7 h5 h6 hd7 => ?_⟩
      simp only [dflF, kwF, shs, pickG, pickO, consO, Option.map_some, List.take_nil, wMeth, methD, joinD, strsOf_map, wSs_cons, wSs_nil, Later_nil, wS, wE, wT, wI, wX, wVl, wOl, wAv, mk3, mkT, mkI, opd, wIf, wOr, DL.wAnd, DL.wNot, wBool, wTru, wUn, wOp, wFn, wCons, wNil, wVCons, wVNil, wAvNil, wAvVal, wAvBor, wCall2, wC, wVar, wAndV, wOrV, wNotV, wIte, wLst, wTup, wDct, wChn, wSlc, partE, varOp, asOp, entry, content, resO, resOs, frz, wRet, wRetV, wRetN, wNext, wDrop, wSet, wUnp, wPar, wSti, wBrk, wCnt, wMut, muD, wSeq', wFor, wWhile, wLc, wRng1, wRng2, wZip, itemsD, nth, bindTg, bindTgs, noOw, wipeS, restore, wback_val, wback_nil, wback_bor, List.nodup_nil, List.nodup_cons, List.not_mem_nil, bors, resA, pairD, keyD, le_size, List.replicate_succ, List.replicate_zero, List.length_cons, List.length_nil, List.cons_append, List.nil_append, List.getElem?_cons_zero, List.getElem?_cons_succ, List.getElem?_nil, List.set_cons_zero, List.set_cons_succ, Option.isSome_some, List.map_cons, List.map_nil, List.all_cons, List.all_nil, List.any_cons, List.any_nil, Nat.reduceSub, Nat.reduceAdd, Nat.reduceLT, Nat.reduceLeDiff, reduceIte, reduceCtorEq, Bool.not_true, Bool.not_false, Bool.false_eq_true, and_true, true_and, List.drop_zero, List.drop_succ_cons, List.take_succ_cons, List.take_zero, lenD, intD, boolD, strD, listD, tupleD, allD, anyD, blsD, cmpB, cmpD, binD, addD, subD, mulD, fdivD, modD, powD, negD, idxD, slcD, truD, ltD, gtD, leD, geD, eqD_int, eqD_bl, eqD_str, eqD_non, L2.atI, ixN_lit, Int.reduceToNat, Option.bind_some, List.length_map, List.set_cons_zero, List.set_cons_succ, isNon, inD_ss, inStr_one, isiD, seqOf, lstOf, String.reduceNe, String.reduceEq, ne_eq, not_false_eq_true, not_true_eq_false, Bool.or_true, Bool.or_false, Bool.true_or, Bool.false_or, Bool.and_true, Bool.and_false, Bool.true_and, Bool.false_and, isT_NoneType_bool, isT_NoneType_int, isT_NoneType_str, isT_NoneType_list, isT_NoneType_tuple, isT_NoneType_dict, isT_bool_bool, isT_bool_int, isT_bool_str, isT_bool_list, isT_bool_tuple, isT_bool_dict, isT_int_bool, isT_int_int, isT_int_str, isT_int_list, isT_int_tuple, isT_int_dict, isT_str_bool, isT_str_int, isT_str_str, isT_str_list, isT_str_tuple, isT_str_dict, isT_list_bool, isT_list_int, isT_list_str, isT_list_list, isT_list_tuple, isT_list_dict, isT_tuple_bool, isT_tuple_int, isT_tuple_str, isT_tuple_list, isT_tuple_tuple, isT_tuple_dict, isT_dict_bool, isT_dict_int, isT_dict_str, isT_dict_list, isT_dict_tuple, isT_dict_dict, tyN_non, tyN_bl, tyN_int, tyN_str, tyN_lst, tyN_tup, tyN_klst, tyN_dic]
      exact loop3 _ _ (.sh .non) _ _ z1 z2 _ low (low + w) d7 hd7 hs1 hs2 hz1 hz2 hl1 hl2 (by omega) (by omega) fun d' y2 y3 y4 y5 y6 y7 hb => hK _ ⟨d', _, _, _, _, _, _, rfl, hb⟩
    · refine ⟨d5, rfl, hd5, fun high d6 hh1 hh2 hd6 => ?_⟩
      simp only [dflF, kwF, shs, pickG, pickO, consO, Option.map_some, List.take_nil, wMeth, methD, joinD, strsOf_map, wSs_cons, wSs_nil, Later_nil, wS, wE, wT, wI, wX, wVl, wOl, wAv, mk3, mkT, mkI, opd, wIf, wOr, DL.wAnd, DL.wNot, wBool, wTru, wUn, wOp, wFn, wCons, wNil, wVCons, wVNil, wAvNil, wAvVal, wAvBor, wCall2, wC, wVar, wAndV, wOrV, wNotV, wIte, wLst, wTup, wDct, wChn, wSlc, partE, varOp, asOp, entry, content, resO, resOs, frz, wRet, wRetV, wRetN, wNext, wDrop, wSet, wUnp, wPar, wSti, wBrk, wCnt, wMut, muD, wSeq', wFor, wWhile, wLc, wRng1, wRng2, wZip, itemsD, nth, bindTg, bindTgs, noOw, wipeS, restore, wback_val, wback_nil, wback_bor, List.nodup_nil, List.nodup_cons, List.not_mem_nil, bors, resA, pairD, keyD, le_size, List.replicate_succ, List.replicate_zero, List.length_cons, List.length_nil, List.cons_append, List.nil_append, List.getElem?_cons_zero, List.getElem?_cons_succ, List.getElem?_nil, List.set_cons_zero, List.set_cons_succ, Option.isSome_some, List.map_cons, List.map_nil, List.all_cons, List.all_nil, List.any_cons, List.any_nil, Nat.reduceSub, Nat.reduceAdd, Nat.reduceLT, Nat.reduceLeDiff, reduceIte, reduceCtorEq, Bool.not_true, Bool.not_false, Bool.false_eq_true, and_true, true_and, List.drop_zero, List.drop_succ_cons, List.take_succ_cons, List.take_zero, lenD, intD, boolD, strD, listD, tupleD, allD, anyD, blsD, cmpB, cmpD, binD, addD, subD, mulD, fdivD, modD, powD, negD, idxD, slcD, truD, ltD, gtD, leD, geD, eqD_int, eqD_bl, eqD_str, eqD_non, L2.atI, ixN_lit, Int.reduceToNat, Option.bind_some, List.length_map, List.set_cons_zero, List.set_cons_succ, isNon, inD_ss, inStr_one, isiD, seqOf, lstOf, String.reduceNe, String.reduceEq, ne_eq, not_false_eq_true, not_true_eq_false, Bool.or_true, Bool.or_false, Bool.true_or, Bool.false_or, Bool.and_true, Bool.and_false, Bool.true_and, Bool.false_and, isT_NoneType_bool, isT_NoneType_int, isT_NoneType_str, isT_NoneType_list, isT_NoneType_tuple, isT_NoneType_dict, isT_bool_bool, isT_bool_int, isT_bool_str, isT_bool_list, isT_bool_tuple, isT_bool_dict, isT_int_bool, isT_int_int, isT_int_str, isT_int_list, isT_int_tuple, isT_int_dict, isT_str_bool, isT_str_int, isT_str_str, isT_str_list, isT_str_tuple, isT_str_dict, isT_list_bool, isT_list_int, isT_list_str, isT_list_list, isT_list_tuple, isT_list_dict, isT_tuple_bool, isT_tuple_int, isT_tuple_str, isT_tuple_list, isT_tuple_tuple, isT_tuple_dict, isT_dict_bool, isT_dict_int, isT_dict_str, isT_dict_list, isT_dict_tuple, isT_dict_dict, tyN_non, tyN_bl, tyN_int, tyN_str, tyN_lst, tyN_tup, tyN_klst, tyN_dic]
      exact loop3 _ _ (.sh .non) _ _ z1 z2 _ low high d6 hd6 hs1 hs2 hz1 hz2 hl1 hl2 (by omega) (by omega) fun d' y2 y3 y4 y5 y6 y7 hb => hK _ ⟨d', _, _, _, _, _, _, rfl, hb⟩
theorem ok_law {P : Program} {w : World} {K : PySem.W.Frag} {mg : Str → Option Value} {base : Heap} (V : VE K mg) : ∃ fd, FunD K "law" "law" (defArgs (top 21)) (defBody (top 21)) (defScope (top 21)) [] [] (He.ga K "law") fd ∧ FnOk P w K mg base CX0 4 (He.ga K "law") fd ["_law_script"] (spOf K F_law) := by
  obtain ⟨fd, Fd⟩ := V.def_ 14 (d := dd "law" 21 []) rfl
  exact ⟨fd, Fd, fn_ok Fd (d_law 3) (mkTab (.cons (cj__law_bag_1 V (by first | decide | omega)) (.cons (cj__law_like_2 V (by first | decide | omega)) (.cons (cj__law_text_1 V (by first | decide | omega)) (.cons (cj__law_far_1 V (by first | decide | omega)) (.cons (cj__law_draw_2 V (by first | decide | omega)) (.cons (cj__law_of_2 V (by first | decide | omega)) (.cons (cj__law_odd_1 V (by first | decide | omega)) (.cons (cj__law_names_so_1 V (by first | decide | omega)) (.cons (cj__law_numbers_so_3 V (by first | decide | omega)) .nil))))))))) (.cons rfl .nil) (show ([("str", 1)] : List (Str × Nat)).all (fun c => decide (c.1 ∈ FR)) = true by decide +kernel) (.cons (V.int 17 rfl) (.cons (V.int 18 rfl) (.cons (V.str 19 rfl) .nil))) .nil noAt_ok V.free) rfl p_law⟩
end K01

namespace K01
open PySem DL
open L2 (V FnOk FunD CX0 defArgs defBody defScope SqL FnScope KBn)
abbrev R : PySem.W.OpenRow := PySem.W.OpenLaw.row PySem.Challenge.rw_feeblind_k01_names_and_numbers_judged
abbrev FA : List He.Fa := fa ++ FR.map He.Fa.free
abbrev hk : PySem.W.Hook := He.hookD 4 FA fn
def ob (s : PySem.W.SharedT) : He.AlD := He.obsDG 4 FA fn (HandSHeadRun.getT s)
theorem ob_eq (s : PySem.W.SharedT) : ob s = hk.obs s.abs := He.obsDG_eq (HandSHeadRun.getT_eq s)
def loose : List PySem.Str := ["MOST", "PLENTY", "WHEEL", "LETTERS", "LONGEST", "is_name", "is_number", "_law_bag", "_law_draw", "_law_of", "_law_like", "_law_is_number", "_law_is_title", "_law_odd", "_law_within", "_law_far", "_law_text", "_law_names_so", "_law_numbers_so"]
theorem run (w : World) : HandSHeadRun.RunEq R (PySem.W.view R.prog [21]) hk ob 1000 loose w := by
  intro os
  kernel_rfl
theorem facts {P : Program} {w : World} {K : PySem.W.Frag} {h : Heap} {mg : Str → Option Value} {f : Addr} (X : K.In h) (G : h.Ns mainGlobals mg) (hfa : mg ("law" : Str) = some (.ref f)) (c : He.SaysD FA fn K) :
    ∃ fd : FuncData, (∀ (s : Shared) (v : Value), PySem.BindsTo s fd ⟨[v], []⟩ [("_law_script", v)]) ∧ ∀ base : Heap, K.In base → base.Ns mainGlobals mg → FnOk P w K mg base CX0 4 f fd ["_law_script"] (spOf K F_law) := by
  have V : VE K mg := ⟨h, X, G, c⟩
  have e := hfa.symm.trans (V.glo 14 rfl)
  cases e
  obtain ⟨fd, Fd⟩ := V.def_ 14 (d := dd "law" 21 []) rfl
  have b := FunD.bindsA (ps := ["_law_script"]) Fd fun _ _ _ _ _ _ us hl => match us, hl with | [_], _ => rfl
  refine ⟨fd, fun s v => b s [v] rfl, fun base _ _ => ?_⟩
  obtain ⟨fd2, Fd2, F⟩ := ok_law (P := P) (w := w) (base := base) V
  have : fd2 = fd := fun_uniq Fd2 Fd
  rw [← this]
  exact F
end K01
open PySem PySem.W PySem.Calls PyProof.Rows
theorem PySem.Challenge.cw_feeblind_k01_names_and_numbers_judged_holds : PySem.Challenge.rw_feeblind_k01_names_and_numbers_judged.Holds := by
  w_on; o_law
  refine HandSHeadRun.head_any (r := OpenLaw.row PySem.Challenge.rw_feeblind_k01_names_and_numbers_judged) (q := view (OpenLaw.row PySem.Challenge.rw_feeblind_k01_names_and_numbers_judged).prog [21]) (H := K01.hk) (ob := K01.ob) (M := 1000) (loose := K01.loose) (d := HandSHeadRun.topDef (OpenLaw.row PySem.Challenge.rw_feeblind_k01_names_and_numbers_judged).prog 21) (kwd := []) K01.ob_eq
    (by kernel_rfl) (fun s => by kernel_rfl) K01.run (by kernel_rfl) (by kernel_rfl) (by kernel_rfl) (by rfl) (by first | assumption | decide +kernel) (by decide +kernel) ⟨rfl, rfl, rfl, rfl, rfl, by decide +kernel⟩ ?hw ?hc
  case hw => w_witness2
  case hc =>
    refine L2.walk_ofE (l := PySem.Challenge.rw_feeblind_k01_names_and_numbers_judged) (n := 63) (k := 4) (x := "_law_script") (CX := L2.CX0) rfl (by decide) (by kernel_rfl) ⟨rfl, by decide, by decide⟩ ?F (fun _ _ _ _ z => z)
    intro w mg fa h Y G hmg0
    obtain ⟨K, KX, c⟩ := Y
    have hmg : mg ("law" : PySem.Str) = some (.ref fa) := by
      have e : (HandSHeadRun.topDef (OpenLaw.row PySem.Challenge.rw_feeblind_k01_names_and_numbers_judged).prog 21).name = ("law" : PySem.Str) := by kernel_rfl
      rw [← e]
      exact hmg0
    obtain ⟨fd, hb, hF⟩ := K01.facts (P := (PySem.Challenge.rw_feeblind_k01_names_and_numbers_judged).prog) (w := w) KX G hmg c
    exact ⟨K, fd, DL.spOf K K01.F_law, KX, hb, fun H a ns hl _ hS => DL.law_sp (fun ns hl R hR => ⟨ns, rfl, hl, hR⟩) hl hS, hF⟩
