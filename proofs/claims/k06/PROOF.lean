import PyProof.Rows.All
import Wide.All
import OpenK.AllK
import Wide.FinOn
import PyProof.EnumMake
import HandS.Zip
import HandS.Iter
import KE.KStateDown
import Lean
import HandS.Lambda
import HandS.ForMost
import HandS.Exc
import HandS.WordsExc
import HandS.Defaults
import HandS.IsInst
import HandS.Wide
import HandS.Flow
import HandS.Walk
import HandS.TupAny
import HandS.Deep
import HandS.More
import HandS.Style
import HandS.Conv
import KE.LtData
import KE.DataCmp
import HandS.Head0
import HandS.Head1
import HandS.Head2
import HandS.HeadEnd
import HandS.HeadHook1
import HandS.HeadHook2
import HandS.TupMul
import HandS.NoneIn
import KE.SortData
import KE.SortKeyHeap
import HandS.Nested
import HandS.HeadHook4
import HandS.TupSets
import KE.KeyNested
import KE.DataFind
import HandS.MakeKw
import HandS.MakeKwOnly
import HandS.HeadWalk
import HandS.Star
import PySem.Challenge.RW_feeblind_k06_thinned_rows_of_trade_and_o
set_option Elab.async false
set_option linter.all false
set_option maxRecDepth 100000
set_option maxHeartbeats 4000000
/-! DL: a logic over data, above the hand layer. First what the hand layer lacks. -/
namespace DL
open PySem PySem.Spec PyProof.Rows L2
open AutoSeq1 (wpAny_loadPart')
/-! ### enumerate(tuple) -/
theorem meets_enumT (l : Addr) (items : Array Value) (n : Nat) (dct : Option Addr) (sl : Array (Option Value)) :
    Meets (Builtin.«enumerate.__new__» ⟨[.type "enumerate", .ref l], []⟩) (fun _ R s => s.heap.get? l = some { cls := .type "tuple", dict := dct, data := .seq items n, slots := sl } ∧
      R (.ok (.ret (.ref (s.heap.push { cls := .type "tuple_iterator", data := .fields #[.ref l, .int 0 0] }).objs.size)))
        { s with heap := (s.heap.push { cls := .type "tuple_iterator", data := .fields #[.ref l, .int 0 0] }).push { cls := .type "enumerate", data := .fields #[.none, .bool false, .ref s.heap.objs.size, rawInt 0, .none, .none] } }) :=
  .of_wp fun prog w A R s h => by
    obtain ⟨hp, g, d, tk, os⟩ := s; obtain ⟨hl, h⟩ := h
    have hsub := sub_enumerate
    have hL : Heap.IsTuple (Shared.heap ⟨hp, g, d, tk, os⟩) l items := ⟨_, hl, rfl, n, rfl⟩
    wp_walk using wpAny_loadPart' hl
    refine wpAny_stack_any fun st => wpAny_pure ?_
    split
    · rename_i c _ _ _ _ _
      cases (c == Value.type "enumerate")
      · wp_walk using wpAny_loadPart' hl, wpAny_pyIter_tuple hL
        exact ⟨_, rfl, h⟩
      · wp_walk using wpAny_loadPart' hl, wpAny_pyIter_tuple hL
        exact ⟨_, rfl, h⟩
    · wp_walk using wpAny_loadPart' hl, wpAny_pyIter_tuple hL
      exact ⟨_, rfl, h⟩
section
variable {prog : Program} {w : World} {A : Around} {E : Value → Shared → Prop} {s : Shared}
theorem call_enumT {l : Addr} {items : Array Value} {Q : Value → Shared → Prop} (hL : s.heap.IsTuple l items)
    (h : ∀ h', IsEnum h' (s.heap.objs.size + 1) s.heap.objs.size 0 .none → h'.IsTupleIter s.heap.objs.size l 0 → h'.objs.size = s.heap.objs.size + 2 →
      (∀ b o, s.heap.get? b = some o → h'.get? b = some o) → Q (.ref (s.heap.objs.size + 1)) { s with heap := h' }) :
    wpAny (model prog w) A (call (.type "enumerate") [.ref l]) Q E s := by
  obtain ⟨⟨c, dct, dt, sl⟩, hl, hc, n, hd⟩ := hL
  replace hc : c = .type "tuple" := hc
  replace hd : dt = .seq items n := hd
  subst hc hd
  refine callType_new F.called_enumerate (by decide) (F.typeCall_enumerate_1 _) (F.newCall_enumerate_1 _) (fun obj => F.args_object_init_2 obj _) F.entry_enumerate_new
    (meets_enumT l items n dct sl) ⟨hl, ?_⟩
  have hz : (s.heap.push { cls := .type "tuple_iterator", data := .fields #[.ref l, .int 0 0] }).objs.size = s.heap.objs.size + 1 := Heap.size_push ..
  show _ ∧ _
  rw [hz]
  have he : IsEnum ((s.heap.push { cls := .type "tuple_iterator", data := .fields #[.ref l, .int 0 0] }).push
      { cls := .type "enumerate", data := .fields #[.none, .bool false, .ref s.heap.objs.size, rawInt 0, .none, .none] }) (s.heap.objs.size + 1) s.heap.objs.size 0 .none := by
    have := Heap.get?_push_size (s.heap.push { cls := .type "tuple_iterator", data := .fields #[.ref l, .int 0 0] })
      (o := { cls := .type "enumerate", data := .fields #[.none, .bool false, .ref s.heap.objs.size, rawInt 0, .none, .none] }) rfl
    rw [hz] at this; exact this
  refine ⟨⟨_, he, rfl⟩, h _ he ⟨_, Heap.get?_push_of_some _ (Heap.get?_push_size _ rfl), rfl, rfl⟩ (by rw [Heap.size_push, hz]) fun b o x => Heap.get?_push_of_some _ (Heap.get?_push_of_some _ x)⟩
end
theorem drawsT {P : Program} {w : World} {A : Around} (hh : A.handled = none) (it a : Addr) (hne : a ≠ it) (items : Array Value) : Draws P w A it [it, a] items.size (fun i x => items[i]? = some x) (fun i h => h.IsTupleIter it a i ∧ h.IsTuple a items) where
  live := fun i h ⟨⟨o, ho, _⟩, _⟩ => ⟨o, ho⟩
  frame := fun i h h' ⟨⟨o, ho, r⟩, ⟨o2, ho2, r2⟩⟩ k => ⟨⟨o, k it (by simp) o ho, r⟩, ⟨o2, k a (by simp) o2 ho2, r2⟩⟩
  item := fun i s Q E hi ⟨h1, h2⟩ hQ => by
    have hx : items[i]? = some items[i] := by simp [hi]
    exact RZ.nextOf_tuple_item h1 h2 hx fun h' h3 h4 => hQ _ h' s.toks hx ⟨h3, h2.extBut h4.extBut hne⟩ h4
  done := fun s Q E ⟨h1, h2⟩ hE => RZ.nextOf_tuple_end hh h1 h2 (by simp) hE
/-- the tuple at a, each item in a new pair -/
def IteT (K : PySem.W.Frag) (a : Addr) : It :=
  ⟨fun i H => ∃ (xs : List V) (x : V), SqT K H a xs ∧ xs[i]? = some x, fun i H v H' => ∃ T x, v = .ref T ∧ H T = none ∧ H' = upd H T (.tup [.int (i : Nat), x]) ∧ ∀ xs, SqT K H a xs → xs[i]? = some x, fun i H => ∃ xs : List V, SqT K H a xs ∧ xs.length ≤ i⟩
theorem turn_enumT {P : Program} {w : World} {K : PySem.W.Frag} {elts : List Expr} {kk : Nat} {tpos : Pos} (a e it : Addr) :
    Turn P w K (.Tuple elts kk tpos) (IteT K a) [e, it] e (fun i h => (∃ old, IsEnum h e it ((i : Nat) : Int) old) ∧ h.IsTupleIter it a i ∧ e ≠ it) where
  mem := by simp
  obj := fun i h st b hb => by
    obtain ⟨⟨old, he⟩, ⟨o, ho, hc, hd⟩, _⟩ := st
    have e' : b = e ∨ b = it := by simpa using hb
    rcases e' with z | z
    · rw [z]; exact ⟨_, he, fun v q => nomatch q⟩
    · rw [z]; exact ⟨o, ho, fun v q => by rw [hd] at q; cases q⟩
  keep := fun i h h' st k => let ⟨⟨old, he⟩, hi, hne⟩ := st; ⟨⟨old, k e (by simp) _ he⟩, hi.at fun o q => k it (by simp) o q, hne⟩
  item := by
    intro X hP hw hK hc i pins s σ H E I hf st hg
    subst hP hw hK
    obtain ⟨⟨old, he⟩, hit, hne⟩ := st
    obtain ⟨xs, x, hq, hx⟩ := hg
    obtain ⟨its, rv, p, hz⟩ := I.tuple hq
    obtain ⟨u, hu, ru⟩ := rv.get hx
    have hel : e < s.heap.objs.size := Heap.lt_size he
    have hil : it < s.heap.objs.size := by obtain ⟨_, q, _⟩ := hit; exact Heap.lt_size q
    have hea : e ≠ a := fun q => by
      obtain ⟨o, ho, hc, _⟩ := p
      rw [← q, he] at ho
      cases ho
      injection hc with h
      exact absurd h (by decide)
    have hia : a ≠ it := fun q => by
      obtain ⟨o, ho, hc, _⟩ := p
      obtain ⟨o2, ho2, hc2, _⟩ := hit
      rw [q, ho2] at ho
      cases ho
      rw [hc2] at hc
      injection hc with h
      exact absurd h (by decide)
    have hlt : i < its.toArray.size := by
      rw [List.size_toArray]
      by_cases c : i < its.length
      · exact c
      · rw [List.getElem?_eq_none (by omega)] at hu; cases hu
    refine wpAny_pyNext_enum_itemD (drawsT (A := X.A.in1) (I.ok.hd hc) it a hia its.toArray) he ⟨hit, p⟩ hlt hne (by simp [hne, hea]) fun x' h' tk hx' ho ⟨hit', p'⟩ hT hsz hk => ?_
    have ex' : x' = u := by
      have h1 : its.toArray[i]? = some u := by simpa using hu
      rw [h1] at hx'
      exact (Option.some.inj hx').symm
    subst ex'
    refine ⟨_, rfl, wpAny_letOwnedTupleGo_enum (s := { s with heap := h', toks := tk + 1 }) ho fun h'' he' sb => ?_⟩
    have hT2 : h''.get? s.heap.objs.size = some { cls := .type "tuple", data := .seq #[.int i tk, x'] } := (sb.2 _ (Nat.ne_of_gt hel)).trans hT
    have new : ObjOk X.prog X.w (upd H s.heap.objs.size (.tup [.int (i : Nat), x])) h'' s.heap.objs.size (.tup [.int (i : Nat), x]) :=
      ⟨by show 2 ≤ sizeLine; decide, [.int i tk, x'], .cons ⟨_, rfl⟩ (.cons ru .nil), ⟨_, hT2, rfl, _, rfl⟩⟩
    have I1 : Inv X pins σ (upd H s.heap.objs.size (.tup [.int (i : Nat), x])) { s with heap := h'', toks := tk + 1 } :=
      I.turnedNew (ch := [e, it]) (fun b ob hb q => (sb.2 b (fun z => hb (by simp [z]))).trans (hk b ob (fun z => hb (by simp [z])) (fun z => hb (by simp [z])) q)) hf (Nat.le_refl _) new
    refine ⟨.ref s.heap.objs.size, _, I1, rfl, ⟨_, x, rfl, I.hok.fresh (Nat.le_refl _), rfl, fun ys hy => by rw [I.tuple_inj hy hq]; exact hx⟩, ⟨⟨x', ?_⟩, hit'.at fun o q => (sb.2 it (Ne.symm hne)).trans q, hne⟩, fun b hb => ?_⟩
    · have e1 : ((i + 1 : Nat) : Int) = (i : Int) + 1 := by omega
      rw [e1]; exact he'
    · have hb' : b < s.heap.objs.size := by
        have e' : b = e ∨ b = it := by simpa using hb
        rcases e' with z | z
        · rw [z]; exact hel
        · rw [z]; exact hil
      rw [upd_ne (Nat.ne_of_lt hb')]
      exact (hf b hb).1
  done := by
    intro X hP hw hK hc i pins s σ H E I hf st hg
    subst hP hw hK
    obtain ⟨⟨old, he⟩, hit, hne⟩ := st
    obtain ⟨xs, hq, hx⟩ := hg
    obtain ⟨its, rv, p, hz⟩ := I.tuple hq
    obtain ⟨f0, f1, f2, f3, f4, f5⟩ := hf it (by simp)
    have hl := rv.length
    have hT : s.TypeIs (.ref e) "enumerate" := ⟨_, he, rfl⟩
    unfold pyNext
    refine wpAny_bind (wpAny_attempt (wpAny_callSpecial?_slot (name := Str.ofString "__next__") hT F.slot_enumerate_next
      (wpAny_call_entry F.slot_enumerate_next hT F.entry_enumerate_next ?_ (F.args_enumerate_next_1 _))))
    show wpAny _ _ (field (.ref e) 2 >>= _) _ _ _
    refine wpAny_bind (wpAny_field he rfl (x := .ref it) rfl ?_)
    refine wpAny_bind (RZ.nextOf_tuple_end (I.ok.hd hc) hit p (by simp; omega) fun h' x he' hx' => ?_)
    obtain ⟨o, ho, hcc⟩ := hx'
    refine wpAny_bind (wpAny_isInstance (T := "StopIteration") (b := true) ⟨o, ho, hcc⟩ isSubtype_stop ?_)
    exact wpAny_pure ⟨rfl, I.turned (t' := s.toks) (fun b o hb q => he' b o hb q) f0 f1 f3 f4 f5⟩
  self := fun A i s Q E st h => let ⟨⟨_, he⟩, _⟩ := st; wpAny_pyIter_enum he h
def iEnumT (K : PySem.W.Frag) (ta : TA) : TI := fun σ H R => ta σ H fun vs H1 => ∃ a xs, vs = [.ref a] ∧ ((SqL K H1 a xs ∧ R (Ite K a) H1) ∨ (SqT K H1 a xs ∧ R (IteT K a) H1))
theorem pi_enumA {X : Cx} {e : Expr} {ta : TA} {p pos tpos : Pos} {elts : List Expr} {kk : Nat} (hg : Gl X "enumerate") (hm : X.mg "enumerate" = none) (ha : PA X [e] ta) (hs : starEach [e] X.env = [(false, eval e X.env)]) :
    PI X (.Tuple elts kk tpos) (.Call (.Name "enumerate" p) [e] [] pos) (iEnumT X.K ta) := by
  refine ⟨fun pins s σ H R I h => ?_⟩
  refine Call_ (ld_blt I hg hm boot_enumerate (PyProof.Rows.callWith_type1 (thn (ha.run pos pins s σ H _ I h) fun us s1 ⟨vs, H1, I1, r1, q1⟩ => ?_) hs rfl))
  obtain ⟨a, xs, ex, hq⟩ := q1
  subst ex
  cases r1 with
  | cons r rr =>
    cases rr
    cases r
    rcases hq with ⟨hq, q⟩ | ⟨hq, q⟩
    · obtain ⟨its, rv, p', hz⟩ := I1.list hq
      refine call_enumerate_list p'.isList fun h' he hit hsz hk => wpAny_pyIter_enum he ?_
      have I2 : Inv X pins σ H1 { s1 with heap := h' } := I1.kept (t' := s1.toks) hk
      refine ⟨s1.heap.objs.size + 1, [s1.heap.objs.size + 1, s1.heap.objs.size], _, _, H1, rfl, I2, turn_enum a (s1.heap.objs.size + 1) s1.heap.objs.size, ⟨⟨.none, he⟩, hit, Nat.succ_ne_self _⟩, fun b hb => ?_, q⟩
      have e' : b = s1.heap.objs.size + 1 ∨ b = s1.heap.objs.size := by simpa using hb
      have hle : s1.heap.objs.size ≤ b := by
        rcases e' with z | z
        · rw [z]; exact Nat.le_add_right _ _
        · rw [z]; exact Nat.le_refl _
      exact I1.fpOk hle (I1.hok.fresh hle)
    · obtain ⟨its, rv, p', hz⟩ := I1.tuple hq
      refine call_enumT p' fun h' he hit hsz hk => wpAny_pyIter_enum he ?_
      have I2 : Inv X pins σ H1 { s1 with heap := h' } := I1.kept (t' := s1.toks) hk
      refine ⟨s1.heap.objs.size + 1, [s1.heap.objs.size + 1, s1.heap.objs.size], _, _, H1, rfl, I2, turn_enumT a (s1.heap.objs.size + 1) s1.heap.objs.size, ⟨⟨.none, he⟩, hit, Nat.succ_ne_self _⟩, fun b hb => ?_, q⟩
      have e' : b = s1.heap.objs.size + 1 ∨ b = s1.heap.objs.size := by simpa using hb
      have hle : s1.heap.objs.size ≤ b := by
        rcases e' with z | z
        · rw [z]; exact Nat.le_add_right _ _
        · rw [z]; exact Nat.le_refl _
      exact I1.fpOk hle (I1.hok.fresh hle)
end DL

/-! DL: a logic over data, above the hand layer. -/
namespace DL
open PySem PySem.Spec PyProof.Rows L2
/-! ### data -/
inductive D where
  | non | bl (b : Bool) | int (i : Int) | str (s : Str)
  | lst (xs : List D) | tup (xs : List D) | klst (xs : List D) | ftup (xs : List D) | pin (a : Addr) (xs : List D)
  | dic (ks : List Key) (vs : List D)
  | ins (C : Str) (ns : List Str) (vs : List D)
  | ty (n : String) | gl (a : Addr)
/-! ### what a value stands for -/
mutual
def Rep (K : PySem.W.Frag) (G : Hp) : D → V → Prop
  | .non, v => v = .non
  | .bl b, v => v = .bl b
  | .int i, v => v = .int i
  | .str s, v => v = .str s
  | .lst xs, v => ∃ a vs, v = .ref a ∧ G a = some (.lst vs) ∧ Reps K G xs vs
  | .tup xs, v => ∃ a vs, v = .ref a ∧ SqT K G a vs ∧ Reps K G xs vs
  | .ftup xs, v => ∃ a vs, v = .ref a ∧ (∃ o, G a = some (.frz o (.tup vs)) ∧ o.dict = none) ∧ Reps K G xs vs
  | .pin a xs, v => v = .ref a ∧ ∃ vs, G a = some (.lst vs) ∧ Reps K G xs vs
  | .klst xs, v => ∃ a vs, v = .ref a ∧ SqL K G a vs ∧ Reps K G xs vs
  | .dic ks xs, v => ∃ a kvs, v = .ref a ∧ G a = some (.dK kvs) ∧ kvs.map (·.1) = ks ∧ Reps K G xs (kvs.map (·.2))
  | .ins C ns xs, v => ∃ a dx fs, v = .ref a ∧ G a = some (.ins (He.ga K C) dx fs) ∧ fs.map (·.1) = ns ∧ Reps K G xs (fs.map (·.2))
  | .ty n, v => v = .ty n
  | .gl a, v => v = .ref a
def Reps (K : PySem.W.Frag) (G : Hp) : List D → List V → Prop
  | [], vs => vs = []
  | d :: ds, vs => ∃ v r, vs = v :: r ∧ Rep K G d v ∧ Reps K G ds r
end
/-- the object itself in H, its parts in G -/
def Top (K : PySem.W.Frag) (G H : Hp) : D → V → Prop
  | .non, v => v = .non
  | .bl b, v => v = .bl b
  | .int i, v => v = .int i
  | .str s, v => v = .str s
  | .lst xs, v => ∃ a vs, v = .ref a ∧ H a = some (.lst vs) ∧ Reps K G xs vs
  | .tup xs, v => ∃ a vs, v = .ref a ∧ SqT K G a vs ∧ Reps K G xs vs
  | .ftup xs, v => ∃ a vs, v = .ref a ∧ (∃ o, G a = some (.frz o (.tup vs)) ∧ o.dict = none) ∧ Reps K G xs vs
  | .pin a xs, v => v = .ref a ∧ ∃ vs, H a = some (.lst vs) ∧ Reps K G xs vs
  | .klst xs, v => ∃ a vs, v = .ref a ∧ SqL K G a vs ∧ Reps K G xs vs
  | .dic ks xs, v => ∃ a kvs, v = .ref a ∧ H a = some (.dK kvs) ∧ kvs.map (·.1) = ks ∧ Reps K G xs (kvs.map (·.2))
  | .ins C ns xs, v => ∃ a dx fs, v = .ref a ∧ H a = some (.ins (He.ga K C) dx fs) ∧ fs.map (·.1) = ns ∧ Reps K G xs (fs.map (·.2))
  | .ty n, v => v = .ty n
  | .gl a, v => v = .ref a
section
variable {K : PySem.W.Frag} {G G' H H' : Hp}
theorem Same.tup (e : Same H H') {a : Addr} {xs : List V} (h : SqT K H a xs) : SqT K H' a xs := by
  rcases h with (h | ⟨o, h⟩) | h
  · exact .inl (.inl (e _ _ h))
  · exact .inl (.inr ⟨o, e _ _ h⟩)
  · exact .inr h
mutual
theorem Rep.mono (e : Same G G') : ∀ (d : D) (v : V), Rep K G d v → Rep K G' d v
  | .non, v, h => h
  | .bl b, v, h => h
  | .int i, v, h => h
  | .str s, v, h => h
  | .lst xs, v, h => by obtain ⟨a, vs, h1, h2, h3⟩ := h; exact ⟨a, vs, h1, e _ _ h2, Reps.mono e xs vs h3⟩
  | .tup xs, v, h => by obtain ⟨a, vs, h1, h2, h3⟩ := h; exact ⟨a, vs, h1, Same.tup e h2, Reps.mono e xs vs h3⟩
  | .ftup xs, v, h => by obtain ⟨a, vs, h1, ⟨o, h2, h4⟩, h3⟩ := h; exact ⟨a, vs, h1, ⟨o, e _ _ h2, h4⟩, Reps.mono e xs vs h3⟩
  | .pin a xs, v, h => by obtain ⟨h1, vs, h2, h3⟩ := h; exact ⟨h1, vs, e _ _ h2, Reps.mono e xs vs h3⟩
  | .klst xs, v, h => by obtain ⟨a, vs, h1, h2, h3⟩ := h; exact ⟨a, vs, h1, Same.seq e h2, Reps.mono e xs vs h3⟩
  | .dic ks xs, v, h => by obtain ⟨a, vs, h1, h2, h4, h3⟩ := h; exact ⟨a, vs, h1, e _ _ h2, h4, Reps.mono e xs _ h3⟩
  | .ins C ns xs, v, h => by obtain ⟨a, dx, vs, h1, h2, h4, h3⟩ := h; exact ⟨a, dx, vs, h1, e _ _ h2, h4, Reps.mono e xs _ h3⟩
  | .ty n, v, h => h
  | .gl a, v, h => h
theorem Reps.mono (e : Same G G') : ∀ (ds : List D) (vs : List V), Reps K G ds vs → Reps K G' ds vs
  | [], vs, h => h
  | d :: ds, vs, h => by obtain ⟨v, r, h1, h2, h3⟩ := h; exact ⟨v, r, h1, Rep.mono e d v h2, Reps.mono e ds r h3⟩
end
theorem Rep.top (e : Same G H) : ∀ {d : D} {v : V}, Rep K G d v → Top K G H d v
  | .non, v, h => h
  | .bl b, v, h => h
  | .int i, v, h => h
  | .str s, v, h => h
  | .lst xs, v, h => by obtain ⟨a, vs, h1, h2, h3⟩ := h; exact ⟨a, vs, h1, e _ _ h2, h3⟩
  | .tup xs, v, h => h
  | .ftup xs, v, h => h
  | .pin a xs, v, h => by obtain ⟨h1, vs, h2, h3⟩ := h; exact ⟨h1, vs, e _ _ h2, h3⟩
  | .klst xs, v, h => h
  | .dic ks xs, v, h => by obtain ⟨a, vs, h1, h2, h4, h3⟩ := h; exact ⟨a, vs, h1, e _ _ h2, h4, h3⟩
  | .ins C ns xs, v, h => by obtain ⟨a, dx, vs, h1, h2, h4, h3⟩ := h; exact ⟨a, dx, vs, h1, e _ _ h2, h4, h3⟩
  | .ty n, v, h => h
  | .gl a, v, h => h
theorem Top.mono (e : Same G G') (e2 : Same H H') : ∀ {d : D} {v : V}, Top K G H d v → Top K G' H' d v
  | .non, v, h => h
  | .bl b, v, h => h
  | .int i, v, h => h
  | .str s, v, h => h
  | .lst xs, v, h => by obtain ⟨a, vs, h1, h2, h3⟩ := h; exact ⟨a, vs, h1, e2 _ _ h2, Reps.mono e _ _ h3⟩
  | .tup xs, v, h => by obtain ⟨a, vs, h1, h2, h3⟩ := h; exact ⟨a, vs, h1, Same.tup e h2, Reps.mono e _ _ h3⟩
  | .ftup xs, v, h => by obtain ⟨a, vs, h1, ⟨o, h2, h4⟩, h3⟩ := h; exact ⟨a, vs, h1, ⟨o, e _ _ h2, h4⟩, Reps.mono e _ _ h3⟩
  | .pin a xs, v, h => by obtain ⟨h1, vs, h2, h3⟩ := h; exact ⟨h1, vs, e2 _ _ h2, Reps.mono e _ _ h3⟩
  | .klst xs, v, h => by obtain ⟨a, vs, h1, h2, h3⟩ := h; exact ⟨a, vs, h1, Same.seq e h2, Reps.mono e _ _ h3⟩
  | .dic ks xs, v, h => by obtain ⟨a, vs, h1, h2, h4, h3⟩ := h; exact ⟨a, vs, h1, e2 _ _ h2, h4, Reps.mono e _ _ h3⟩
  | .ins C ns xs, v, h => by obtain ⟨a, dx, vs, h1, h2, h4, h3⟩ := h; exact ⟨a, dx, vs, h1, e2 _ _ h2, h4, Reps.mono e _ _ h3⟩
  | .ty n, v, h => h
  | .gl a, v, h => h
theorem ftup_tup {xs : List D} {v : V} (h : Rep K G (.ftup xs) v) : Rep K G (.tup xs) v := by
  obtain ⟨a, vs, h1, ⟨o, h2, _⟩, h3⟩ := h
  exact ⟨a, vs, h1, .inl (.inr ⟨o, h2⟩), h3⟩
theorem pin_lst {a : Addr} {xs : List D} {v : V} (h : Top K G H (.pin a xs) v) : Top K G H (.lst xs) v := by
  obtain ⟨h1, vs, h2, h3⟩ := h
  exact ⟨a, vs, h1, h2, h3⟩
/-- a list, a dict, an instance: what may be changed -/
def ownable : D → Bool
  | .lst _ | .dic _ _ | .ins _ _ _ | .pin _ _ => true
  | _ => false
/-- the object that stands in H alone is taken into the frozen part -/
theorem Top.frz {d : D} {a : Addr} {o : HO} (n : G a = none) (e : H a = some o) (w : ownable d = true) (h : Top K G H d (.ref a)) : Rep K (upd G a o) d (.ref a) := by
  have sm : Same G (upd G a o) := fun b u q => by rw [upd_ne (ne_of_none q n)]; exact q
  cases d with
  | lst xs =>
    obtain ⟨b, vs, h1, h2, h3⟩ := h
    cases h1
    rw [e] at h2
    cases h2
    exact ⟨a, vs, rfl, upd_same, Reps.mono sm _ _ h3⟩
  | pin p xs =>
    obtain ⟨h1, vs, h2, h3⟩ := h
    cases h1
    rw [e] at h2
    cases h2
    exact ⟨rfl, vs, upd_same, Reps.mono sm _ _ h3⟩
  | dic ks xs =>
    obtain ⟨b, vs, h1, h2, h4, h3⟩ := h
    cases h1
    rw [e] at h2
    cases h2
    exact ⟨a, vs, rfl, upd_same, h4, Reps.mono sm _ _ h3⟩
  | ins C ns xs =>
    obtain ⟨b, dx, vs, h1, h2, h4, h3⟩ := h
    cases h1
    rw [e] at h2
    cases h2
    exact ⟨a, dx, vs, rfl, upd_same, h4, Reps.mono sm _ _ h3⟩
  | _ => cases w
theorem Reps.length : ∀ {ds : List D} {vs : List V}, Reps K G ds vs → vs.length = ds.length
  | [], vs, h => by cases (show vs = [] from h); rfl
  | d :: ds, vs, h => by obtain ⟨v, r, h1, h2, h3⟩ := h; subst h1; exact congrArg Nat.succ (Reps.length h3)
theorem Reps.get : ∀ {ds : List D} {vs : List V} {i : Nat} {d : D}, Reps K G ds vs → ds[i]? = some d → ∃ v, vs[i]? = some v ∧ Rep K G d v
  | [], vs, i, d, h, e => by simp at e
  | d :: ds, vs, 0, x, h, e => by
    obtain ⟨v, r, h1, h2, h3⟩ := h
    subst h1
    simp at e
    subst e
    exact ⟨v, rfl, h2⟩
  | d :: ds, vs, i + 1, x, h, e => by
    obtain ⟨v, r, h1, h2, h3⟩ := h
    subst h1
    obtain ⟨u, e1, e2⟩ := Reps.get (i := i) (d := x) h3 (by simpa using e)
    exact ⟨u, by simpa using e1, e2⟩
theorem Reps.nil : Reps K G [] [] := rfl
theorem Reps.cons {d : D} {v : V} {ds : List D} {vs : List V} (h : Rep K G d v) (t : Reps K G ds vs) : Reps K G (d :: ds) (v :: vs) := ⟨v, vs, rfl, h, t⟩
theorem Reps.append : ∀ {ds es : List D} {vs us : List V}, Reps K G ds vs → Reps K G es us → Reps K G (ds ++ es) (vs ++ us)
  | [], es, vs, us, h, t => by cases (show vs = [] from h); exact t
  | d :: ds, es, vs, us, h, t => by obtain ⟨v, r, h1, h2, h3⟩ := h; subst h1; exact .cons h2 (Reps.append h3 t)
theorem Reps.set {x : D} {u : V} (hx : Rep K G x u) : ∀ {ds : List D} {vs : List V} (i : Nat), Reps K G ds vs → Reps K G (ds.set i x) (vs.set i u)
  | [], vs, i, h => by cases (show vs = [] from h); exact rfl
  | d :: ds, vs, 0, h => by obtain ⟨v, r, h1, h2, h3⟩ := h; subst h1; exact .cons hx h3
  | d :: ds, vs, i + 1, h => by obtain ⟨v, r, h1, h2, h3⟩ := h; subst h1; exact .cons h2 (Reps.set hx i h3)
theorem Reps.take : ∀ {ds : List D} {vs : List V} (i : Nat), Reps K G ds vs → Reps K G (ds.take i) (vs.take i)
  | ds, vs, 0, h => by simp; exact rfl
  | [], vs, i + 1, h => by cases (show vs = [] from h); exact rfl
  | d :: ds, vs, i + 1, h => by obtain ⟨v, r, h1, h2, h3⟩ := h; subst h1; exact .cons h2 (Reps.take i h3)
theorem Reps.drop : ∀ {ds : List D} {vs : List V} (i : Nat), Reps K G ds vs → Reps K G (ds.drop i) (vs.drop i)
  | ds, vs, 0, h => h
  | [], vs, i + 1, h => by cases (show vs = [] from h); exact rfl
  | d :: ds, vs, i + 1, h => by obtain ⟨v, r, h1, h2, h3⟩ := h; subst h1; exact Reps.drop i h3
theorem Reps.eraseIdx : ∀ {ds : List D} {vs : List V} (i : Nat), Reps K G ds vs → Reps K G (ds.eraseIdx i) (vs.eraseIdx i)
  | [], vs, i, h => by cases (show vs = [] from h); exact rfl
  | d :: ds, vs, 0, h => by obtain ⟨v, r, h1, h2, h3⟩ := h; subst h1; exact h3
  | d :: ds, vs, i + 1, h => by obtain ⟨v, r, h1, h2, h3⟩ := h; subst h1; exact .cons h2 (Reps.eraseIdx i h3)
theorem Reps.reverse {ds : List D} {vs : List V} (h : Reps K G ds vs) : Reps K G ds.reverse vs.reverse := by
  induction ds generalizing vs with
  | nil => cases (show vs = [] from h); exact rfl
  | cons d ds ih =>
    obtain ⟨v, r, h1, h2, h3⟩ := h
    subst h1
    rw [List.reverse_cons, List.reverse_cons]
    exact Reps.append (ih h3) (.cons h2 rfl)
theorem Reps.dropLast {ds : List D} {vs : List V} (h : Reps K G ds vs) : Reps K G ds.dropLast vs.dropLast := by
  rw [List.dropLast_eq_take, List.dropLast_eq_take, h.length]
  exact h.take _
theorem Reps.isEmpty {ds : List D} {vs : List V} (h : Reps K G ds vs) : vs.isEmpty = ds.isEmpty := by
  have e := h.length
  cases ds <;> cases vs <;> first | rfl | (exfalso; simp at e)
theorem Reps.ints : ∀ {ns : List Int} {vs : List V}, Reps K G (ns.map .int) vs ↔ vs = ns.map .int
  | [], vs => by exact Iff.rfl
  | n :: ns, vs => by
    constructor
    · rintro ⟨v, r, h1, h2, h3⟩
      subst h1
      rw [Reps.ints.mp h3]
      cases (show v = .int n from h2)
      rfl
    · rintro rfl
      exact ⟨_, _, rfl, rfl, Reps.ints.mpr rfl⟩
theorem Reps.bls : ∀ {ns : List Bool} {vs : List V}, Reps K G (ns.map .bl) vs ↔ vs = ns.map .bl
  | [], vs => by exact Iff.rfl
  | n :: ns, vs => by
    constructor
    · rintro ⟨v, r, h1, h2, h3⟩
      subst h1
      rw [Reps.bls.mp h3]
      cases (show v = .bl n from h2)
      rfl
    · rintro rfl
      exact ⟨_, _, rfl, rfl, Reps.bls.mpr rfl⟩
theorem Reps.strs : ∀ {ns : List Str} {vs : List V}, Reps K G (ns.map .str) vs ↔ vs = ns.map .str
  | [], vs => by exact Iff.rfl
  | n :: ns, vs => by
    constructor
    · rintro ⟨v, r, h1, h2, h3⟩
      subst h1
      rw [Reps.strs.mp h3]
      cases (show v = .str n from h2)
      rfl
    · rintro rfl
      exact ⟨_, _, rfl, rfl, Reps.strs.mpr rfl⟩
end
/-! ### the store over data -/
/-- a slot: nothing, a shared datum, an owned object (the only thing that may be changed) -/
inductive Sl where
  | no | sh (d : D) | ow (d : D)
abbrev DSt := List Sl
/-- the tables of code objects (a lambda's making writes there): where, and the one name that they tell -/
class TB where
  tabs : PySem.W.Frag → List (Addr × Str)
variable [TB]
structure TbOk (K : PySem.W.Frag) (B G H : Hp) : Prop where
  nB : ∀ p ∈ TB.tabs K, B p.1 = none
  nG : ∀ p ∈ TB.tabs K, G p.1 = none
  tG : ∀ a ps, G a ≠ some (.tbl ps)
  tB : ∀ a u, B a = some u → (∀ ps, u ≠ .tbl ps) ∧ ∀ φ, u ≠ .ext φ
  ok : LamX.Tabs (TB.tabs K) H
section
variable {K : PySem.W.Frag} {B B' G G' H H' : Hp}
theorem TbOk.at_ (t : TbOk K B G H) {p : Addr × Str} (hp : p ∈ TB.tabs K) : ∃ ps : Array Value, H p.1 = some (.tbl ps) := by
  obtain ⟨ps, h, _⟩ := t.ok p hp
  exact ⟨ps, h⟩
theorem TbOk.ne (t : TbOk K B G H) {p : Addr × Str} (hp : p ∈ TB.tabs K) {a : Addr} {o : HO} (h : H a = some o) (n : ∀ ps, o ≠ .tbl ps) : p.1 ≠ a := fun e => by
  obtain ⟨ps, q⟩ := t.at_ hp
  rw [e, h] at q
  cases q
  exact n ps rfl
theorem TbOk.nen (t : TbOk K B G H) {p : Addr × Str} (hp : p ∈ TB.tabs K) {a : Addr} (h : H a = none) : p.1 ≠ a := fun e => by
  obtain ⟨ps, q⟩ := t.at_ hp
  rw [e, h] at q
  cases q
theorem own_tbl {d : D} {a : Addr} {o : HO} (h : H a = some o) (t : Top K G H d (.ref a)) (w : ownable d = true) (ps : Array Value) : o ≠ .tbl ps := by
  cases d with
  | lst xs => obtain ⟨b, vs, e, h2, _⟩ := t; cases e; rw [h] at h2; cases h2; exact fun z => by cases z
  | pin p xs => obtain ⟨e, vs, h2, _⟩ := t; cases e; rw [h] at h2; cases h2; exact fun z => by cases z
  | dic ks xs => obtain ⟨b, vs, e, h2, _⟩ := t; cases e; rw [h] at h2; cases h2; exact fun z => by cases z
  | ins C ns xs => obtain ⟨b, dx, vs, e, h2, _⟩ := t; cases e; rw [h] at h2; cases h2; exact fun z => by cases z
  | _ => cases w
theorem own_ext {d : D} {a : Addr} {o : HO} (h : H a = some o) (t : Top K G H d (.ref a)) (w : ownable d = true) (φ : Heap → Prop) : o ≠ .ext φ := by
  cases d with
  | lst xs => obtain ⟨b, vs, e, h2, _⟩ := t; cases e; rw [h] at h2; cases h2; exact fun z => by cases z
  | pin p xs => obtain ⟨e, vs, h2, _⟩ := t; cases e; rw [h] at h2; cases h2; exact fun z => by cases z
  | dic ks xs => obtain ⟨b, vs, e, h2, _⟩ := t; cases e; rw [h] at h2; cases h2; exact fun z => by cases z
  | ins C ns xs => obtain ⟨b, dx, vs, e, h2, _⟩ := t; cases e; rw [h] at h2; cases h2; exact fun z => by cases z
  | _ => cases w
/-- G takes an object of H that is no table -/
theorem TbOk.putG (t : TbOk K B G H) {a : Addr} {o : HO} (h : H a = some o) (n : ∀ ps, o ≠ .tbl ps) : TbOk K B (upd G a o) H :=
  ⟨t.nB, fun p hp => (by rw [upd_ne (t.ne hp h n)]; exact t.nG p hp), fun b ps e => (by
    by_cases hb : b = a
    · rw [hb, upd_same] at e; cases e; exact n ps rfl
    · rw [upd_ne hb] at e; exact t.tG b ps e), t.tB, t.ok⟩
theorem tB_upd {a : Addr} {o : HO} (t : ∀ a u, B a = some u → (∀ ps, u ≠ .tbl ps) ∧ ∀ φ, u ≠ .ext φ) (n1 : ∀ ps, o ≠ .tbl ps) (n2 : ∀ φ, o ≠ .ext φ) : ∀ b u, (upd B a o) b = some u → (∀ ps, u ≠ .tbl ps) ∧ ∀ φ, u ≠ .ext φ := fun b u e => by
  by_cases hb : b = a
  · rw [hb, upd_same] at e; cases e; exact ⟨n1, n2⟩
  · rw [upd_ne hb] at e; exact t b u e
theorem TbOk.putB (t : TbOk K B G H) {a : Addr} {o : HO} (h : H a = some o) (n : ∀ ps, o ≠ .tbl ps) (n2 : ∀ φ, o ≠ .ext φ) : TbOk K (upd B a o) G H :=
  ⟨fun p hp => (by rw [upd_ne (t.ne hp h n)]; exact t.nB p hp), t.nG, t.tG, tB_upd t.tB n n2, t.ok⟩
theorem tabs_upd {T : List (Addr × Str)} {a : Addr} {o : HO} (t : LamX.Tabs T H) (ne : ∀ p ∈ T, p.1 ≠ a) (n2 : ∀ φ, H a ≠ some (.ext φ)) : LamX.Tabs T (upd H a o) := fun p hp => by
  obtain ⟨ps, h1, h2, h3⟩ := t p hp
  refine ⟨ps, by rw [upd_ne (ne p hp)]; exact h1, h2, fun pos cv hc => ?_⟩
  obtain ⟨c, e1, e2⟩ := h3 pos cv hc
  exact ⟨c, e1, by rw [upd_ne (fun z => by rw [z] at e2; exact n2 _ e2)]; exact e2⟩
theorem TbOk.sub (t : TbOk K B' G H) (sm : Same B B') : TbOk K B G H :=
  ⟨fun p hp => (by
    cases q : B p.1 with
    | none => rfl
    | some o => exact absurd ((t.nB p hp).symm.trans (sm _ _ q)) (fun z => by cases z)), t.nG, t.tG, fun a u e => t.tB a u (sm _ _ e), t.ok⟩
theorem TbOk.up (t : TbOk K B G H) (sm : Same H H') : TbOk K B G H' := ⟨t.nB, t.nG, t.tG, t.tB, t.ok.ext sm⟩
/-- an object that is no table and no code object is written -/
theorem TbOk.wr (t : TbOk K B G H) {a : Addr} {o u : HO} (h : H a = some u) (n1 : ∀ ps, u ≠ .tbl ps) (n2 : ∀ φ, u ≠ .ext φ) : TbOk K B G (upd H a o) := ⟨t.nB, t.nG, t.tG, t.tB, tabs_upd t.ok (fun p hp => t.ne hp h n1) fun φ z => n2 φ (Option.some.inj (h.symm.trans z))⟩
/-- both B and H take a new object -/
theorem TbOk.both (t : TbOk K B G H) {a : Addr} {o : HO} (h : H a = none) (n1 : ∀ ps, o ≠ .tbl ps) (n2 : ∀ φ, o ≠ .ext φ) : TbOk K (upd B a o) G (upd H a o) :=
  ⟨fun p hp => (by rw [upd_ne (t.nen hp h)]; exact t.nB p hp), t.nG, t.tG, tB_upd t.tB n1 n2, tabs_upd t.ok (fun p hp => t.nen hp h) fun φ z => (by rw [h] at z; cases z)⟩
/-- what B has is written in B and in H -/
theorem TbOk.bupd {a : Addr} {o o' : HO} (t : TbOk K (upd B a o) G H) (h : H a = some o) (n1 : ∀ ps, o' ≠ .tbl ps) (n2 : ∀ φ, o' ≠ .ext φ) : TbOk K (upd B a o') G (upd H a o') := by
  have ne : ∀ p ∈ TB.tabs K, p.1 ≠ a := fun p hp e => by
    have := t.nB p hp
    rw [e, upd_same] at this
    cases this
  have q := t.tB a o upd_same
  refine ⟨fun p hp => ?_, t.nG, t.tG, fun b u e => ?_, tabs_upd t.ok ne fun φ z => q.2 φ (Option.some.inj (h.symm.trans z))⟩
  · have := t.nB p hp
    rw [upd_ne (ne p hp)] at this ⊢
    exact this
  · by_cases hb : b = a
    · rw [hb, upd_same] at e; cases e; exact ⟨n1, n2⟩
    · rw [upd_ne hb] at e; exact t.tB b u (by rw [upd_ne hb]; exact e)
end
structure StRep (K : PySem.W.Frag) (B G : Hp) (s : DSt) (σ : L2.St) (H : Hp) : Prop where
  bH : Same B H
  gH : Same G H
  dj : ∀ a o, B a = some o → G a = none
  tb : TbOk K B G H
  len : s.length = σ.length
  sh : ∀ (i : Nat) d, s[i]? = some (.sh d) → ∃ v, σ[i]? = some (some v) ∧ Rep K G d v
  ow : ∀ (i : Nat) d, s[i]? = some (.ow d) → ∃ a o, σ[i]? = some (some (.ref a)) ∧ G a = none ∧ B a = none ∧ H a = some o ∧ Top K G H d (.ref a) ∧ ownable d = true
  ap : ∀ (i j : Nat) d e a, s[i]? = some (.ow d) → s[j]? = some (.ow e) → σ[i]? = some (some (.ref a)) → σ[j]? = some (some (.ref a)) → i = j
/-- the result of an expression -/
def RRep (K : PySem.W.Frag) (B G H : Hp) (s : DSt) (σ : L2.St) : Sl → V → Prop
  | .no, _ => False
  | .sh d, v => Rep K G d v
  | .ow d, v => ∃ p o, v = .ref p ∧ G p = none ∧ B p = none ∧ H p = some o ∧ Top K G H d (.ref p) ∧ ownable d = true ∧ ∀ (i : Nat) e, s[i]? = some (.ow e) → σ[i]? ≠ some (some (.ref p))
def frz : Sl → D
  | .no => .non
  | .sh d => d
  | .ow d => d
/-- from (G, H) to (G', H'): both grow, what is new in G' was free in H -/
structure Gr (G H G' H' : Hp) : Prop where
  g : Same G G'
  h : Same H H'
  gh : Same G' H'
  fr : ∀ a o, G' a = some o → (∃ o', G a = some o') ∨ H a = none
  nt : ∀ a ps, G' a = some (.tbl ps) → G a = some (.tbl ps)
theorem Gr.refl {G H : Hp} (e : Same G H) : Gr G H G H := ⟨.refl _, .refl _, e, fun a o q => .inl ⟨o, q⟩, fun _ _ q => q⟩
/-- the result of an operation that changes nothing -/
def NRep (K : PySem.W.Frag) (G' H' H : Hp) : Sl → V → Prop
  | .no, _ => False
  | .sh d, v => Rep K G' d v
  | .ow d, v => ∃ p o, v = .ref p ∧ H p = none ∧ G' p = none ∧ H' p = some o ∧ Top K G' H' d (.ref p) ∧ ownable d = true
section
variable {K : PySem.W.Frag} {B G H G' H' : Hp} {s : DSt} {σ : L2.St}
theorem StRep.grow (S : StRep K B G s σ H) (g : Gr G H G' H') : StRep K B G' s σ H' := by
  have nw : ∀ a o, H a = some o → G a = none → G' a = none := fun a o e n => by
    cases q : G' a with
    | none => rfl
    | some u =>
      rcases g.fr a u q with ⟨o', z⟩ | z
      · rw [n] at z; cases z
      · rw [e] at z; cases z
  refine ⟨S.bH.trans g.h, g.gh, fun a o e => nw a o (S.bH a o e) (S.dj a o e), ⟨S.tb.nB, fun p hp => (by obtain ⟨ps, h⟩ := S.tb.at_ hp; exact nw _ _ h (S.tb.nG p hp)), fun a ps q => S.tb.tG a ps (g.nt a ps q), S.tb.tB, S.tb.ok.ext g.h⟩, S.len, fun i d e => ?_, fun i d e => ?_, S.ap⟩
  · obtain ⟨v, h1, h2⟩ := S.sh i d e
    exact ⟨v, h1, Rep.mono g.g _ _ h2⟩
  · obtain ⟨a, o, h1, h2, h3, h4, h5, h6⟩ := S.ow i d e
    exact ⟨a, o, h1, nw a o h4 h2, h3, g.h _ _ h4, Top.mono g.g g.h h5, h6⟩
theorem StRep.res (S : StRep K B G s σ H) (g : Gr G H G' H') {r : Sl} {v : V} (n : NRep K G' H' H r v) : RRep K B G' H' s σ r v := by
  cases r with
  | no => exact n
  | sh d => exact n
  | ow d =>
    obtain ⟨p, o, h1, h2, h3, h4, h5, h6⟩ := n
    refine ⟨p, o, h1, h3, ?_, h4, h5, h6, fun i e q z => ?_⟩
    · cases q : B p with
      | none => rfl
      | some u => have := S.bH p u q; rw [h2] at this; cases this
    · obtain ⟨a, o, y1, y2, y3, y4, y5, y6⟩ := S.ow i e q
      rw [z] at y1
      cases y1
      rw [h2] at y4
      cases y4
/-- an owned result is frozen -/
theorem RRep.freeze (S : StRep K B G s σ H) {r : Sl} {v : V} (h : RRep K B G H s σ r v) : ∃ G', StRep K B G' s σ H ∧ Same G G' ∧ Rep K G' (frz r) v := by
  cases r with
  | no => exact h.elim
  | sh d => exact ⟨G, S, .refl _, h⟩
  | ow d =>
    obtain ⟨p, o, rfl, h2, h3, h4, h5, h6, h7⟩ := h
    have sm : Same G (upd G p o) := fun b u q => by rw [upd_ne (ne_of_none q h2)]; exact q
    refine ⟨upd G p o, ⟨S.bH, fun b u q => ?_, fun a u e => ?_, S.tb.putG h4 (own_tbl h4 h5 h6), S.len, fun i d e => ?_, fun i d e => ?_, S.ap⟩, sm, Top.frz h2 h4 h6 h5⟩
    · by_cases hb : b = p
      · subst hb; rw [upd_same] at q; cases q; exact h4
      · rw [upd_ne hb] at q; exact S.gH b u q
    · rw [upd_ne (ne_of_none e h3)]; exact S.dj a u e
    · obtain ⟨v, y1, y2⟩ := S.sh i d e
      exact ⟨v, y1, Rep.mono sm _ _ y2⟩
    · obtain ⟨a, o', y1, y2, y3, y4, y5, y6⟩ := S.ow i d e
      have ne : a ≠ p := fun z => by subst z; exact h7 i d e y1
      exact ⟨a, o', y1, by rw [upd_ne ne]; exact y2, y3, y4, Top.mono sm (.refl _) y5, y6⟩
theorem getElem?_lt {α : Type} {l : List α} {i : Nat} {x : α} (h : l[i]? = some x) : i < l.length := (List.getElem?_eq_some_iff.mp h).1
/-- a slot is set to a value -/
theorem StRep.set (S : StRep K B G s σ H) {r : Sl} {v : V} (h : RRep K B G H s σ r v) (i : Nat) : StRep K B G (s.set i r) (σ.set i (some v)) H := by
  refine ⟨S.bH, S.gH, S.dj, S.tb, by rw [List.length_set, List.length_set]; exact S.len, fun j d e => ?_, fun j d e => ?_, fun j k d e a h1 h2 h3 h4 => ?_⟩
  · by_cases hj : i = j
    · subst hj
      have hi := getElem?_lt e
      rw [List.length_set] at hi
      rw [List.getElem?_set_self hi] at e
      cases e
      exact ⟨v, by rw [List.getElem?_set_self (by rw [← S.len]; exact hi)], h⟩
    · rw [List.getElem?_set_ne hj] at e
      rw [List.getElem?_set_ne hj]
      exact S.sh j d e
  · by_cases hj : i = j
    · subst hj
      have hi := getElem?_lt e
      rw [List.length_set] at hi
      rw [List.getElem?_set_self hi] at e
      cases e
      obtain ⟨p, o, rfl, h2, h3, h4, h5, h6, h7⟩ := h
      exact ⟨p, o, by rw [List.getElem?_set_self (by rw [← S.len]; exact hi)], h2, h3, h4, h5, h6⟩
    · rw [List.getElem?_set_ne hj] at e
      rw [List.getElem?_set_ne hj]
      exact S.ow j d e
  · by_cases hj : i = j
    · by_cases hk : i = k
      · exact hj.symm.trans hk
      · subst hj
        have hi := getElem?_lt h1
        rw [List.length_set] at hi
        rw [List.getElem?_set_self hi] at h1
        cases h1
        rw [List.getElem?_set_self (by rw [← S.len]; exact hi)] at h3
        rw [List.getElem?_set_ne hk] at h2 h4
        obtain ⟨p, o, e1, _, _, _, _, _, h7⟩ := h
        cases e1
        cases h3
        exact absurd h4 (h7 k e h2)
    · by_cases hk : i = k
      · subst hk
        have hi := getElem?_lt h2
        rw [List.length_set] at hi
        rw [List.getElem?_set_self hi] at h2
        cases h2
        rw [List.getElem?_set_self (by rw [← S.len]; exact hi)] at h4
        rw [List.getElem?_set_ne hj] at h1 h3
        obtain ⟨p, o, e1, _, _, _, _, _, h7⟩ := h
        cases e1
        cases h4
        exact absurd h3 (h7 j d h1)
      · rw [List.getElem?_set_ne hj] at h1 h3
        rw [List.getElem?_set_ne hk] at h2 h4
        exact S.ap j k d e a h1 h2 h3 h4
/-- the content of a slot -/
def content (s : DSt) (i : Nat) : Option D := match s[i]? with
  | some (.sh d) => some d
  | some (.ow d) => some d
  | _ => none
theorem content_some {i : Nat} {d : D} (h : content s i = some d) : s[i]? = some (.sh d) ∨ s[i]? = some (.ow d) := by
  unfold content at h
  split at h
  · rename_i e; cases h; exact .inl e
  · rename_i e; cases h; exact .inr e
  · cases h
theorem StRep.look (S : StRep K B G s σ H) {i : Nat} {d : D} (h : content s i = some d) : ∃ v, σ[i]? = some (some v) ∧ Top K G H d v := by
  rcases content_some h with e | e
  · obtain ⟨v, h1, h2⟩ := S.sh i d e
    exact ⟨v, h1, Rep.top S.gH h2⟩
  · obtain ⟨a, o, h1, h2, h3, h4, h5, h6⟩ := S.ow i d e
    exact ⟨_, h1, h5⟩
/-- an owned slot is frozen in its place -/
theorem StRep.frzSlot (S : StRep K B G s σ H) {i : Nat} {d : D} (h : s[i]? = some (.ow d)) : ∃ G' v, StRep K B G' (s.set i (.sh d)) σ H ∧ Same G G' ∧ σ[i]? = some (some v) ∧ Rep K G' d v := by
  obtain ⟨p, o, h1, h2, h3, h4, h5, h6⟩ := S.ow i d h
  have sm : Same G (upd G p o) := fun b u q => by rw [upd_ne (ne_of_none q h2)]; exact q
  have rp := Top.frz h2 h4 h6 h5
  have hi := getElem?_lt h
  refine ⟨upd G p o, .ref p, ⟨S.bH, fun b u q => ?_, fun a u e => ?_, S.tb.putG h4 (own_tbl h4 h5 h6), by rw [List.length_set]; exact S.len, fun j e q => ?_, fun j e q => ?_, fun j k e f a q1 q2 q3 q4 => ?_⟩, sm, h1, rp⟩
  · by_cases hb : b = p
    · subst hb; rw [upd_same] at q; cases q; exact h4
    · rw [upd_ne hb] at q; exact S.gH b u q
  · rw [upd_ne (ne_of_none e h3)]; exact S.dj a u e
  · by_cases hj : i = j
    · subst hj
      rw [List.getElem?_set_self hi] at q
      cases q
      exact ⟨_, h1, rp⟩
    · rw [List.getElem?_set_ne hj] at q
      obtain ⟨v, y1, y2⟩ := S.sh j e q
      exact ⟨v, y1, Rep.mono sm _ _ y2⟩
  · by_cases hj : i = j
    · subst hj
      rw [List.getElem?_set_self hi] at q
      cases q
    · rw [List.getElem?_set_ne hj] at q
      obtain ⟨a, o', y1, y2, y3, y4, y5, y6⟩ := S.ow j e q
      have ne : a ≠ p := fun z => by subst z; exact hj (S.ap i j d e _ h q h1 y1)
      exact ⟨a, o', y1, by rw [upd_ne ne]; exact y2, y3, y4, Top.mono sm (.refl _) y5, y6⟩
  · have fw : ∀ {l : Nat} {x : D}, (s.set i (.sh d))[l]? = some (.ow x) → s[l]? = some (.ow x) := fun {l x} z => by
      by_cases hl : i = l
      · subst hl; rw [List.getElem?_set_self hi] at z; cases z
      · rw [List.getElem?_set_ne hl] at z; exact z
    exact S.ap j k e f a (fw q1) (fw q2) q3 q4
/-- a slot is emptied -/
theorem StRep.clear (S : StRep K B G s σ H) (i : Nat) : StRep K B G (s.set i .no) σ H := by
  have f : ∀ {l : Nat} {x : Sl}, (s.set i .no)[l]? = some x → x ≠ .no → s[l]? = some x := fun {l x} z n => by
    by_cases hl : i = l
    · subst hl
      have hi := getElem?_lt z
      rw [List.length_set] at hi
      rw [List.getElem?_set_self hi] at z
      cases z
      exact absurd rfl n
    · rw [List.getElem?_set_ne hl] at z; exact z
  exact ⟨S.bH, S.gH, S.dj, S.tb, by rw [List.length_set]; exact S.len, fun j d e => S.sh j d (f e (by intro q; cases q)), fun j d e => S.ow j d (f e (by intro q; cases q)), fun j k d e a h1 h2 => S.ap j k d e a (f h1 (by intro q; cases q)) (f h2 (by intro q; cases q))⟩
end
end DL

namespace DL
variable [TB]
open PySem PySem.Spec PyProof.Rows L2
/-! ### transformers over data -/
abbrev DE := DSt → (Sl → DSt → Prop) → Prop
abbrev DT := DSt → (Bool → DSt → Prop) → Prop
/-- an operand: a datum, or a slot that is read when the operation comes -/
inductive Op where
  | val (d : D) | var (i : Nat)
abbrev DO := DSt → (Op → DSt → Prop) → Prop
abbrev DA := DSt → (List Op → DSt → Prop) → Prop
def ORep (K : PySem.W.Frag) (G : Hp) (σ : L2.St) : Op → V → Prop
  | .val d, v => Rep K G d v
  | .var i, v => σ[i]? = some (some v)
def OReps (K : PySem.W.Frag) (G : Hp) (σ : L2.St) : List Op → List V → Prop
  | [], vs => vs = []
  | o :: os, vs => ∃ v r, vs = v :: r ∧ ORep K G σ o v ∧ OReps K G σ os r
def resO (s : DSt) : Op → Option D
  | .val d => some d
  | .var i => content s i
def resOs (s : DSt) : List Op → Option (List D)
  | [] => some []
  | o :: os => match resO s o, resOs s os with
    | some d, some ds => some (d :: ds)
    | _, _ => none
def Tops (K : PySem.W.Frag) (G H : Hp) : List D → List V → Prop
  | [], vs => vs = []
  | d :: ds, vs => ∃ v r, vs = v :: r ∧ Top K G H d v ∧ Tops K G H ds r
section
variable {K : PySem.W.Frag} {B G G' H H' : Hp} {s : DSt} {σ : L2.St}
theorem ORep.mono (e : Same G G') {o : Op} {v : V} (h : ORep K G σ o v) : ORep K G' σ o v := by
  cases o with
  | val d => exact Rep.mono e _ _ h
  | var i => exact h
theorem OReps.mono (e : Same G G') : ∀ {os : List Op} {vs : List V}, OReps K G σ os vs → OReps K G' σ os vs
  | [], vs, h => h
  | o :: os, vs, h => by obtain ⟨v, r, h1, h2, h3⟩ := h; exact ⟨v, r, h1, h2.mono e, OReps.mono e h3⟩
theorem ORep.top (S : StRep K B G s σ H) {o : Op} {v : V} {d : D} (h : ORep K G σ o v) (e : resO s o = some d) : Top K G H d v := by
  cases o with
  | val d' => cases e; exact Rep.top S.gH h
  | var i =>
    obtain ⟨u, h1, h2⟩ := S.look e
    rw [show σ[i]? = some (some v) from h] at h1
    cases h1
    exact h2
theorem OReps.tops (S : StRep K B G s σ H) : ∀ {os : List Op} {vs : List V} {ds : List D}, OReps K G σ os vs → resOs s os = some ds → Tops K G H ds vs
  | [], vs, ds, h, e => by cases e; exact h
  | o :: os, vs, ds, h, e => by
    obtain ⟨v, r, h1, h2, h3⟩ := h
    unfold resOs at e
    cases e1 : resO s o with
    | none => rw [e1] at e; cases e
    | some d =>
      cases e2 : resOs s os with
      | none => rw [e1, e2] at e; cases e
      | some ds' =>
        rw [e1, e2] at e
        cases e
        exact ⟨v, r, h1, h2.top S e1, OReps.tops S h3 e2⟩
end
/-! ### lifts -/
def lift (K : PySem.W.Frag) (w : DE) : TE := fun σ H Q => ∃ B G s R, StRep K B G s σ H ∧ w s R ∧ ∀ r s' G' H' v, StRep K B G' s' σ H' → Same G G' → RRep K B G' H' s' σ r v → R r s' → Q v H'
def liftT (K : PySem.W.Frag) (w : DT) : TT := fun σ H Q => ∃ B G s R, StRep K B G s σ H ∧ w s R ∧ ∀ b s' G' H', StRep K B G' s' σ H' → Same G G' → R b s' → Q b H'
def liftO (K : PySem.W.Frag) (w : DO) : TE := fun σ H Q => ∃ B G s R, StRep K B G s σ H ∧ w s R ∧ ∀ o s' G' H' v, StRep K B G' s' σ H' → Same G G' → ORep K G' σ o v → R o s' → Q v H'
def liftA (K : PySem.W.Frag) (w : DA) : TA := fun σ H Q => ∃ B G s R, StRep K B G s σ H ∧ w s R ∧ ∀ os s' G' H' vs, StRep K B G' s' σ H' → Same G G' → OReps K G' σ os vs → R os s' → Q vs H'
theorem pe_mono {X : Cx} {e : Expr} {t t' : TE} (h : PE X e t) (m : ∀ σ H Q, t' σ H Q → t σ H Q) : PE X e t' := ⟨fun pins s σ H Q I q => h.run pins s σ H Q I (m σ H Q q)⟩
theorem pt_mono {X : Cx} {e : Expr} {t t' : TT} (h : PT X e t) (m : ∀ σ H Q, t' σ H Q → t σ H Q) : PT X e t' := ⟨fun pins s σ H Q I q => h.run pins s σ H Q I (m σ H Q q)⟩
theorem pw_mono {X : Cx} {e : Expr} {t t' : TT} (h : PW X e t) (m : ∀ σ H Q, t' σ H Q → t σ H Q) : PW X e t' := ⟨fun wh pins s σ H Q I q => h.run wh pins s σ H Q I (m σ H Q q)⟩
theorem pa_mono {X : Cx} {es : List Expr} {t t' : TA} (h : PA X es t) (m : ∀ σ H Q, t' σ H Q → t σ H Q) : PA X es t' := ⟨fun p pins s σ H Q I q => h.run p pins s σ H Q I (m σ H Q q)⟩
theorem pk_mono {X : Cx} {es : List Keyword} {t t' : TA} (h : PK X es t) (m : ∀ σ H Q, t' σ H Q → t σ H Q) : PK X es t' := ⟨fun p pins s σ H Q I q => h.run p pins s σ H Q I (m σ H Q q)⟩
theorem ps_mono {X : Cx} {e : Stmt} {t t' : TS} (h : PS X e t) (m : ∀ D σ H, t' D σ H → t D σ H) : PS X e t' := ⟨fun pins s σ H D I q => h.run pins s σ H D I (m D σ H q)⟩
theorem pss_mono {X : Cx} {e : List Stmt} {t t' : TS} (h : PSs X e t) (m : ∀ D σ H, t' D σ H → t D σ H) : PSs X e t' := ⟨fun pins s σ H D I q => h.run pins s σ H D I (m D σ H q)⟩
theorem pi_mono {X : Cx} {tg e : Expr} {t t' : TI} (h : PI X tg e t) (m : ∀ σ H Q, t' σ H Q → t σ H Q) : PI X tg e t' := ⟨fun pins s σ H Q I q => h.run pins s σ H Q I (m σ H Q q)⟩
theorem po_mono {X : Cx} {e : Option Expr} {t t' : TO} (h : PO X e t) (m : ∀ σ H Q, t' σ H Q → t σ H Q) : PO X e t' := ⟨fun pins s σ H Q I q => h.run pins s σ H Q I (m σ H Q q)⟩
/-! ### operands -/
/-- what a result is as an operand -/
def asOp (w : DE) : DO := fun s R => w s fun r s' => R (.val (frz r)) s'
def varOp (i : Nat) : DO := fun s R => (content s i).isSome = true ∧ R (.var i) s
def wNil : DA := fun s R => R [] s
def wCons (a : DO) (b : DA) : DA := fun s R => a s fun o s1 => b s1 fun os s2 => R (o :: os) s2
section
variable {K : PySem.W.Frag} {σ : L2.St} {H : Hp}
theorem lift_asOp {w : DE} {Q : VK} (h : liftO K (asOp w) σ H Q) : lift K w σ H Q := by
  obtain ⟨B, G, s, R, S, hw, k⟩ := h
  refine ⟨B, G, s, _, S, hw, fun r s' G' H' v S' sm rr q => ?_⟩
  obtain ⟨G2, S2, sm2, rep⟩ := rr.freeze S'
  exact k (.val (frz r)) s' G2 H' v S2 (sm.trans sm2) rep q
theorem lift_varOp {i : Nat} {Q : VK} (h : liftO K (varOp i) σ H Q) : tVar i σ H Q := by
  obtain ⟨B, G, s, R, S, ⟨hc, hw⟩, k⟩ := h
  cases e : content s i with
  | none => rw [e] at hc; cases hc
  | some d =>
    obtain ⟨v, h1, h2⟩ := S.look e
    exact ⟨v, h1, k (.var i) s G H v S (.refl _) h1 hw⟩
theorem lift_nil {Q : List V → Hp → Prop} (h : liftA K wNil σ H Q) : tNil σ H Q := by
  obtain ⟨B, G, s, R, S, hw, k⟩ := h
  exact k [] s G H [] S (.refl _) rfl hw
theorem lift_cons {a : DO} {b : DA} {Q : List V → Hp → Prop} (h : liftA K (wCons a b) σ H Q) : tCons (liftO K a) (liftA K b) σ H Q := by
  obtain ⟨B, G, s, R, S, hw, k⟩ := h
  refine ⟨B, G, s, _, S, hw, fun o s1 G1 H1 v S1 sm1 o1 q1 => ?_⟩
  refine ⟨B, G1, s1, _, S1, q1, fun os s2 G2 H2 vs S2 sm2 o2 q2 => ?_⟩
  exact k (o :: os) s2 G2 H2 _ S2 (sm1.trans sm2) ⟨v, vs, rfl, o1.mono sm2, o2⟩ q2
/-! ### operations that change nothing -/
abbrev BS := List D → (Sl → Prop) → Prop
def BOk (K : PySem.W.Frag) (r : List V → Hp → VK → Prop) (f : BS) : Prop := ∀ (G H : Hp) (ds : List D) (vs : List V) (R : Sl → Prop) (Q : VK), Same G H → Tops K G H ds vs → f ds R →
  (∀ res v G' H', Gr G H G' H' → NRep K G' H' H res v → R res → Q v H') → r vs H Q
abbrev B2 := D → D → (Sl → Prop) → Prop
def OpOk (K : PySem.W.Frag) (r : R2) (f : B2) : Prop := ∀ (G H : Hp) (d e : D) (x y : V) (R : Sl → Prop) (Q : VK), Same G H → Top K G H d x → Top K G H e y → f d e R →
  (∀ res v G' H', Gr G H G' H' → NRep K G' H' H res v → R res → Q v H') → r x y H Q
abbrev B1 := D → (Sl → Prop) → Prop
def UnOk (K : PySem.W.Frag) (r : V → Hp → VK → Prop) (f : B1) : Prop := ∀ (G H : Hp) (d : D) (x : V) (R : Sl → Prop) (Q : VK), Same G H → Top K G H d x → f d R →
  (∀ res v G' H', Gr G H G' H' → NRep K G' H' H res v → R res → Q v H') → r x H Q
def wFn (f : BS) (wos : DA) : DE := fun s R => wos s fun os s' => match resOs s' os with
  | some ds => f ds fun r => R r s'
  | none => False
def wOp (f : B2) (a b : DO) : DE := fun s R => a s fun o1 s1 => b s1 fun o2 s2 => match resO s2 o1, resO s2 o2 with
  | some d1, some d2 => f d1 d2 fun r => R r s2
  | _, _ => False
def wUn (f : B1) (a : DO) : DE := fun s R => a s fun o1 s1 => match resO s1 o1 with
  | some d1 => f d1 fun r => R r s1
  | _ => False
theorem lift_fn {r : List V → Hp → VK → Prop} {f : BS} (ok : BOk K r f) {wos : DA} {Q : VK} (h : lift K (wFn f wos) σ H Q) : tCB r (liftA K wos) σ H Q := by
  obtain ⟨B, G, s, R, S, hw, k⟩ := h
  refine ⟨B, G, s, _, S, hw, fun os s1 G1 H1 vs S1 sm1 o1 q1 => ?_⟩
  cases e : resOs s1 os with
  | none => rw [e] at q1; exact q1.elim
  | some ds =>
    rw [e] at q1
    exact ok G1 H1 ds vs _ _ S1.gH (o1.tops S1 e) q1 fun res v G' H' g n q => k res s1 G' H' v (S1.grow g) (sm1.trans g.g) (S1.res g n) q
theorem lift_op {r : R2} {f : B2} (ok : OpOk K r f) {a b : DO} {Q : VK} (h : lift K (wOp f a b) σ H Q) : tOp r (liftO K a) (liftO K b) σ H Q := by
  obtain ⟨B, G, s, R, S, hw, k⟩ := h
  refine ⟨B, G, s, _, S, hw, fun o s1 G1 H1 v S1 sm1 o1 q1 => ?_⟩
  refine ⟨B, G1, s1, _, S1, q1, fun p s2 G2 H2 u S2 sm2 o2 q2 => ?_⟩
  cases e : resO s2 o with
  | none => rw [e] at q2; exact q2.elim
  | some d =>
    cases e2 : resO s2 p with
    | none => rw [e, e2] at q2; exact q2.elim
    | some d2 =>
      rw [e, e2] at q2
      exact ok G2 H2 d d2 v u _ _ S2.gH ((o1.mono sm2).top S2 e) (o2.top S2 e2) q2 fun res v G' H' g n q => k res s2 G' H' v (S2.grow g) ((sm1.trans sm2).trans g.g) (S2.res g n) q
theorem lift_un {r : V → Hp → VK → Prop} {f : B1} (ok : UnOk K r f) {a : DO} {Q : VK} (h : lift K (wUn f a) σ H Q) : tUn r (liftO K a) σ H Q := by
  obtain ⟨B, G, s, R, S, hw, k⟩ := h
  refine ⟨B, G, s, _, S, hw, fun o s1 G1 H1 v S1 sm1 o1 q1 => ?_⟩
  cases e : resO s1 o with
  | none => rw [e] at q1; exact q1.elim
  | some d =>
    rw [e] at q1
    exact ok G1 H1 d v _ _ S1.gH (o1.top S1 e) q1 fun res v G' H' g n q => k res s1 G' H' v (S1.grow g) (sm1.trans g.g) (S1.res g n) q
/-! ### constants, names -/
def wC (d : D) : DE := fun s R => R (.sh d) s
theorem lift_c {d : D} {v : V} (h : ∀ G, Rep K G d v) {Q : VK} (hw : lift K (wC d) σ H Q) : tC v σ H Q := by
  obtain ⟨B, G, s, R, S, hw, k⟩ := hw
  exact k (.sh d) s G H v S (.refl _) (h G) hw
/-- a name's value: an owned object is frozen by it -/
def wVar (i : Nat) : DE := fun s R => match s[i]? with
  | some (.sh d) => R (.sh d) s
  | some (.ow d) => R (.sh d) (s.set i (.sh d))
  | _ => False
theorem lift_var {i : Nat} {Q : VK} (hw : lift K (wVar i) σ H Q) : tVar i σ H Q := by
  obtain ⟨B, G, s, R, S, hw, k⟩ := hw
  unfold wVar at hw
  split at hw
  · rename_i d e
    obtain ⟨v, h1, h2⟩ := S.sh i d e
    exact ⟨v, h1, k (.sh d) s G H v S (.refl _) h2 hw⟩
  · rename_i d e
    obtain ⟨G', v, S', sm, h1, h2⟩ := S.frzSlot e
    exact ⟨v, h1, k (.sh d) _ G' H v S' sm h2 hw⟩
  · exact hw.elim
/-! ### tests -/
def wNot (w : DT) : DT := fun s R => w s fun b s' => R (!b) s'
def wAnd (w u : DT) : DT := fun s R => w s fun b s' => if b = true then u s' R else R false s'
def wOr (w u : DT) : DT := fun s R => w s fun b s' => if b = true then R true s' else u s' R
theorem lift_not {w : DT} {Q : Bool → Hp → Prop} (h : liftT K (wNot w) σ H Q) : tNot (liftT K w) σ H Q := by
  obtain ⟨B, G, s, R, S, hw, k⟩ := h
  exact ⟨B, G, s, _, S, hw, fun b s1 G1 H1 S1 sm1 q1 => k (!b) s1 G1 H1 S1 sm1 q1⟩
theorem lift_and {w u : DT} {Q : Bool → Hp → Prop} (h : liftT K (wAnd w u) σ H Q) : tAnd (liftT K w) (liftT K u) σ H Q := by
  obtain ⟨B, G, s, R, S, hw, k⟩ := h
  refine ⟨B, G, s, _, S, hw, fun b s1 G1 H1 S1 sm1 q1 => ?_⟩
  cases b with
  | true => exact iteT ⟨B, G1, s1, _, S1, q1, fun b s2 G2 H2 S2 sm2 q2 => k b s2 G2 H2 S2 (sm1.trans sm2) q2⟩
  | false => exact iteF (k false s1 G1 H1 S1 sm1 q1)
theorem lift_or {w u : DT} {Q : Bool → Hp → Prop} (h : liftT K (wOr w u) σ H Q) : tOr (liftT K w) (liftT K u) σ H Q := by
  obtain ⟨B, G, s, R, S, hw, k⟩ := h
  refine ⟨B, G, s, _, S, hw, fun b s1 G1 H1 S1 sm1 q1 => ?_⟩
  cases b with
  | true => exact iteT (k true s1 G1 H1 S1 sm1 q1)
  | false => exact iteF ⟨B, G1, s1, _, S1, q1, fun b s2 G2 H2 S2 sm2 q2 => k b s2 G2 H2 S2 (sm1.trans sm2) q2⟩
/-- truth -/
def truD : D → (Bool → Prop) → Prop
  | .non, Q => Q false
  | .bl b, Q => Q b
  | .int i, Q => Q (i != 0)
  | .str y, Q => y.length ≤ sizeLine ∧ Q ((y.length : Int) != 0)
  | .lst xs, Q => Q (!xs.isEmpty)
  | .klst xs, Q => Q (!xs.isEmpty)
  | .tup xs, Q => Q (!xs.isEmpty)
  | .ftup xs, Q => Q (!xs.isEmpty)
  | .pin _ xs, Q => Q (!xs.isEmpty)
  | .dic ks _, Q => Q (!ks.isEmpty)
  | _, _ => False
theorem truD_ok {G H : Hp} {d : D} {v : V} {R : Bool → Prop} (sm : Same G H) (t : Top K G H d v) (h : truD d R) : ∃ k, TruV K v H k ∧ R k := by
  cases d with
  | non => cases (show v = .non from t); exact ⟨false, rfl, h⟩
  | bl b => cases (show v = .bl b from t); exact ⟨b, rfl, h⟩
  | int i => cases (show v = .int i from t); exact ⟨_, rfl, h⟩
  | str y => cases (show v = .str y from t); exact ⟨_, ⟨h.1, rfl⟩, h.2⟩
  | lst xs =>
    obtain ⟨a, vs, rfl, h2, h3⟩ := t
    exact ⟨_, .inl ⟨vs, .of h2, rfl⟩, by rw [h3.isEmpty]; exact h⟩
  | pin a xs =>
    obtain ⟨a, vs, rfl, h2, h3⟩ := pin_lst t
    exact ⟨_, .inl ⟨vs, .of h2, rfl⟩, by rw [h3.isEmpty]; exact h⟩
  | klst xs =>
    obtain ⟨a, vs, rfl, h2, h3⟩ := t
    exact ⟨_, .inl ⟨vs, Same.seq sm h2, rfl⟩, by rw [h3.isEmpty]; exact h⟩
  | tup xs =>
    obtain ⟨a, vs, rfl, h2, h3⟩ := t
    exact ⟨_, .inr (.inl ⟨vs, Same.tup sm h2, rfl⟩), by rw [h3.isEmpty]; exact h⟩
  | ftup xs =>
    obtain ⟨a, vs, rfl, h2, h3⟩ := ftup_tup t
    exact ⟨_, .inr (.inl ⟨vs, Same.tup sm h2, rfl⟩), by rw [h3.isEmpty]; exact h⟩
  | dic ks xs =>
    obtain ⟨a, kvs, rfl, h2, h4, h3⟩ := t
    refine ⟨_, .inr (.inr ⟨kvs, h2, rfl⟩), ?_⟩
    have e : kvs.isEmpty = ks.isEmpty := by rw [← h4]; cases kvs <;> rfl
    rw [e]
    exact h
  | _ => exact h.elim
def wTru (a : DO) : DT := fun s R => a s fun o s1 => match resO s1 o with
  | some d => truD d fun b => R b s1
  | none => False
theorem lift_tru {a : DO} {Q : Bool → Hp → Prop} (h : liftT K (wTru a) σ H Q) : (fun (σ : L2.St) (H : Hp) (Q : Bool → Hp → Prop) => liftO K a σ H fun x H' => ∃ k, TruV K x H' k ∧ Q k H') σ H Q := by
  obtain ⟨B, G, s, R, S, hw, k⟩ := h
  refine ⟨B, G, s, _, S, hw, fun o s1 G1 H1 v S1 sm1 o1 q1 => ?_⟩
  cases e : resO s1 o with
  | none => rw [e] at q1; exact q1.elim
  | some d =>
    rw [e] at q1
    obtain ⟨b, t, q⟩ := truD_ok S1.gH (o1.top S1 e) q1
    exact ⟨b, t, k b s1 G1 H1 S1 sm1 q⟩
/-- a test that is a value True or False -/
def wBool (w : DE) : DT := fun s R => w s fun r s' => match r with
  | .sh (.bl b) => R b s'
  | _ => False
theorem lift_bool {w : DE} {Q : Bool → Hp → Prop} (h : liftT K (wBool w) σ H Q) : tB (lift K w) σ H Q := by
  obtain ⟨B, G, s, R, S, hw, k⟩ := h
  refine ⟨B, G, s, _, S, hw, fun r s1 G1 H1 v S1 sm1 r1 q1 => ?_⟩
  split at q1
  · rename_i b
    exact ⟨b, r1, k b s1 G1 H1 S1 sm1 q1⟩
  · exact q1.elim
/-- x and y, x or y as values -/
def wAndV (a b : DE) : DE := fun s R => a s fun r s1 => truD (frz r) fun k => if k = true then b s1 R else R (.sh (frz r)) s1
def wOrV (a b : DE) : DE := fun s R => a s fun r s1 => truD (frz r) fun k => if k = true then R (.sh (frz r)) s1 else b s1 R
def wNotV (a : DE) : DE := fun s R => a s fun r s1 => truD (frz r) fun k => R (.sh (.bl (!k))) s1
theorem lift_andV {a b : DE} {Q : VK} (h : lift K (wAndV a b) σ H Q) : tAndT K (lift K a) (lift K b) σ H Q := by
  obtain ⟨B, G, s, R, S, hw, k⟩ := h
  refine ⟨B, G, s, _, S, hw, fun r s1 G1 H1 v S1 sm1 r1 q1 => ?_⟩
  obtain ⟨G2, S2, sm2, rep⟩ := r1.freeze S1
  obtain ⟨c, t, q⟩ := truD_ok S2.gH (Rep.top S2.gH rep) q1
  refine ⟨c, t, ?_⟩
  cases c with
  | true => exact iteT ⟨B, G2, s1, _, S2, q, fun r s2 G3 H2 v S3 sm3 r2 q2 => k r s2 G3 H2 v S3 ((sm1.trans sm2).trans sm3) r2 q2⟩
  | false => exact iteF (k (.sh (frz r)) s1 G2 H1 v S2 (sm1.trans sm2) rep q)
theorem lift_orV {a b : DE} {Q : VK} (h : lift K (wOrV a b) σ H Q) : tOrT K (lift K a) (lift K b) σ H Q := by
  obtain ⟨B, G, s, R, S, hw, k⟩ := h
  refine ⟨B, G, s, _, S, hw, fun r s1 G1 H1 v S1 sm1 r1 q1 => ?_⟩
  obtain ⟨G2, S2, sm2, rep⟩ := r1.freeze S1
  obtain ⟨c, t, q⟩ := truD_ok S2.gH (Rep.top S2.gH rep) q1
  refine ⟨c, t, ?_⟩
  cases c with
  | false => exact iteF ⟨B, G2, s1, _, S2, q, fun r s2 G3 H2 v S3 sm3 r2 q2 => k r s2 G3 H2 v S3 ((sm1.trans sm2).trans sm3) r2 q2⟩
  | true => exact iteT (k (.sh (frz r)) s1 G2 H1 v S2 (sm1.trans sm2) rep q)
theorem lift_notV {a : DE} {Q : VK} (h : lift K (wNotV a) σ H Q) : tNotT K (lift K a) σ H Q := by
  obtain ⟨B, G, s, R, S, hw, k⟩ := h
  refine ⟨B, G, s, _, S, hw, fun r s1 G1 H1 v S1 sm1 r1 q1 => ?_⟩
  obtain ⟨G2, S2, sm2, rep⟩ := r1.freeze S1
  obtain ⟨c, t, q⟩ := truD_ok S2.gH (Rep.top S2.gH rep) q1
  exact ⟨c, t, k (.sh (.bl (!c))) s1 G2 H1 _ S2 (sm1.trans sm2) rfl q⟩
/-- a if t else b -/
def wIte (t : DT) (a b : DE) : DE := fun s R => t s fun c s1 => if c = true then a s1 R else b s1 R
theorem lift_ite {t : DT} {a b : DE} {Q : VK} (h : lift K (wIte t a b) σ H Q) : tIf (liftT K t) (lift K a) (lift K b) σ H Q := by
  obtain ⟨B, G, s, R, S, hw, k⟩ := h
  refine ⟨B, G, s, _, S, hw, fun c s1 G1 H1 S1 sm1 q1 => ?_⟩
  cases c with
  | true => exact iteT ⟨B, G1, s1, _, S1, q1, fun r s2 G2 H2 v S2 sm2 r2 q2 => k r s2 G2 H2 v S2 (sm1.trans sm2) r2 q2⟩
  | false => exact iteF ⟨B, G1, s1, _, S1, q1, fun r s2 G2 H2 v S2 sm2 r2 q2 => k r s2 G2 H2 v S2 (sm1.trans sm2) r2 q2⟩
/-! ### displays -/
def wVs (l : List DE) : DSt → (List D → DSt → Prop) → Prop := match l with
  | [] => fun s R => R [] s
  | a :: l => fun s R => a s fun r s1 => wVs l s1 fun ds s2 => R (frz r :: ds) s2
/-- values, frozen, from the left -/
def liftV (K : PySem.W.Frag) (w : DSt → (List D → DSt → Prop) → Prop) : TA := fun σ H Q => ∃ B G s R, StRep K B G s σ H ∧ w s R ∧ ∀ ds s' G' H' vs, StRep K B G' s' σ H' → Same G G' → Reps K G' ds vs → R ds s' → Q vs H'
def wVNil : DSt → (List D → DSt → Prop) → Prop := fun s R => R [] s
def wVCons (a : DE) (b : DSt → (List D → DSt → Prop) → Prop) : DSt → (List D → DSt → Prop) → Prop := fun s R => a s fun r s1 => b s1 fun ds s2 => R (frz r :: ds) s2
theorem lift_vnil {Q : List V → Hp → Prop} (h : liftV K wVNil σ H Q) : tNil σ H Q := by
  obtain ⟨B, G, s, R, S, hw, k⟩ := h
  exact k [] s G H [] S (.refl _) rfl hw
theorem lift_vcons {a : DE} {b : DSt → (List D → DSt → Prop) → Prop} {Q : List V → Hp → Prop} (h : liftV K (wVCons a b) σ H Q) : tCons (lift K a) (liftV K b) σ H Q := by
  obtain ⟨B, G, s, R, S, hw, k⟩ := h
  refine ⟨B, G, s, _, S, hw, fun r s1 G1 H1 v S1 sm1 r1 q1 => ?_⟩
  obtain ⟨G2, S2, sm2, rep⟩ := r1.freeze S1
  refine ⟨B, G2, s1, _, S2, q1, fun ds s2 G3 H2 vs S3 sm3 o2 q2 => ?_⟩
  exact k _ s2 G3 H2 _ S3 ((sm1.trans sm2).trans sm3) (.cons (Rep.mono sm3 _ _ rep) o2) q2
/-- a new object that is laid -/
theorem Gr.laid {G H : Hp} {p : Addr} {o : HO} (e : Same G H) (n : H p = none) : Gr G H G (upd H p o) :=
  ⟨.refl _, fun b u q => by rw [upd_ne (ne_of_none q n)]; exact q, fun b u q => by rw [upd_ne (ne_of_none (e _ _ q) n)]; exact e _ _ q, fun a u q => .inl ⟨u, q⟩, fun _ _ q => q⟩
theorem Gr.laidG {G H : Hp} {p : Addr} {o : HO} (e : Same G H) (n : H p = none) (nt : ∀ ps, o ≠ .tbl ps := by intro ps z; cases z) : Gr G H (upd G p o) (upd H p o) := by
  have gn : G p = none := by
    cases q : G p with
    | none => rfl
    | some u => have := e _ _ q; rw [n] at this; cases this
  refine ⟨fun b u q => by rw [upd_ne (ne_of_none q gn)]; exact q, fun b u q => by rw [upd_ne (ne_of_none q n)]; exact q, fun b u q => ?_, fun a u q => ?_, fun a ps q => ?_⟩
  · by_cases hb : b = p
    · subst hb; rw [upd_same] at q ⊢; exact q
    · rw [upd_ne hb] at q ⊢; exact e _ _ q
  · by_cases hb : a = p
    · subst hb; exact .inr n
    · rw [upd_ne hb] at q; exact .inl ⟨u, q⟩
  · by_cases hb : a = p
    · subst hb; rw [upd_same] at q; cases q; exact absurd rfl (nt ps)
    · rw [upd_ne hb] at q; exact q
theorem free_of {G H : Hp} {p : Addr} (e : Same G H) (n : H p = none) : G p = none := by
  cases q : G p with
  | none => rfl
  | some u => have := e _ _ q; rw [n] at this; cases this
theorem NRep.lst {G H : Hp} {p : Addr} {ds : List D} {vs : List V} (e : Same G H) (n : H p = none) (r : Reps K G ds vs) : NRep K G (upd H p (.lst vs)) H (.ow (.lst ds)) (.ref p) :=
  ⟨p, _, rfl, n, free_of e n, upd_same, ⟨p, vs, rfl, upd_same, r⟩, rfl⟩
theorem NRep.tup {G H : Hp} {p : Addr} {ds : List D} {vs : List V} (e : Same G H) (n : H p = none) (r : Reps K G ds vs) : NRep K (upd G p (.tup vs)) (upd H p (.tup vs)) H (.sh (.tup ds)) (.ref p) :=
  ⟨p, vs, rfl, .of upd_same, Reps.mono (Gr.laidG e n).g _ _ r⟩
def wLst (w : DSt → (List D → DSt → Prop) → Prop) : DE := fun s R => w s fun ds s' => ds.length ≤ sizeLine ∧ R (.ow (.lst ds)) s'
def wTup (w : DSt → (List D → DSt → Prop) → Prop) : DE := fun s R => w s fun ds s' => ds.length ≤ sizeLine ∧ R (.sh (.tup ds)) s'
theorem lift_lst {w : DSt → (List D → DSt → Prop) → Prop} {Q : VK} (h : lift K (wLst w) σ H Q) : tLst (liftV K w) σ H Q := by
  obtain ⟨B, G, s, R, S, hw, k⟩ := h
  refine ⟨B, G, s, _, S, hw, fun ds s1 G1 H1 vs S1 sm1 r1 q1 => ⟨by rw [r1.length]; exact q1.1, fun p n => ?_⟩⟩
  have g : Gr G1 H1 G1 (upd H1 p (.lst vs)) := Gr.laid S1.gH n
  exact k _ s1 _ _ _ (S1.grow g) sm1 (S1.res g (NRep.lst S1.gH n r1)) q1.2
theorem lift_tup {w : DSt → (List D → DSt → Prop) → Prop} {Q : VK} (h : lift K (wTup w) σ H Q) : tTup (liftV K w) σ H Q := by
  obtain ⟨B, G, s, R, S, hw, k⟩ := h
  refine ⟨B, G, s, _, S, hw, fun ds s1 G1 H1 vs S1 sm1 r1 q1 => ⟨by rw [r1.length]; exact q1.1, fun p n => ?_⟩⟩
  have g : Gr G1 H1 (upd G1 p (.tup vs)) (upd H1 p (.tup vs)) := Gr.laidG S1.gH n
  exact k _ s1 _ _ _ (S1.grow g) (sm1.trans g.g) (S1.res g (NRep.tup S1.gH n r1)) q1.2
end
end DL

namespace DL
variable [TB]
open PySem PySem.Spec PyProof.Rows L2
/-! ### rules by values joined -/
theorem opr_or {X : Cx} {f : Value → Value → Sem Value} {r r' : R2} (h : OpR X f r) (h' : OpR X f r') : OpR X f (fun x y H Q => r x y H Q ∨ r' x y H Q) := by
  intro pins s σ H x y v u Q I rx ry q
  rcases q with q | q
  · exact h pins s σ H x y v u Q I rx ry q
  · exact h' pins s σ H x y v u Q I rx ry q
theorem opr_mono {X : Cx} {f : Value → Value → Sem Value} {r r' : R2} (h : OpR X f r) (m : ∀ x y H Q, r' x y H Q → r x y H Q) : OpR X f r' := fun pins s σ H x y v u Q I rx ry q => h pins s σ H x y v u Q I rx ry (m x y H Q q)
section
variable {K : PySem.W.Frag} {G H : Hp}
/-- a plain datum as a result -/
theorem ret_sh (sm : Same G H) {R : Sl → Prop} {Q : VK} {d : D} {v : V} (k : ∀ res v G' H', Gr G H G' H' → NRep K G' H' H res v → R res → Q v H') (r : Rep K G d v) (h : R (.sh d)) : Q v H := k (.sh d) v G H (.refl sm) r h
theorem ret_lst (sm : Same G H) {R : Sl → Prop} {Q : VK} {ds : List D} {vs : List V} (k : ∀ res v G' H', Gr G H G' H' → NRep K G' H' H res v → R res → Q v H') (r : Reps K G ds vs) (h : R (.ow (.lst ds))) {p : Addr} (n : H p = none) : Q (.ref p) (upd H p (.lst vs)) := k _ _ G _ (Gr.laid sm n) (NRep.lst sm n r) h
theorem ret_tup (sm : Same G H) {R : Sl → Prop} {Q : VK} {ds : List D} {vs : List V} (k : ∀ res v G' H', Gr G H G' H' → NRep K G' H' H res v → R res → Q v H') (r : Reps K G ds vs) (h : R (.sh (.tup ds))) {p : Addr} (n : H p = none) : Q (.ref p) (upd H p (.tup vs)) := k _ _ _ _ (Gr.laidG sm n) (NRep.tup sm n r) h
end
/-! ### arithmetic -/
def rAddAll (K : PySem.W.Frag) : R2 := fun x y H Q => (∃ i j, x = .int i ∧ y = .int j ∧ Q (.int (i + j)) H) ∨ ((∃ i j, x = .str i ∧ y = .str j ∧ i.length + j.length ≤ sizeLine ∧ Q (.str (i ++ j)) H) ∨ (rCat x y H Q ∨ rCatA K x y H Q))
theorem op_addAll {X : Cx} : OpR X (binaryOp .Add) (rAddAll X.K) := opr_or op_add (opr_or op_add_str (opr_or op_cat op_catA))
def addD : B2
  | .int i, .int j, R => R (.sh (.int (i + j)))
  | .str x, .str y, R => x.length + y.length ≤ sizeLine ∧ R (.sh (.str (x ++ y)))
  | .lst xs, .lst ys, R => xs.length + ys.length ≤ sizeLine ∧ R (.ow (.lst (xs ++ ys)))
  | .tup xs, .tup ys, R => xs.length + ys.length ≤ sizeLine ∧ R (.sh (.tup (xs ++ ys)))
  | .ftup xs, .ftup ys, R => xs.length + ys.length ≤ sizeLine ∧ R (.sh (.tup (xs ++ ys)))
  | .ftup xs, .tup ys, R => xs.length + ys.length ≤ sizeLine ∧ R (.sh (.tup (xs ++ ys)))
  | .tup xs, .ftup ys, R => xs.length + ys.length ≤ sizeLine ∧ R (.sh (.tup (xs ++ ys)))
  | _, _, _ => False
def subD : B2
  | .int i, .int j, R => R (.sh (.int (i - j)))
  | _, _, _ => False
def mulD : B2
  | .int i, .int j, R => (CMul i j ∨ CMulW i j) ∧ R (.sh (.int (i * j)))
  | .lst xs, .int k, R => (-(2 ^ 63) ≤ k ∧ k < 2 ^ 63 ∧ xs.length * k.toNat ≤ sizeLine) ∧ R (.ow (.lst (List.replicate k.toNat xs).flatten))
  | .tup xs, .int k, R => (xs ≠ [] ∧ 2 ≤ k ∧ k ≤ 1000 ∧ xs.length ≤ 1000) ∧ R (.sh (.tup (List.replicate k.toNat xs).flatten))
  | _, _, _ => False
def fdivD : B2
  | .int i, .int j, R => CDivW i j ∧ R (.sh (.int (i / j)))
  | _, _, _ => False
def modD : B2
  | .int i, .int j, R => 0 < j ∧ R (.sh (.int (i % j)))
  | _, _, _ => False
def powD : B2
  | .int i, .int j, R => CPow i j ∧ R (.sh (.int (i ^ j.toNat)))
  | _, _, _ => False
def binD : Operator → B2
  | .Add => addD
  | .Sub => subD
  | .Mult => mulD
  | .FloorDiv => fdivD
  | .Mod => modD
  | .Pow => powD
  | _ => fun _ _ _ => False
def negD : B1
  | .int i, R => R (.sh (.int (-i)))
  | _, _ => False
section
variable {K : PySem.W.Frag}
theorem addD_ok : OpOk K (rAddAll K) addD := by
  intro G H d e x y R Q sm tx ty h k
  unfold addD at h
  split at h
  · rename_i i j
    cases (show x = .int i from tx); cases (show y = .int j from ty)
    exact .inl ⟨i, j, rfl, rfl, ret_sh sm k (d := .int (i + j)) rfl h⟩
  · rename_i i j
    cases (show x = .str i from tx); cases (show y = .str j from ty)
    exact .inr (.inl ⟨i, j, rfl, rfl, h.1, ret_sh sm k (d := .str (i ++ j)) rfl h.2⟩)
  · rename_i xs ys
    obtain ⟨a, vs, rfl, h2, h3⟩ := tx
    obtain ⟨b, us, rfl, y2, y3⟩ := ty
    exact .inr (.inr (.inl ⟨a, b, vs, us, rfl, rfl, h2, y2, by rw [h3.length, y3.length]; exact h.1, fun p n => ret_lst sm k (h3.append y3) h.2 n⟩))
  · rename_i xs ys
    obtain ⟨a, vs, rfl, h2, h3⟩ := tx
    obtain ⟨b, us, rfl, y2, y3⟩ := ty
    refine .inr (.inr (.inr ⟨a, b, vs, us, rfl, rfl, Same.tup sm h2, Same.tup sm y2, by rw [h3.length, y3.length]; exact h.1, fun e => ?_, fun e1 e2 => ?_, fun e1 e2 p n => ret_tup sm k (h3.append y3) h.2 n⟩))
    · subst e
      have ex : xs = [] := List.eq_nil_of_length_eq_zero h3.length.symm
      subst ex
      exact ret_sh sm k (d := .tup ([] ++ ys)) ⟨b, us, rfl, y2, y3⟩ h.2
    · subst e2
      have ex : ys = [] := List.eq_nil_of_length_eq_zero y3.length.symm
      subst ex
      exact ret_sh sm k (d := .tup (xs ++ [])) ⟨a, vs, rfl, h2, by rw [List.append_nil]; exact h3⟩ h.2
  · rename_i xs ys
    obtain ⟨a, vs, rfl, h2, h3⟩ := ftup_tup tx
    obtain ⟨b, us, rfl, y2, y3⟩ := ftup_tup ty
    refine .inr (.inr (.inr ⟨a, b, vs, us, rfl, rfl, Same.tup sm h2, Same.tup sm y2, by rw [h3.length, y3.length]; exact h.1, fun e => ?_, fun e1 e2 => ?_, fun e1 e2 p n => ret_tup sm k (h3.append y3) h.2 n⟩))
    · subst e
      have ex : xs = [] := List.eq_nil_of_length_eq_zero h3.length.symm
      subst ex
      exact ret_sh sm k (d := .tup ([] ++ ys)) ⟨b, us, rfl, y2, y3⟩ h.2
    · subst e2
      have ex : ys = [] := List.eq_nil_of_length_eq_zero y3.length.symm
      subst ex
      exact ret_sh sm k (d := .tup (xs ++ [])) ⟨a, vs, rfl, h2, by rw [List.append_nil]; exact h3⟩ h.2
  · rename_i xs ys
    obtain ⟨a, vs, rfl, h2, h3⟩ := ftup_tup tx
    obtain ⟨b, us, rfl, y2, y3⟩ := ty
    refine .inr (.inr (.inr ⟨a, b, vs, us, rfl, rfl, Same.tup sm h2, Same.tup sm y2, by rw [h3.length, y3.length]; exact h.1, fun e => ?_, fun e1 e2 => ?_, fun e1 e2 p n => ret_tup sm k (h3.append y3) h.2 n⟩))
    · subst e
      have ex : xs = [] := List.eq_nil_of_length_eq_zero h3.length.symm
      subst ex
      exact ret_sh sm k (d := .tup ([] ++ ys)) ⟨b, us, rfl, y2, y3⟩ h.2
    · subst e2
      have ex : ys = [] := List.eq_nil_of_length_eq_zero y3.length.symm
      subst ex
      exact ret_sh sm k (d := .tup (xs ++ [])) ⟨a, vs, rfl, h2, by rw [List.append_nil]; exact h3⟩ h.2
  · rename_i xs ys
    obtain ⟨a, vs, rfl, h2, h3⟩ := tx
    obtain ⟨b, us, rfl, y2, y3⟩ := ftup_tup ty
    refine .inr (.inr (.inr ⟨a, b, vs, us, rfl, rfl, Same.tup sm h2, Same.tup sm y2, by rw [h3.length, y3.length]; exact h.1, fun e => ?_, fun e1 e2 => ?_, fun e1 e2 p n => ret_tup sm k (h3.append y3) h.2 n⟩))
    · subst e
      have ex : xs = [] := List.eq_nil_of_length_eq_zero h3.length.symm
      subst ex
      exact ret_sh sm k (d := .tup ([] ++ ys)) ⟨b, us, rfl, y2, y3⟩ h.2
    · subst e2
      have ex : ys = [] := List.eq_nil_of_length_eq_zero y3.length.symm
      subst ex
      exact ret_sh sm k (d := .tup (xs ++ [])) ⟨a, vs, rfl, h2, by rw [List.append_nil]; exact h3⟩ h.2
  · exact h.elim
theorem subD_ok : OpOk K (rI0 fun i j => .int (i - j)) subD := by
  intro G H d e x y R Q sm tx ty h k
  unfold subD at h
  split at h
  · rename_i i j
    cases (show x = .int i from tx); cases (show y = .int j from ty)
    exact ⟨i, j, rfl, rfl, ret_sh sm k (d := .int (i - j)) rfl h⟩
  · exact h.elim
def rMulAll (K : PySem.W.Frag) : R2 := fun x y H Q => (rI CMul (fun i j => .int (i * j)) x y H Q ∨ rI CMulW (fun i j => .int (i * j)) x y H Q) ∨ (rRep x y H Q ∨ rRepT K x y H Q)
theorem op_mulAll {X : Cx} : OpR X (binaryOp .Mult) (rMulAll X.K) := opr_or (opr_or op_mul op_mulW) (opr_or op_rep op_repT)
theorem reps_rep {G : Hp} {ds : List D} {vs : List V} (r : Reps K G ds vs) : ∀ n : Nat, Reps K G (List.replicate n ds).flatten (List.replicate n vs).flatten
  | 0 => rfl
  | n + 1 => by
    rw [List.replicate_succ, List.replicate_succ, List.flatten_cons, List.flatten_cons]
    exact r.append (reps_rep r n)
theorem mulD_ok : OpOk K (rMulAll K) mulD := by
  intro G H d e x y R Q sm tx ty h k
  unfold mulD at h
  split at h
  · rename_i i j
    cases (show x = .int i from tx); cases (show y = .int j from ty)
    rcases h with ⟨h | h, q⟩
    · exact .inl (.inl ⟨i, j, rfl, rfl, h, ret_sh sm k (d := .int (i * j)) rfl q⟩)
    · exact .inl (.inr ⟨i, j, rfl, rfl, h, ret_sh sm k (d := .int (i * j)) rfl q⟩)
  · rename_i xs n
    obtain ⟨a, vs, rfl, h2, h3⟩ := tx
    cases (show y = .int n from ty)
    obtain ⟨⟨q1, q2, q3⟩, q⟩ := h
    exact .inr (.inl ⟨a, n, vs, rfl, rfl, h2, q1, q2, by rw [h3.length]; exact q3, fun p np => ret_lst sm k (reps_rep h3 _) q np⟩)
  · rename_i xs n
    obtain ⟨a, vs, rfl, h2, h3⟩ := tx
    cases (show y = .int n from ty)
    obtain ⟨⟨q0, q1, q2, q3⟩, q⟩ := h
    exact .inr (.inr ⟨a, n, vs, rfl, rfl, Same.tup sm h2, (fun e => q0 (by have l := h3.length; rw [e] at l; exact List.length_eq_zero_iff.mp l.symm)), q1, q2, by rw [h3.length]; exact q3, fun p np => ret_tup sm k (reps_rep h3 _) q np⟩)
  · exact h.elim
theorem fdivD_ok : OpOk K (rI CDivW fun i j => .int (i / j)) fdivD := by
  intro G H d e x y R Q sm tx ty h k
  unfold fdivD at h
  split at h
  · rename_i i j
    cases (show x = .int i from tx); cases (show y = .int j from ty)
    exact ⟨i, j, rfl, rfl, h.1, ret_sh sm k (d := .int (i / j)) rfl h.2⟩
  · exact h.elim
theorem modD_ok : OpOk K (rI (fun _ j => 0 < j) fun i j => .int (i % j)) modD := by
  intro G H d e x y R Q sm tx ty h k
  unfold modD at h
  split at h
  · rename_i i j
    cases (show x = .int i from tx); cases (show y = .int j from ty)
    exact ⟨i, j, rfl, rfl, h.1, ret_sh sm k (d := .int (i % j)) rfl h.2⟩
  · exact h.elim
theorem powD_ok : OpOk K (rI CPow fun i j => .int (i ^ j.toNat)) powD := by
  intro G H d e x y R Q sm tx ty h k
  unfold powD at h
  split at h
  · rename_i i j
    cases (show x = .int i from tx); cases (show y = .int j from ty)
    exact ⟨i, j, rfl, rfl, h.1, ret_sh sm k (d := .int (i ^ j.toNat)) rfl h.2⟩
  · exact h.elim
theorem negD_ok : UnOk K (rU fun i => .int (-i)) negD := by
  intro G H d x R Q sm tx h k
  unfold negD at h
  split at h
  · rename_i i
    cases (show x = .int i from tx)
    exact ⟨i, rfl, ret_sh sm k (d := .int (-i)) rfl h⟩
  · exact h.elim
/-- every binary operator -/
theorem binD_ok (X : Cx) (o : Operator) : ∃ r, OpR X (binaryOp o) r ∧ OpOk X.K r (binD o) := by
  have bad : ∃ r : R2, OpR X (binaryOp o) r ∧ OpOk X.K r (fun _ _ _ => False) := ⟨fun _ _ _ _ => False, fun _ _ _ _ _ _ _ _ _ _ _ _ q => q.elim, fun _ _ _ _ _ _ _ _ _ _ _ q _ => q.elim⟩
  cases o with
  | Add => exact ⟨_, op_addAll, addD_ok⟩
  | Sub => exact ⟨_, op_sub, subD_ok⟩
  | Mult => exact ⟨_, op_mulAll, mulD_ok⟩
  | FloorDiv => exact ⟨_, op_fdivW, fdivD_ok⟩
  | Mod => exact ⟨_, op_mod, modD_ok⟩
  | Pow => exact ⟨_, op_pow, powD_ok⟩
  | _ => exact bad
end
/-! ### data as the model's own -/
mutual
def toP : D → Option PyData
  | .non => some .none
  | .bl b => some (.bool b)
  | .int i => some (.int i)
  | .str s => some (.str s)
  | .lst xs => (toPs xs).map .list
  | .klst xs => (toPs xs).map .list
  | .tup xs => (toPs xs).map .tuple
  | .ftup xs => (toPs xs).map .tuple
  | _ => none
def toPs : List D → Option (List PyData)
  | [] => some []
  | d :: ds => match toP d, toPs ds with
    | some p, some ps => some (p :: ps)
    | _, _ => none
end
section
variable {K : PySem.W.Frag} {G H : Hp}
theorem map_some {α β : Type} {f : α → β} {o : Option α} {y : β} (h : o.map f = some y) : ∃ x, o = some x ∧ f x = y := Option.map_eq_some_iff.mp h
mutual
theorem Rep.dp (sm : Same G H) : ∀ (d : D) (v : V) (p : PyData), toP d = some p → Rep K G d v → Dp K H v p
  | .non, v, p, e, h => by cases e; cases (show v = .non from h); exact .non
  | .bl b, v, p, e, h => by cases e; cases (show v = .bl b from h); exact .bl b
  | .int i, v, p, e, h => by cases e; cases (show v = .int i from h); exact .int i
  | .str s, v, p, e, h => by cases e; cases (show v = .str s from h); exact .str s
  | .lst xs, v, p, e, h => by
    obtain ⟨ps, e1, rfl⟩ := map_some (show (toPs xs).map .list = some p from e)
    obtain ⟨a, vs, rfl, h2, h3⟩ := h
    exact .lst (.of (sm _ _ h2)) (Reps.dp sm xs vs ps e1 h3)
  | .klst xs, v, p, e, h => by
    obtain ⟨ps, e1, rfl⟩ := map_some (show (toPs xs).map .list = some p from e)
    obtain ⟨a, vs, rfl, h2, h3⟩ := h
    exact .lst (Same.seq sm h2) (Reps.dp sm xs vs ps e1 h3)
  | .tup xs, v, p, e, h => by
    obtain ⟨ps, e1, rfl⟩ := map_some (show (toPs xs).map .tuple = some p from e)
    obtain ⟨a, vs, rfl, h2, h3⟩ := h
    exact .tup (Same.tup sm h2) (Reps.dp sm xs vs ps e1 h3)
  | .pin _ _, v, p, e, h => by cases e
  | .ftup xs, v, p, e, h => by
    obtain ⟨ps, e1, rfl⟩ := map_some (show (toPs xs).map .tuple = some p from e)
    obtain ⟨a, vs, rfl, h2, h3⟩ := ftup_tup h
    exact .tup (Same.tup sm h2) (Reps.dp sm xs vs ps e1 h3)
  | .dic _ _, v, p, e, h => by cases e
  | .ins _ _ _, v, p, e, h => by cases e
  | .ty _, v, p, e, h => by cases e
  | .gl _, v, p, e, h => by cases e
theorem Reps.dp (sm : Same G H) : ∀ (ds : List D) (vs : List V) (ps : List PyData), toPs ds = some ps → Reps K G ds vs → DpAll K H vs ps
  | [], vs, ps, e, h => by cases e; cases (show vs = [] from h); exact .nil
  | d :: ds, vs, ps, e, h => by
    obtain ⟨v, r, rfl, h2, h3⟩ := h
    unfold toPs at e
    cases e1 : toP d with
    | none => rw [e1] at e; cases e
    | some p =>
      cases e2 : toPs ds with
      | none => rw [e1, e2] at e; cases e
      | some qs =>
        rw [e1, e2] at e
        cases e
        exact .cons (Rep.dp sm d v p e1 h2) (Reps.dp sm ds r qs e2 h3)
end
theorem Top.dp (sm : Same G H) {d : D} {v : V} {p : PyData} (e : toP d = some p) (h : Top K G H d v) : Dp K H v p := by
  cases d with
  | lst xs =>
    obtain ⟨ps, e1, rfl⟩ := map_some (show (toPs xs).map .list = some p from e)
    obtain ⟨a, vs, rfl, h2, h3⟩ := h
    exact .lst (.of h2) (Reps.dp sm xs vs ps e1 h3)
  | dic ks xs => cases e
  | pin a xs => cases e
  | ins C ns xs => cases e
  | _ => exact Rep.dp sm _ v p e h
end
/-! ### comparisons -/
def eqDD (d e : D) (Q : Bool → Prop) : Prop := match toP d, toP e with
  | some p, some q => (SeqAt.shaped p = true ∧ SeqAt.shaped q = true) ∧ Q (PyData.eqv p q)
  | _, _ => False
def eqD : D → D → (Bool → Prop) → Prop
  | .str x, .str y, Q => Q (x == y)
  | .str _, .int _, Q => Q false
  | .int _, .str _, Q => Q false
  | .str _, .bl _, Q => Q false
  | .bl _, .str _, Q => Q false
  | .str _, .non, Q => Q false
  | .non, .str _, Q => Q false
  | d, e, Q => eqDD d e Q
/-- the order of data of like shapes -/
def ordD (f : PyData → PyData → Bool) (d e : D) (Q : Bool → Prop) : Prop := match toP d, toP e with
  | some p, some q => (SeqAt.shaped p = true ∧ SeqAt.shaped q = true ∧ PySem.W.alike p q = true ∧ p ≠ .none) ∧ Q (f p q)
  | _, _ => False
def ltD : D → D → (Bool → Prop) → Prop
  | .int i, .int j, Q => Q (decide (i < j))
  | d, e, Q => ordD PySem.W.dataLt d e Q
def gtD : D → D → (Bool → Prop) → Prop
  | .int i, .int j, Q => Q (decide (j < i))
  | d, e, Q => ordD (fun p q => PySem.W.dataLt q p) d e Q
def leD : D → D → (Bool → Prop) → Prop
  | .int i, .int j, Q => Q (decide (i ≤ j))
  | d, e, Q => ordD (fun p q => !PySem.W.dataLt q p) d e Q
def geD : D → D → (Bool → Prop) → Prop
  | .int i, .int j, Q => Q (decide (j ≤ i))
  | d, e, Q => ordD (fun p q => !PySem.W.dataLt p q) d e Q
def isNon : D → Bool
  | .non => true
  | _ => false
def inStr (x y : Str) (Q : Bool → Prop) : Prop := match x.cps.toList with
  | [c] => Q (decide (c ∈ y.cps.toList))
  | _ => Q (!(Builtin.Str.occurrences y x 0 y.length 1).isEmpty)
def flatD : D → Bool
  | .non => true
  | .bl _ => true
  | .int _ => true
  | .str _ => true
  | _ => false
def eqF : D → D → Bool
  | .non, .non => true
  | .bl a, .bl b => a == b
  | .bl a, .int b => (if a then 1 else 0) == b
  | .int a, .bl b => a == (if b then 1 else 0)
  | .int a, .int b => a == b
  | .str a, .str b => a == b
  | _, _ => false
def keyD : D → Option Key
  | .int i => some (.inl i)
  | .str s => some (.inr s)
  | _ => none
/-- in a tuple: flat items, or data of any depth -/
def inT (d : D) (xs : List D) (Q : Bool → Prop) : Prop := ((flatD d = true ∧ xs.all flatD = true) ∧ Q (xs.any fun y => eqF y d)) ∨ (match toP d, toPs xs with
    | some p, some qs => (SeqAt.shaped p = true ∧ SeqAt.shaped (.tuple qs) = true) ∧ Q (qs.any fun z => PyData.eqv z p)
    | _, _ => False)
def inD : D → D → (Bool → Prop) → Prop
  | .str x, .str y, Q => inStr x y Q
  | d, .lst xs, Q => (match toP d, toPs xs with
    | some p, some qs => (SeqAt.shaped p = true ∧ SeqAt.shaped (.list qs) = true) ∧ Q (qs.any fun z => PyData.eqv z p)
    | _, _ => False)
  | d, .klst xs, Q => (match toP d, toPs xs with
    | some p, some qs => (SeqAt.shaped p = true ∧ SeqAt.shaped (.list qs) = true) ∧ Q (qs.any fun z => PyData.eqv z p)
    | _, _ => False)
  | d, .tup xs, Q => inT d xs Q
  | _, _, _ => False
def cmpD : CmpOp → D → D → (Bool → Prop) → Prop
  | .Eq, d, e, Q => eqD d e Q
  | .NotEq, d, e, Q => eqD d e fun b => Q (!b)
  | .Lt, d, e, Q => ltD d e Q
  | .LtE, d, e, Q => leD d e Q
  | .Gt, d, e, Q => gtD d e Q
  | .GtE, d, e, Q => geD d e Q
  | .Is, d, .non, Q => Q (isNon d)
  | .IsNot, d, .non, Q => Q (!isNon d)
  | .In, d, e, Q => inD d e Q
  | .NotIn, d, e, Q => inD d e fun b => Q (!b)
  | _, _, _, _ => False
def cmpB (o : CmpOp) : B2 := fun d e R => cmpD o d e fun b => R (.sh (.bl b))
section
variable {K : PySem.W.Frag}
def BlOk (K : PySem.W.Frag) (r : R2) (f : D → D → (Bool → Prop) → Prop) : Prop := ∀ (G H : Hp) (d e : D) (x y : V) (R : Bool → Prop) (Q : VK), Same G H → Top K G H d x → Top K G H e y → f d e R → (∀ b, R b → Q (.bl b) H) → r x y H Q
theorem BlOk.op {r : R2} {f : D → D → (Bool → Prop) → Prop} (ok : BlOk K r f) : OpOk K r (fun d e R => f d e fun b => R (.sh (.bl b))) := fun G H d e x y R Q sm tx ty h k =>
  ok G H d e x y _ Q sm tx ty h fun b q => ret_sh sm k (d := .bl b) rfl q
theorem eqDD_ok : BlOk K (rEqD K) eqDD := by
  intro G H d e x y R Q sm tx ty h k
  unfold eqDD at h
  split at h
  · rename_i p q e1 e2
    exact ⟨p, q, Top.dp sm e1 tx, Top.dp sm e2 ty, h.1.1, h.1.2, k _ h.2⟩
  · exact h.elim
theorem neDD_ok : BlOk K (rNeD K) (fun d e Q => eqDD d e fun b => Q (!b)) := by
  intro G H d e x y R Q sm tx ty h k
  unfold eqDD at h
  split at h
  · rename_i p q e1 e2
    exact ⟨p, q, Top.dp sm e1 tx, Top.dp sm e2 ty, h.1.1, h.1.2, k _ h.2⟩
  · exact h.elim
theorem eqD_ok : BlOk K (fun x y H Q => rEq x y H Q ∨ rEqD K x y H Q) eqD := by
  intro G H d e x y R Q sm tx ty h k
  unfold eqD at h
  split at h
  · rename_i a b
    cases (show x = .str a from tx); cases (show y = .str b from ty)
    refine .inl ⟨rfl, ?_⟩
    rw [dec_str]
    exact k _ h
  · cases tx; cases ty; exact .inl ⟨rfl, k false h⟩
  · cases tx; cases ty; exact .inl ⟨rfl, k false h⟩
  · cases tx; cases ty; exact .inl ⟨rfl, k false h⟩
  · cases tx; cases ty; exact .inl ⟨rfl, k false h⟩
  · cases tx; cases ty; exact .inl ⟨rfl, k false h⟩
  · cases tx; cases ty; exact .inl ⟨rfl, k false h⟩
  · exact .inr (eqDD_ok G H _ _ x y R Q sm tx ty h k)
theorem neD_ok : BlOk K (fun x y H Q => rNe x y H Q ∨ rNeD K x y H Q) (fun d e Q => eqD d e fun b => Q (!b)) := by
  intro G H d e x y R Q sm tx ty h k
  unfold eqD at h
  split at h
  · rename_i a b
    cases (show x = .str a from tx); cases (show y = .str b from ty)
    refine .inl ⟨rfl, ?_⟩
    rw [dec_str]
    exact k _ h
  · cases tx; cases ty; exact .inl ⟨rfl, k true h⟩
  · cases tx; cases ty; exact .inl ⟨rfl, k true h⟩
  · cases tx; cases ty; exact .inl ⟨rfl, k true h⟩
  · cases tx; cases ty; exact .inl ⟨rfl, k true h⟩
  · cases tx; cases ty; exact .inl ⟨rfl, k true h⟩
  · cases tx; cases ty; exact .inl ⟨rfl, k true h⟩
  · exact .inr (neDD_ok G H _ _ x y R Q sm tx ty h k)
/-- an order by data -/
def rOrd (K : PySem.W.Frag) (f : PyData → PyData → Bool) : R2 := fun x y H Q => ∃ d e, Dp K H x d ∧ Dp K H y e ∧ SeqAt.shaped d = true ∧ SeqAt.shaped e = true ∧ PySem.W.alike d e = true ∧ d ≠ .none ∧ Q (.bl (f d e)) H
theorem shaped_depth {p : PyData} (h : SeqAt.shaped p = true) : p.depth ≤ 64 := by
  unfold SeqAt.shaped at h
  rw [Bool.and_eq_true] at h
  exact of_decide_eq_true h.2
theorem op_ltD {X : Cx} (hu : X.A.units + 64 < cLine) : OpR X (compareOp .Lt) (rOrd X.K PySem.W.dataLt) := by
  intro pins s σ H x y v u Q I rx ry h
  obtain ⟨d, e, hd, he, sd, se, al, nn, q⟩ := h
  obtain ⟨as, r1⟩ := Dp.reads I d x v hd rx
  obtain ⟨bs, r2⟩ := Dp.reads I e y u he ry
  exact PySem.W.lt_data r1 r2 al nn (by have := shaped_depth sd; omega) ⟨.bl _, H, I, rfl, q⟩
theorem op_gtD {X : Cx} (hu : X.A.units + 64 < cLine) : OpR X (compareOp .Gt) (rOrd X.K fun p q => PySem.W.dataLt q p) := by
  intro pins s σ H x y v u Q I rx ry h
  obtain ⟨d, e, hd, he, sd, se, al, nn, q⟩ := h
  obtain ⟨as, r1⟩ := Dp.reads I d x v hd rx
  obtain ⟨bs, r2⟩ := Dp.reads I e y u he ry
  exact PySem.W.gt_data r1 r2 al nn (by have := shaped_depth sd; omega) ⟨.bl _, H, I, rfl, q⟩
theorem op_leD {X : Cx} (hu : X.A.units + 64 < cLine) : OpR X (compareOp .LtE) (rOrd X.K fun p q => !PySem.W.dataLt q p) := by
  intro pins s σ H x y v u Q I rx ry h
  obtain ⟨d, e, hd, he, sd, se, al, nn, q⟩ := h
  obtain ⟨as, r1⟩ := Dp.reads I d x v hd rx
  obtain ⟨bs, r2⟩ := Dp.reads I e y u he ry
  exact PySem.W.le_data r1 r2 al nn (by have := shaped_depth sd; omega) ⟨.bl _, H, I, rfl, q⟩
theorem op_geD {X : Cx} (hu : X.A.units + 64 < cLine) : OpR X (compareOp .GtE) (rOrd X.K fun p q => !PySem.W.dataLt p q) := by
  intro pins s σ H x y v u Q I rx ry h
  obtain ⟨d, e, hd, he, sd, se, al, nn, q⟩ := h
  obtain ⟨as, r1⟩ := Dp.reads I d x v hd rx
  obtain ⟨bs, r2⟩ := Dp.reads I e y u he ry
  exact PySem.W.ge_data r1 r2 al nn (by have := shaped_depth sd; omega) ⟨.bl _, H, I, rfl, q⟩
theorem ordD_ok (f : PyData → PyData → Bool) : BlOk K (rOrd K f) (ordD f) := by
  intro G H d e x y R Q sm tx ty h k
  unfold ordD at h
  split at h
  · rename_i p q e1 e2
    exact ⟨p, q, Top.dp sm e1 tx, Top.dp sm e2 ty, h.1.1, h.1.2.1, h.1.2.2.1, h.1.2.2.2, k _ h.2⟩
  · exact h.elim
/-- ints, or data -/
def rIO (K : PySem.W.Frag) (g : Int → Int → Bool) (f : PyData → PyData → Bool) : R2 := fun x y H Q => rI0 (fun i j => .bl (g i j)) x y H Q ∨ rOrd K f x y H Q
theorem io_ok {g : Int → Int → Bool} {f : PyData → PyData → Bool} {u : D → D → (Bool → Prop) → Prop} (h1 : ∀ i j Q, u (.int i) (.int j) Q = Q (g i j)) (h2 : ∀ d e Q, (∀ i j, ¬ (d = .int i ∧ e = .int j)) → u d e Q = ordD f d e Q) : BlOk K (rIO K g f) u := by
  intro G H d e x y R Q sm tx ty h k
  by_cases c : ∃ i j, d = .int i ∧ e = .int j
  · obtain ⟨i, j, rfl, rfl⟩ := c
    rw [h1] at h
    cases (show x = .int i from tx); cases (show y = .int j from ty)
    exact .inl ⟨i, j, rfl, rfl, k _ h⟩
  · rw [h2 d e R fun i j q => c ⟨i, j, q⟩] at h
    exact .inr (ordD_ok f G H d e x y R Q sm tx ty h k)
theorem ltD_ok : BlOk K (rIO K (fun i j => decide (i < j)) PySem.W.dataLt) ltD := io_ok (fun _ _ _ => rfl) fun d e Q n => by
  unfold ltD
  split
  · rename_i i j; exact absurd ⟨rfl, rfl⟩ (n i j)
  · rfl
theorem gtD_ok : BlOk K (rIO K (fun i j => decide (j < i)) fun p q => PySem.W.dataLt q p) gtD := io_ok (fun _ _ _ => rfl) fun d e Q n => by
  unfold gtD
  split
  · rename_i i j; exact absurd ⟨rfl, rfl⟩ (n i j)
  · rfl
theorem leD_ok : BlOk K (rIO K (fun i j => decide (i ≤ j)) fun p q => !PySem.W.dataLt q p) leD := io_ok (fun _ _ _ => rfl) fun d e Q n => by
  unfold leD
  split
  · rename_i i j; exact absurd ⟨rfl, rfl⟩ (n i j)
  · rfl
theorem geD_ok : BlOk K (rIO K (fun i j => decide (j ≤ i)) fun p q => !PySem.W.dataLt p q) geD := io_ok (fun _ _ _ => rfl) fun d e Q n => by
  unfold geD
  split
  · rename_i i j; exact absurd ⟨rfl, rfl⟩ (n i j)
  · rfl
theorem rep_non {G : Hp} {d : D} {v : V} (h : Top K G H d v) : decide (v = .non) = isNon d := by
  cases d with
  | non => cases (show v = .non from h); rfl
  | bl b => cases (show v = .bl b from h); rfl
  | int b => cases (show v = .int b from h); rfl
  | str b => cases (show v = .str b from h); rfl
  | ty b => cases (show v = .ty b from h); rfl
  | gl b => cases (show v = .ref b from h); rfl
  | lst xs => obtain ⟨a, vs, rfl, _⟩ := h; rfl
  | klst xs => obtain ⟨a, vs, rfl, _⟩ := h; rfl
  | tup xs => obtain ⟨a, vs, rfl, _⟩ := h; rfl
  | ftup xs => obtain ⟨a, vs, rfl, _⟩ := h; rfl
  | pin a xs => obtain ⟨rfl, _⟩ := h; rfl
  | dic ks xs => obtain ⟨a, vs, rfl, _⟩ := h; rfl
  | ins C ns xs => obtain ⟨a, dx, vs, rfl, _⟩ := h; rfl
theorem isD_ok : BlOk K (fun x y H Q => y = .non ∧ Q (.bl (decide (x = .non))) H) (fun d e Q => cmpD .Is d e Q) := by
  intro G H d e x y R Q sm tx ty h k
  unfold cmpD at h
  split at h <;> try exact h.elim
  all_goals first
    | (rename_i h1 h2; cases h1)
    | skip
  all_goals first
    | (cases (show y = .non from ty); exact ⟨rfl, by rw [rep_non tx]; exact k _ h⟩)
    | (rename_i z; cases z)
theorem isnotD_ok : BlOk K (fun x y H Q => y = .non ∧ Q (.bl (!decide (x = .non))) H) (fun d e Q => cmpD .IsNot d e Q) := by
  intro G H d e x y R Q sm tx ty h k
  unfold cmpD at h
  split at h <;> try exact h.elim
  all_goals first
    | (rename_i h1 h2; cases h1)
    | skip
  all_goals first
    | (cases (show y = .non from ty); exact ⟨rfl, by rw [rep_non tx]; exact k _ h⟩)
    | (rename_i z; cases z)
end
end DL

namespace DL
variable [TB]
open PySem PySem.Spec PyProof.Rows L2
section
variable {K : PySem.W.Frag}
/-! ### in -/
def rInAll (K : PySem.W.Frag) (g : Bool → Bool) : R2 := fun x y H Q =>
  (∃ (c : Nat) (z : Str), x = .str ⟨#[c]⟩ ∧ y = .str z ∧ Q (.bl (g (decide (c ∈ z.cps.toList)))) H) ∨ ((∃ i j, x = .str i ∧ y = .str j ∧ Q (.bl (g (!(Builtin.Str.occurrences j i 0 j.length 1).isEmpty))) H) ∨
  ((∃ d ds, Dp K H x d ∧ Dp K H y (.list ds) ∧ SeqAt.shaped d = true ∧ SeqAt.shaped (.list ds) = true ∧ Q (.bl (g (ds.any fun z => PyData.eqv z d))) H) ∨
  ((∃ d ds, Dp K H x d ∧ Dp K H y (.tuple ds) ∧ SeqAt.shaped d = true ∧ SeqAt.shaped (.tuple ds) = true ∧ Q (.bl (g (ds.any fun z => PyData.eqv z d))) H) ∨
  (∃ p xs, y = .ref p ∧ (SqL K H p xs ∨ SqT K H p xs) ∧ flatV x = true ∧ xs.all flatV = true ∧ Q (.bl (g (inV x xs))) H))))
theorem op_inTup {X : Cx} (hu : X.A.units + 65 < cLine) : OpR X (compareOp .In) (fun x y H Q => ∃ d ds, Dp X.K H x d ∧ Dp X.K H y (.tuple ds) ∧ SeqAt.shaped d = true ∧ SeqAt.shaped (.tuple ds) = true ∧ Q (.bl (id (ds.any fun z => PyData.eqv z d))) H) := by
  intro pins s σ H x y v u Q I rx ry h
  obtain ⟨d, ds, hd, he, sd, se, q⟩ := h
  obtain ⟨as, r1⟩ := Dp.reads I d x v hd rx
  obtain ⟨bs, r2⟩ := Dp.reads I (.tuple ds) y u he ry
  exact SeqAt.in_tuple_reads r2 r1 (SeqAt.canLay_of_shaped se) (SeqAt.canLay_of_shaped sd) (room_in_shaped sd hu) ⟨.bl _, H, I, rfl, q⟩
theorem op_notInTup {X : Cx} (hu : X.A.units + 65 < cLine) : OpR X (compareOp .NotIn) (fun x y H Q => ∃ d ds, Dp X.K H x d ∧ Dp X.K H y (.tuple ds) ∧ SeqAt.shaped d = true ∧ SeqAt.shaped (.tuple ds) = true ∧ Q (.bl (!(ds.any fun z => PyData.eqv z d))) H) := by
  intro pins s σ H x y v u Q I rx ry h
  obtain ⟨d, ds, hd, he, sd, se, q⟩ := h
  obtain ⟨as, r1⟩ := Dp.reads I d x v hd rx
  obtain ⟨bs, r2⟩ := Dp.reads I (.tuple ds) y u he ry
  exact SeqAt.notIn_tuple_reads r2 r1 (SeqAt.canLay_of_shaped se) (SeqAt.canLay_of_shaped sd) (room_in_shaped sd hu) ⟨.bl _, H, I, rfl, q⟩
theorem op_inAll {X : Cx} (hu : X.A.units + 65 < cLine) : OpR X (compareOp .In) (rInAll X.K id) :=
  opr_or op_in_sign (opr_or op_in_str (opr_or (op_inD hu) (opr_or (op_inTup hu) (opr_mono op_in_seq fun x y H Q h => h))))
theorem op_notInAll {X : Cx} (hu : X.A.units + 65 < cLine) : OpR X (compareOp .NotIn) (rInAll X.K (fun b => !b)) :=
  opr_or op_notIn_sign (opr_or op_notin_str (opr_or (op_notInD hu) (opr_or (op_notInTup hu) (opr_mono op_notIn_seq fun x y H Q h => h))))
theorem flat_v {G H : Hp} {d : D} {v : V} (f : flatD d = true) (t : Top K G H d v) : flatV v = true := by
  cases d with
  | non => cases (show v = .non from t); rfl
  | bl b => cases (show v = .bl b from t); rfl
  | int b => cases (show v = .int b from t); rfl
  | str b => cases (show v = .str b from t); rfl
  | _ => cases f
theorem flat_eq {G H : Hp} {d e : D} {v u : V} (f : flatD d = true) (f2 : flatD e = true) (t : Top K G H d v) (t2 : Top K G H e u) : eqV v u = eqF d e := by
  cases d with
  | non => cases (show v = .non from t); cases e with
    | non => cases (show u = .non from t2); rfl
    | bl b => cases (show u = .bl b from t2); rfl
    | int b => cases (show u = .int b from t2); rfl
    | str b => cases (show u = .str b from t2); rfl
    | _ => cases f2
  | bl b => cases (show v = .bl b from t); cases e with
    | non => cases (show u = .non from t2); rfl
    | bl b => cases (show u = .bl b from t2); rfl
    | int b => cases (show u = .int b from t2); rfl
    | str b => cases (show u = .str b from t2); rfl
    | _ => cases f2
  | int b => cases (show v = .int b from t); cases e with
    | non => cases (show u = .non from t2); rfl
    | bl b => cases (show u = .bl b from t2); rfl
    | int b => cases (show u = .int b from t2); rfl
    | str b => cases (show u = .str b from t2); rfl
    | _ => cases f2
  | str b => cases (show v = .str b from t); cases e with
    | non => cases (show u = .non from t2); rfl
    | bl b => cases (show u = .bl b from t2); rfl
    | int b => cases (show u = .int b from t2); rfl
    | str b => cases (show u = .str b from t2); rfl
    | _ => cases f2
  | _ => cases f
theorem flat_all {G : Hp} : ∀ {ds : List D} {vs : List V}, Reps K G ds vs → ds.all flatD = true → vs.all flatV = true
  | [], vs, h, _ => by cases (show vs = [] from h); rfl
  | d :: ds, vs, h, f => by
    obtain ⟨v, r, rfl, h2, h3⟩ := h
    rw [List.all_cons, Bool.and_eq_true] at f ⊢
    exact ⟨flat_v f.1 (Rep.top (.refl _) h2), flat_all h3 f.2⟩
theorem flat_any {G H : Hp} {d : D} {v : V} (sm : Same G H) (fd : flatD d = true) (t : Top K G H d v) : ∀ {ds : List D} {vs : List V}, Reps K G ds vs → ds.all flatD = true → inV v vs = ds.any fun y => eqF y d
  | [], vs, h, _ => by cases (show vs = [] from h); rfl
  | x :: ds, vs, h, f => by
    obtain ⟨u, r, rfl, h2, h3⟩ := h
    rw [List.all_cons, Bool.and_eq_true] at f
    show (eqV u v || inV v r) = (eqF x d || ds.any fun y => eqF y d)
    rw [flat_any sm fd t h3 f.2, flat_eq f.1 fd (Rep.top sm h2) t]
theorem inStr_ok {x y : Str} {R : Bool → Prop} (h : inStr x y R) : (∃ c, x = ⟨#[c]⟩ ∧ R (decide (c ∈ y.cps.toList))) ∨ R (!(Builtin.Str.occurrences y x 0 y.length 1).isEmpty) := by
  unfold inStr at h
  split at h
  · rename_i c e
    obtain ⟨cps⟩ := x
    refine .inl ⟨c, ?_, h⟩
    congr 1
    exact Array.toList_inj.mp e
  · exact .inr h
theorem inD_ok (g : Bool → Bool) : BlOk K (rInAll K g) (fun d e Q => inD d e fun b => Q (g b)) := by
  intro G H d e x y R Q sm tx ty h k
  unfold inD at h
  split at h
  · rename_i a b
    cases (show x = .str a from tx); cases (show y = .str b from ty)
    rcases inStr_ok h with ⟨c, rfl, q⟩ | q
    · exact .inl ⟨c, b, rfl, rfl, k _ q⟩
    · exact .inr (.inl ⟨a, b, rfl, rfl, k _ q⟩)
  · rename_i xs
    split at h
    · rename_i p qs e1 e2
      exact .inr (.inr (.inl ⟨p, qs, Top.dp sm e1 tx, Top.dp sm (d := .lst xs) (by show (toPs xs).map _ = _; rw [e2]; rfl) ty, h.1.1, h.1.2, k _ h.2⟩))
    · exact h.elim
  · rename_i xs
    split at h
    · rename_i p qs e1 e2
      exact .inr (.inr (.inl ⟨p, qs, Top.dp sm e1 tx, Top.dp sm (d := .klst xs) (by show (toPs xs).map _ = _; rw [e2]; rfl) ty, h.1.1, h.1.2, k _ h.2⟩))
    · exact h.elim
  · rename_i xs
    rcases (show inT _ xs (fun b => R (g b)) from h) with h | h
    · obtain ⟨a, vs, rfl, h2, h3⟩ := ty
      refine .inr (.inr (.inr (.inr ⟨a, vs, rfl, .inr (Same.tup sm h2), flat_v h.1.1 tx, flat_all h3 h.1.2, k _ ?_⟩)))
      rw [flat_any sm h.1.1 tx h3 h.1.2]
      exact h.2
    · split at h
      · rename_i p qs e1 e2
        exact .inr (.inr (.inr (.inl ⟨p, qs, Top.dp sm e1 tx, Top.dp sm (d := .tup xs) (by show (toPs xs).map _ = _; rw [e2]; rfl) ty, h.1.1, h.1.2, k _ h.2⟩)))
      · exact h.elim
  · exact h.elim
/-- every comparison -/
theorem cmpD_ok (X : Cx) (hu : X.A.units + 65 < cLine) (o : CmpOp) : ∃ r, OpR X (compareOp o) r ∧ BlOk X.K r (cmpD o) := by
  have hu' : X.A.units + 64 < cLine := by omega
  cases o with
  | Eq => exact ⟨_, opr_or op_eq (op_eqD hu'), fun G H d e x y R Q sm tx ty h k => eqD_ok G H d e x y R Q sm tx ty (by cases e <;> exact h) k⟩
  | NotEq => exact ⟨_, opr_or op_ne (op_neD hu'), fun G H d e x y R Q sm tx ty h k => neD_ok G H d e x y R Q sm tx ty (by cases e <;> exact h) k⟩
  | Lt => exact ⟨_, opr_or op_lt (op_ltD hu'), fun G H d e x y R Q sm tx ty h k => ltD_ok G H d e x y R Q sm tx ty (by cases e <;> exact h) k⟩
  | LtE => exact ⟨_, opr_or op_le (op_leD hu'), fun G H d e x y R Q sm tx ty h k => leD_ok G H d e x y R Q sm tx ty (by cases e <;> exact h) k⟩
  | Gt => exact ⟨_, opr_or op_gt (op_gtD hu'), fun G H d e x y R Q sm tx ty h k => gtD_ok G H d e x y R Q sm tx ty (by cases e <;> exact h) k⟩
  | GtE => exact ⟨_, opr_or op_ge (op_geD hu'), fun G H d e x y R Q sm tx ty h k => geD_ok G H d e x y R Q sm tx ty (by cases e <;> exact h) k⟩
  | Is => exact ⟨_, op_isN, isD_ok⟩
  | IsNot => exact ⟨_, op_notN, isnotD_ok⟩
  | In => exact ⟨_, op_inAll hu, fun G H d e x y R Q sm tx ty h k => inD_ok id G H d e x y R Q sm tx ty (by cases e <;> exact h) k⟩
  | NotIn => exact ⟨_, op_notInAll hu, fun G H d e x y R Q sm tx ty h k => inD_ok (fun b => !b) G H d e x y R Q sm tx ty (by cases e <;> exact h) k⟩
/-! ### subscripts -/
def idxD : B2
  | .lst xs, .int i, R => (match atI xs i with
    | some d => R (.sh d)
    | none => False)
  | .pin _ xs, .int i, R => (match atI xs i with
    | some d => R (.sh d)
    | none => False)
  | .klst xs, .int i, R => (match atI xs i with
    | some d => R (.sh d)
    | none => False)
  | .tup xs, .int i, R => (match atI xs i with
    | some d => R (.sh d)
    | none => False)
  | .ftup xs, .int i, R => (match atI xs i with
    | some d => R (.sh d)
    | none => False)
  | .str z, .int i, R => z.length ≤ sizeLine ∧ (match atI z.cps.toList i with
    | some c => R (.sh (.str ⟨#[c]⟩))
    | none => False)
  | _, _, _ => False
theorem reps_atI {G : Hp} {ds : List D} {vs : List V} {i : Int} {d : D} (r : Reps K G ds vs) (h : atI ds i = some d) : ∃ v, atI vs i = some v ∧ Rep K G d v := by
  unfold atI at h ⊢
  rw [r.length]
  cases e : ixN ds.length i with
  | none => rw [e] at h; cases h
  | some j =>
    rw [e] at h
    exact r.get (show ds[j]? = some d from h)
theorem idxD_ok : OpOk K (rIx K) idxD := by
  intro G H d e x y R Q sm tx ty h k
  unfold idxD at h
  split at h
  · rename_i xs i
    obtain ⟨a, vs, rfl, h2, h3⟩ := tx
    cases (show y = .int i from ty)
    split at h
    · rename_i d e1
      obtain ⟨v, e2, rv⟩ := reps_atI h3 e1
      exact .inl ⟨a, vs, i, v, rfl, rfl, .of h2, e2, ret_sh sm k rv h⟩
    · exact h.elim
  · rename_i a0 xs i
    obtain ⟨a, vs, rfl, h2, h3⟩ := pin_lst tx
    cases (show y = .int i from ty)
    split at h
    · rename_i d e1
      obtain ⟨v, e2, rv⟩ := reps_atI h3 e1
      exact .inl ⟨a, vs, i, v, rfl, rfl, .of h2, e2, ret_sh sm k rv h⟩
    · exact h.elim
  · rename_i xs i
    obtain ⟨a, vs, rfl, h2, h3⟩ := tx
    cases (show y = .int i from ty)
    split at h
    · rename_i d e1
      obtain ⟨v, e2, rv⟩ := reps_atI h3 e1
      exact .inl ⟨a, vs, i, v, rfl, rfl, Same.seq sm h2, e2, ret_sh sm k rv h⟩
    · exact h.elim
  · rename_i xs i
    obtain ⟨a, vs, rfl, h2, h3⟩ := tx
    cases (show y = .int i from ty)
    split at h
    · rename_i d e1
      obtain ⟨v, e2, rv⟩ := reps_atI h3 e1
      exact .inr (.inl ⟨a, vs, i, v, rfl, rfl, Same.tup sm h2, e2, ret_sh sm k rv h⟩)
    · exact h.elim
  · rename_i xs i
    obtain ⟨a, vs, rfl, h2, h3⟩ := ftup_tup tx
    cases (show y = .int i from ty)
    split at h
    · rename_i d e1
      obtain ⟨v, e2, rv⟩ := reps_atI h3 e1
      exact .inr (.inl ⟨a, vs, i, v, rfl, rfl, Same.tup sm h2, e2, ret_sh sm k rv h⟩)
    · exact h.elim
  · rename_i z i
    cases (show x = .str z from tx)
    cases (show y = .int i from ty)
    obtain ⟨hz, h⟩ := h
    split at h
    · rename_i c e1
      exact .inr (.inr ⟨z, i, c, rfl, rfl, hz, e1, ret_sh sm k (d := .str ⟨#[c]⟩) rfl h⟩)
    · exact h.elim
  · exact h.elim
/-! ### slices -/
def cutL {α : Type} (xs : List α) (lo hi : Option Int) : List α := (xs.drop (HT.sIx xs.length 0 lo)).take (HT.sIx xs.length xs.length hi - HT.sIx xs.length 0 lo)
theorem reps_cut {G : Hp} {ds : List D} {vs : List V} (r : Reps K G ds vs) (lo hi : Option Int) : Reps K G (cutL ds lo hi) (cutV vs lo hi) := by
  unfold cutL cutV
  rw [r.length]
  exact (r.drop _).take _
def slcD : D → Option Int → Option Int → (Sl → Prop) → Prop
  | .lst xs, lo, hi, R => R (.ow (.lst (cutL xs lo hi)))
  | .pin _ xs, lo, hi, R => R (.ow (.lst (cutL xs lo hi)))
  | .klst xs, lo, hi, R => R (.ow (.lst (cutL xs lo hi)))
  | .tup xs, lo, hi, R => R (.sh (.tup (cutL xs lo hi)))
  | .str z, lo, hi, R => z.length ≤ sizeLine ∧ R (.sh (.str (cutS z lo hi)))
  | _, _, _, _ => False
def rSlAll (K : PySem.W.Frag) : V → Option Int → Option Int → Hp → VK → Prop := fun x lo hi H Q => rSlL K x lo hi H Q ∨ (rSlA K x lo hi H Q ∨ rSlS x lo hi H Q)
theorem sl_all {X : Cx} : SlR X (rSlAll X.K) := sl_list.or (sl_tupA.or sl_str)
theorem slcD_ok {G H : Hp} {d : D} {x : V} {lo hi : Option Int} {R : Sl → Prop} {Q : VK} (sm : Same G H) (tx : Top K G H d x) (h : slcD d lo hi R) (k : ∀ res v G' H', Gr G H G' H' → NRep K G' H' H res v → R res → Q v H') : rSlAll K x lo hi H Q := by
  unfold slcD at h
  split at h
  · rename_i xs
    obtain ⟨a, vs, rfl, h2, h3⟩ := tx
    exact .inl ⟨a, vs, rfl, .of h2, fun p n => ret_lst sm k (reps_cut h3 lo hi) h n⟩
  · rename_i a0 xs
    obtain ⟨a, vs, rfl, h2, h3⟩ := pin_lst tx
    exact .inl ⟨a, vs, rfl, .of h2, fun p n => ret_lst sm k (reps_cut h3 lo hi) h n⟩
  · rename_i xs
    obtain ⟨a, vs, rfl, h2, h3⟩ := tx
    exact .inl ⟨a, vs, rfl, Same.seq sm h2, fun p n => ret_lst sm k (reps_cut h3 lo hi) h n⟩
  · rename_i xs
    obtain ⟨a, vs, rfl, h2, h3⟩ := tx
    refine .inr (.inl ⟨a, vs, rfl, Same.tup sm h2, fun e => ?_, fun e p n => ret_tup sm k (reps_cut h3 lo hi) h n⟩)
    refine ret_sh sm k (d := .tup (cutL xs lo hi)) ⟨a, vs, rfl, h2, ?_⟩ h
    have z := reps_cut h3 lo hi
    have ec : cutV vs lo hi = vs := by
      unfold cutV
      rw [e.1, e.2]
      simp
    rw [ec] at z
    exact z
  · rename_i z
    cases (show x = .str z from tx)
    exact .inr (.inr ⟨z, rfl, h.1, ret_sh sm k (d := .str (cutS z lo hi)) rfl h.2⟩)
  · exact h.elim
/-! ### built-ins -/
def lenD : BS
  | [.lst xs], R => R (.sh (.int xs.length))
  | [.pin _ xs], R => R (.sh (.int xs.length))
  | [.klst xs], R => R (.sh (.int xs.length))
  | [.tup xs], R => R (.sh (.int xs.length))
  | [.ftup xs], R => R (.sh (.int xs.length))
  | [.str z], R => z.length ≤ sizeLine ∧ R (.sh (.int z.length))
  | [.dic ks _], R => R (.sh (.int ks.length))
  | _, _ => False
theorem tops1 {G H : Hp} {d : D} {vs : List V} (h : Tops K G H [d] vs) : ∃ v, vs = [v] ∧ Top K G H d v := by
  obtain ⟨v, r, rfl, h2, h3⟩ := h
  cases (show r = [] from h3)
  exact ⟨v, rfl, h2⟩
theorem tops2 {G H : Hp} {d e : D} {vs : List V} (h : Tops K G H [d, e] vs) : ∃ v u, vs = [v, u] ∧ Top K G H d v ∧ Top K G H e u := by
  obtain ⟨v, r, rfl, h2, h3⟩ := h
  obtain ⟨u, rfl, h4⟩ := tops1 h3
  exact ⟨v, u, rfl, h2, h4⟩
def rLenAll (K : PySem.W.Frag) : List V → Hp → VK → Prop := fun xs H Q => (∃ x n, xs = [x] ∧ LenV K x H n ∧ Q (.int n) H) ∨ (∃ a kvs, xs = [V.ref a] ∧ H a = some (.dK kvs) ∧ Q (.int kvs.length) H)
theorem call_lenAll {X : Cx} : CallR X (.builtin "len") (rLenAll X.K) := call_len.or call_lenD
theorem lenD_ok : BOk K (rLenAll K) lenD := by
  intro G H ds vs R Q sm t h k
  unfold lenD at h
  split at h
  · rename_i xs
    obtain ⟨v, rfl, a, vs, rfl, h2, h3⟩ := tops1 t
    exact .inl ⟨_, xs.length, rfl, .inl ⟨vs, .of h2, h3.length.symm⟩, ret_sh sm k (d := .int xs.length) rfl h⟩
  · rename_i a0 xs
    obtain ⟨v, rfl, t1⟩ := tops1 t
    obtain ⟨a, vs, rfl, h2, h3⟩ := pin_lst t1
    exact .inl ⟨_, xs.length, rfl, .inl ⟨vs, .of h2, h3.length.symm⟩, ret_sh sm k (d := .int xs.length) rfl h⟩
  · rename_i xs
    obtain ⟨v, rfl, a, vs, rfl, h2, h3⟩ := tops1 t
    exact .inl ⟨_, xs.length, rfl, .inl ⟨vs, Same.seq sm h2, h3.length.symm⟩, ret_sh sm k (d := .int xs.length) rfl h⟩
  · rename_i xs
    obtain ⟨v, rfl, a, vs, rfl, h2, h3⟩ := tops1 t
    exact .inl ⟨_, xs.length, rfl, .inr ⟨vs, Same.tup sm h2, h3.length.symm⟩, ret_sh sm k (d := .int xs.length) rfl h⟩
  · rename_i xs
    obtain ⟨v, rfl, t1⟩ := tops1 t
    obtain ⟨a, vs, rfl, h2, h3⟩ := ftup_tup t1
    exact .inl ⟨_, xs.length, rfl, .inr ⟨vs, Same.tup sm h2, h3.length.symm⟩, ret_sh sm k (d := .int xs.length) rfl h⟩
  · rename_i z
    obtain ⟨v, rfl, h2⟩ := tops1 t
    cases (show v = .str z from h2)
    exact .inl ⟨_, z.length, rfl, ⟨h.1, rfl⟩, ret_sh sm k (d := .int z.length) rfl h.2⟩
  · rename_i ks xs
    obtain ⟨v, rfl, a, kvs, rfl, h2, h4, h3⟩ := tops1 t
    refine .inr ⟨a, kvs, rfl, h2, ret_sh sm k (d := .int ks.length) ?_ h⟩
    show V.int _ = V.int _
    rw [← h4, List.length_map]
  · exact h.elim
def intD : BS
  | [.int i], R => R (.sh (.int i))
  | [.bl b], R => R (.sh (.int (if b then 1 else 0)))
  | _, _ => False
theorem intD_ok : BOk K (fun xs H Q => (∃ i, xs = [.int i] ∧ Q (.int i) H) ∨ ∃ k, xs = [.bl k] ∧ Q (.int (if k then 1 else 0)) H) intD := by
  intro G H ds vs R Q sm t h k
  unfold intD at h
  split at h
  · rename_i i
    obtain ⟨v, rfl, h2⟩ := tops1 t
    cases (show v = .int i from h2)
    exact .inl ⟨i, rfl, ret_sh sm k (d := .int i) rfl h⟩
  · rename_i b
    obtain ⟨v, rfl, h2⟩ := tops1 t
    cases (show v = .bl b from h2)
    exact .inr ⟨b, rfl, ret_sh sm k (d := .int (if b then 1 else 0)) rfl h⟩
  · exact h.elim
def boolD : BS
  | [.int i], R => R (.sh (.bl (i != 0)))
  | [.bl b], R => R (.sh (.bl b))
  | _, _ => False
theorem boolD_ok : BOk K (fun xs H Q => (∃ i, xs = [.int i] ∧ Q (.bl (i != 0)) H) ∨ ∃ k, xs = [.bl k] ∧ Q (.bl k) H) boolD := by
  intro G H ds vs R Q sm t h k
  unfold boolD at h
  split at h
  · rename_i i
    obtain ⟨v, rfl, h2⟩ := tops1 t
    cases (show v = .int i from h2)
    exact .inl ⟨i, rfl, ret_sh sm k (d := .bl (i != 0)) rfl h⟩
  · rename_i b
    obtain ⟨v, rfl, h2⟩ := tops1 t
    cases (show v = .bl b from h2)
    exact .inr ⟨b, rfl, ret_sh sm k (d := .bl b) rfl h⟩
  · exact h.elim
def strD : BS
  | [.int i], R => i.natAbs.log2 < 1920 ∧ R (.sh (.str (toString i)))
  | _, _ => False
theorem strD_ok : BOk K (fun xs H Q => ∃ i, xs = [.int i] ∧ i.natAbs.log2 < 1920 ∧ Q (.str (toString i)) H) strD := by
  intro G H ds vs R Q sm t h k
  unfold strD at h
  split at h
  · rename_i i
    obtain ⟨v, rfl, h2⟩ := tops1 t
    cases (show v = .int i from h2)
    exact ⟨i, rfl, h.1, ret_sh sm k (d := .str (toString i)) rfl h.2⟩
  · exact h.elim
def seqOf : D → Option (List D)
  | .lst xs => some xs
  | .pin _ xs => some xs
  | .klst xs => some xs
  | .tup xs => some xs
  | .ftup xs => some xs
  | _ => none
theorem seqOf_ok {G H : Hp} {d : D} {v : V} {xs : List D} (sm : Same G H) (e : seqOf d = some xs) (t : Top K G H d v) : ∃ a vs, v = .ref a ∧ (SqL K H a vs ∨ SqT K H a vs) ∧ Reps K G xs vs := by
  unfold seqOf at e
  split at e
  · cases e; obtain ⟨a, vs, rfl, h2, h3⟩ := t; exact ⟨a, vs, rfl, .inl (.of h2), h3⟩
  · cases e; obtain ⟨a, vs, rfl, h2, h3⟩ := pin_lst t; exact ⟨a, vs, rfl, .inl (.of h2), h3⟩
  · cases e; obtain ⟨a, vs, rfl, h2, h3⟩ := t; exact ⟨a, vs, rfl, .inl (Same.seq sm h2), h3⟩
  · cases e; obtain ⟨a, vs, rfl, h2, h3⟩ := t; exact ⟨a, vs, rfl, .inr (Same.tup sm h2), h3⟩
  · cases e; obtain ⟨a, vs, rfl, h2, h3⟩ := ftup_tup t; exact ⟨a, vs, rfl, .inr (Same.tup sm h2), h3⟩
  · cases e
def listD : BS
  | [d], R => (match seqOf d with
    | some xs => R (.ow (.lst xs))
    | none => False)
  | _, _ => False
theorem listD_ok : BOk K (fun xs H Q => ∃ p ys, xs = [.ref p] ∧ (SqL K H p ys ∨ SqT K H p ys) ∧ ∀ l, H l = none → Q (.ref l) (upd H l (.lst ys))) listD := by
  intro G H ds vs R Q sm t h k
  unfold listD at h
  split at h
  · rename_i d
    obtain ⟨v, rfl, h2⟩ := tops1 t
    split at h
    · rename_i xs e
      obtain ⟨a, vs, rfl, y1, y2⟩ := seqOf_ok sm e h2
      exact ⟨a, vs, rfl, y1, fun p n => ret_lst sm k y2 h n⟩
    · exact h.elim
  · exact h.elim
/-- a new tuple may be known as such -/
def tupleD : BS
  | [.lst xs], R => R (.sh (.tup xs)) ∨ R (.sh (.ftup xs))
  | [.pin _ xs], R => R (.sh (.tup xs)) ∨ R (.sh (.ftup xs))
  | [.klst xs], R => R (.sh (.tup xs)) ∨ R (.sh (.ftup xs))
  | [.tup xs], R => R (.sh (.tup xs))
  | [.ftup xs], R => R (.sh (.ftup xs))
  | _, _ => False
def rTupF (K : PySem.W.Frag) : List V → Hp → VK → Prop := fun xs H Q => ∃ p ys, xs = [V.ref p] ∧ ((SqL K H p ys ∧ ((∀ l, H l = none → Q (.ref l) (upd H l (.tup ys))) ∨ ∀ l o, o.dict = none → H l = none → Q (.ref l) (upd H l (.frz o (.tup ys))))) ∨ (SqT K H p ys ∧ Q (.ref p) H))
theorem call_tupleF {X : Cx} : CallR X (.type "tuple") (rTupF X.K) := by
  intro pins s σ H xs us Q I r h
  obtain ⟨p, ys, rfl, ⟨hq, q | q⟩ | ⟨hq, q⟩⟩ := h
  · exact call_tuple_of pins s σ H _ us Q I r ⟨p, ys, rfl, .inl ⟨hq, q⟩⟩
  · rw [Vals.ref1 r]
    obtain ⟨its, rv, pl, hz⟩ := I.list hq
    have hlen := rv.length
    refine call_tuple_list pl.isList (fun h' kp => ?_) (by simp only [List.size_toArray]; omega)
    have I1 : Inv X pins σ H { s with heap := h' } := I.kept (t' := s.toks) kp
    have at_ : (h'.push { cls := .type "tuple", data := .seq its.toArray }).get? h'.objs.size = some { cls := .type "tuple", data := .seq its.toArray } := Heap.get?_push_size _ rfl
    exact ⟨.ref h'.objs.size, _, I1.laid (t' := s.toks) (o := .frz { cls := .type "tuple", data := .seq its.toArray } (.tup ys)) (fun b o e => Heap.get?_push_of_some _ e) (Nat.le_refl _) ⟨at_, hz, its, rv, IsTup.new _ _⟩, rfl, q _ _ rfl (I1.hok.fresh (Nat.le_refl _))⟩
  · exact call_tuple_of pins s σ H _ us Q I r ⟨p, ys, rfl, .inr ⟨hq, q⟩⟩
theorem ret_ftup {G H : Hp} (sm : Same G H) {R : Sl → Prop} {Q : VK} {ds : List D} {vs : List V} (k : ∀ res v G' H', Gr G H G' H' → NRep K G' H' H res v → R res → Q v H') (r : Reps K G ds vs) (h : R (.sh (.ftup ds))) {p : Addr} {o : Obj} (hd : o.dict = none) (n : H p = none) : Q (.ref p) (upd H p (.frz o (.tup vs))) := by
  have g : Gr G H (upd G p (.frz o (.tup vs))) (upd H p (.frz o (.tup vs))) := Gr.laidG sm n
  exact k (.sh (.ftup ds)) _ _ _ g (show Rep K _ (.ftup ds) (.ref p) from ⟨p, vs, rfl, ⟨o, upd_same, hd⟩, Reps.mono g.g _ _ r⟩) h
theorem tupleD_ok : BOk K (rTupF K) tupleD := by
  intro G H ds vs R Q sm t h k
  unfold tupleD at h
  split at h
  · obtain ⟨v, rfl, a, vs, rfl, h2, h3⟩ := tops1 t
    rcases h with h | h
    · exact ⟨a, vs, rfl, .inl ⟨.of h2, .inl fun p n => ret_tup sm k h3 h n⟩⟩
    · exact ⟨a, vs, rfl, .inl ⟨.of h2, .inr fun p o hd n => ret_ftup sm k h3 h hd n⟩⟩
  · obtain ⟨v, rfl, t1⟩ := tops1 t
    obtain ⟨a, vs, rfl, h2, h3⟩ := pin_lst t1
    rcases h with h | h
    · exact ⟨a, vs, rfl, .inl ⟨.of h2, .inl fun p n => ret_tup sm k h3 h n⟩⟩
    · exact ⟨a, vs, rfl, .inl ⟨.of h2, .inr fun p o hd n => ret_ftup sm k h3 h hd n⟩⟩
  · obtain ⟨v, rfl, a, vs, rfl, h2, h3⟩ := tops1 t
    rcases h with h | h
    · exact ⟨a, vs, rfl, .inl ⟨Same.seq sm h2, .inl fun p n => ret_tup sm k h3 h n⟩⟩
    · exact ⟨a, vs, rfl, .inl ⟨Same.seq sm h2, .inr fun p o hd n => ret_ftup sm k h3 h hd n⟩⟩
  · rename_i xs
    obtain ⟨v, rfl, a, vs, rfl, h2, h3⟩ := tops1 t
    exact ⟨a, vs, rfl, .inr ⟨Same.tup sm h2, ret_sh sm k (d := .tup xs) ⟨a, vs, rfl, h2, h3⟩ h⟩⟩
  · rename_i xs
    obtain ⟨v, rfl, t1⟩ := tops1 t
    obtain ⟨a, vs, rfl, h2, h3⟩ := t1
    obtain ⟨o, h2, hd⟩ := h2
    exact ⟨a, vs, rfl, .inr ⟨.inl (.inr ⟨o, sm _ _ h2⟩), ret_sh sm k (d := .ftup xs) ⟨a, vs, rfl, ⟨o, h2, hd⟩, h3⟩ h⟩⟩
  · exact h.elim
def blsOf : List D → Option (List Bool)
  | [] => some []
  | .bl b :: ds => (blsOf ds).map (b :: ·)
  | _ :: _ => none
theorem blsOf_ok : ∀ {ds : List D} {bs : List Bool}, blsOf ds = some bs → ds = bs.map .bl
  | [], bs, e => by cases e; rfl
  | d :: ds, bs, e => by
    cases d with
    | bl b =>
      obtain ⟨cs, e1, rfl⟩ := map_some (show (blsOf ds).map (b :: ·) = some bs from e)
      rw [blsOf_ok e1]
      rfl
    | _ => cases e
theorem blsOf_map (bs : List Bool) : blsOf (bs.map .bl) = some bs := by
  induction bs with
  | nil => rfl
  | cons b bs ih => show (blsOf (bs.map .bl)).map (b :: ·) = _; rw [ih]; rfl
def intsOf : List D → Option (List Int)
  | [] => some []
  | .int b :: ds => (intsOf ds).map (b :: ·)
  | _ :: _ => none
theorem intsOf_ok : ∀ {ds : List D} {bs : List Int}, intsOf ds = some bs → ds = bs.map .int
  | [], bs, e => by cases e; rfl
  | d :: ds, bs, e => by
    cases d with
    | int b =>
      obtain ⟨cs, e1, rfl⟩ := map_some (show (intsOf ds).map (b :: ·) = some bs from e)
      rw [intsOf_ok e1]
      rfl
    | _ => cases e
theorem intsOf_map (bs : List Int) : intsOf (bs.map .int) = some bs := by
  induction bs with
  | nil => rfl
  | cons b bs ih => show (intsOf (bs.map .int)).map (b :: ·) = _; rw [ih]; rfl
def lstOf : D → Option (List D)
  | .lst xs => some xs
  | .klst xs => some xs
  | _ => none
theorem lstOf_ok {G H : Hp} {d : D} {v : V} {xs : List D} (sm : Same G H) (e : lstOf d = some xs) (t : Top K G H d v) : ∃ a vs, v = .ref a ∧ SqL K H a vs ∧ Reps K G xs vs := by
  unfold lstOf at e
  split at e
  · cases e; obtain ⟨a, vs, rfl, h2, h3⟩ := t; exact ⟨a, vs, rfl, .of h2, h3⟩
  · cases e; obtain ⟨a, vs, rfl, h2, h3⟩ := t; exact ⟨a, vs, rfl, Same.seq sm h2, h3⟩
  · cases e
/-- a list of True, False -/
def blsD (g : List Bool → Bool) : BS
  | [d], R => (match (lstOf d).bind blsOf with
    | some bs => R (.sh (.bl (g bs)))
    | none => False)
  | _, _ => False
theorem blsD_ok {g : List Bool → Bool} {r : List V → Hp → VK → Prop} (hr : ∀ H Q (a : Addr) (bs : List Bool), SqL K H a (bs.map V.bl) → Q (.bl (g bs)) H → r [.ref a] H Q) : BOk K r (blsD g) := by
  intro G H ds vs R Q sm t h k
  unfold blsD at h
  split at h
  · rename_i d
    obtain ⟨v, rfl, h2⟩ := tops1 t
    split at h
    · rename_i bs e
      obtain ⟨xs, e1, e2⟩ := Option.bind_eq_some_iff.mp e
      obtain ⟨a, vs, rfl, y1, y2⟩ := lstOf_ok sm e1 h2
      rw [blsOf_ok e2] at y2
      rw [Reps.bls.mp y2] at y1
      exact hr H Q a bs y1 (ret_sh sm k (d := .bl (g bs)) rfl h)
    · exact h.elim
  · exact h.elim
def allD : BS := blsD fun bs => bs.all id
def anyD : BS := blsD fun bs => bs.any id
theorem allD_ok : BOk K (rAll K) allD := blsD_ok fun H Q a bs h q => ⟨a, bs, rfl, h, q⟩
theorem anyD_ok : BOk K (rAny K) anyD := blsD_ok fun H Q a bs h q => ⟨a, bs, rfl, h, q⟩
def int2D (g : Int → Int → Int) : BS
  | [.int i, .int j], R => R (.sh (.int (g i j)))
  | _, _ => False
theorem int2D_ok {g : Int → Int → Int} : BOk K (fun xs H Q => ∃ i j, xs = [.int i, .int j] ∧ Q (.int (g i j)) H) (int2D g) := by
  intro G H ds vs R Q sm t h k
  unfold int2D at h
  split at h
  · rename_i i j
    obtain ⟨v, u, rfl, h2, h3⟩ := tops2 t
    cases (show v = .int i from h2); cases (show u = .int j from h3)
    exact ⟨i, j, rfl, ret_sh sm k (d := .int (g i j)) rfl h⟩
  · exact h.elim
/-- of a list of ints, not empty: its greatest, its least -/
def extD (le : Int → Int → Prop) (ns : List Int) (R : Sl → Prop) : Prop := 0 < ns.length ∧ ∀ m, m ∈ ns → (∀ y, y ∈ ns → le y m) → R (.sh (.int m))
def maxD : BS
  | [.int i, .int j], R => R (.sh (.int (if j > i then j else i)))
  | [d], R => (match (lstOf d).bind intsOf with
    | some ns => extD (fun y m => y ≤ m) ns R
    | none => False)
  | _, _ => False
def minD : BS
  | [.int i, .int j], R => R (.sh (.int (if j < i then j else i)))
  | [d], R => (match (lstOf d).bind intsOf with
    | some ns => extD (fun y m => m ≤ y) ns R
    | none => False)
  | _, _ => False
theorem maxD_ok : BOk K (fun xs H Q => (∃ i j, xs = [.int i, .int j] ∧ Q (.int (if j > i then j else i)) H) ∨ rMax K xs H Q) maxD := by
  intro G H ds vs R Q sm t h k
  unfold maxD at h
  split at h
  · rename_i i j
    obtain ⟨v, u, rfl, h2, h3⟩ := tops2 t
    cases (show v = .int i from h2); cases (show u = .int j from h3)
    exact .inl ⟨i, j, rfl, ret_sh sm k (d := .int (if j > i then j else i)) rfl h⟩
  · rename_i d
    obtain ⟨v, rfl, h2⟩ := tops1 t
    split at h
    · rename_i bs e
      obtain ⟨xs, e1, e2⟩ := Option.bind_eq_some_iff.mp e
      obtain ⟨a, vs, rfl, y1, y2⟩ := lstOf_ok sm e1 h2
      rw [intsOf_ok e2] at y2
      rw [Reps.ints.mp y2] at y1
      exact .inr ⟨a, bs, rfl, y1, h.1, fun m hm hl => ret_sh sm k (d := .int m) rfl (h.2 m hm hl)⟩
    · exact h.elim
  · exact h.elim
theorem minD_ok : BOk K (fun xs H Q => (∃ i j, xs = [.int i, .int j] ∧ Q (.int (if j < i then j else i)) H) ∨ rMin K xs H Q) minD := by
  intro G H ds vs R Q sm t h k
  unfold minD at h
  split at h
  · rename_i i j
    obtain ⟨v, u, rfl, h2, h3⟩ := tops2 t
    cases (show v = .int i from h2); cases (show u = .int j from h3)
    exact .inl ⟨i, j, rfl, ret_sh sm k (d := .int (if j < i then j else i)) rfl h⟩
  · rename_i d
    obtain ⟨v, rfl, h2⟩ := tops1 t
    split at h
    · rename_i bs e
      obtain ⟨xs, e1, e2⟩ := Option.bind_eq_some_iff.mp e
      obtain ⟨a, vs, rfl, y1, y2⟩ := lstOf_ok sm e1 h2
      rw [intsOf_ok e2] at y2
      rw [Reps.ints.mp y2] at y1
      exact .inr ⟨a, bs, rfl, y1, h.1, fun m hm hl => ret_sh sm k (d := .int m) rfl (h.2 m hm hl)⟩
    · exact h.elim
  · exact h.elim
def sumD : BS
  | [d], R => (match (lstOf d).bind intsOf with
    | some ns => R (.sh (.int ns.sum))
    | none => False)
  | _, _ => False
theorem sumD_ok : BOk K (rSum K) sumD := by
  intro G H ds vs R Q sm t h k
  unfold sumD at h
  split at h
  · rename_i d
    obtain ⟨v, rfl, h2⟩ := tops1 t
    split at h
    · rename_i bs e
      obtain ⟨xs, e1, e2⟩ := Option.bind_eq_some_iff.mp e
      obtain ⟨a, vs, rfl, y1, y2⟩ := lstOf_ok sm e1 h2
      rw [intsOf_ok e2] at y2
      rw [Reps.ints.mp y2] at y1
      exact ⟨a, bs, rfl, y1, ret_sh sm k (d := .int bs.sum) rfl h⟩
    · exact h.elim
  · exact h.elim
/-! ### isinstance -/
def tyN : D → String
  | .non => "NoneType"
  | .bl _ => "bool"
  | .int _ => "int"
  | .str _ => "str"
  | .lst _ => "list"
  | .klst _ => "list"
  | .tup _ => "tuple"
  | .ftup _ => "tuple"
  | .dic _ _ => "dict"
  | _ => "?"
def isT (a b : String) : Bool := a == b || (a == "bool" && b == "int")
theorem kit_all : ∀ a ∈ (["NoneType", "bool", "int", "str", "list", "tuple", "dict"] : List String), ∀ b ∈ (["bool", "int", "str", "list", "tuple", "dict"] : List String), kitB a b = some (isT a b) := by decide +kernel
def tyKnown (b : String) : Bool := (["bool", "int", "str", "list", "tuple", "dict"] : List String).contains b
theorem tyX_of {G H : Hp} {d : D} {v : V} (sm : Same G H) (h : tyN d ≠ "?") (t : Top K G H d v) : TyX K H v (.type (tyN d)) := by
  cases d with
  | non => cases (show v = .non from t); exact .base .non
  | bl b => cases (show v = .bl b from t); exact .base (.bl b)
  | int b => cases (show v = .int b from t); exact .base (.int b)
  | str b => cases (show v = .str b from t); exact .base (.str b)
  | lst xs => obtain ⟨a, vs, rfl, h2, _⟩ := t; exact .base (.lst h2)
  | klst xs =>
    obtain ⟨a, vs, rfl, h2, _⟩ := t
    rcases h2 with (h2 | ⟨o, h2⟩) | ⟨o, its, n, k1, k2, _⟩
    · exact .base (.lst (sm _ _ h2))
    · exact .base (.frz (sm _ _ h2))
    · exact .kList k1 k2
  | tup xs =>
    obtain ⟨a, vs, rfl, h2, _⟩ := t
    rcases h2 with (h2 | ⟨o, h2⟩) | ⟨o, its, n, k1, k2, _⟩
    · exact .base (.tup (sm _ _ h2))
    · exact .fTuple (sm _ _ h2)
    · exact .kTuple k1 k2
  | ftup xs =>
    obtain ⟨a, vs, rfl, ⟨o, h2, _⟩, _⟩ := t
    exact .fTuple (sm _ _ h2)
  | dic ks xs => obtain ⟨a, vs, rfl, h2, _⟩ := t; exact .base (.dK h2)
  | _ => exact absurd rfl h
theorem tyN_mem {d : D} (h : tyN d ≠ "?") : tyN d ∈ (["NoneType", "bool", "int", "str", "list", "tuple", "dict"] : List String) := by
  cases d <;> first | (simp [tyN]; done) | exact absurd rfl h
theorem kit_is {d : D} {b : String} (h : tyN d ≠ "?") (hb : tyKnown b = true) : PySem.W.kitOne K (.type (tyN d)) (.type b) = some (isT (tyN d) b) :=
  kit_ty (kit_all _ (tyN_mem h) b (by simpa [tyKnown] using hb))
theorem kit_is_any {d : D} (h : tyN d ≠ "?") : ∀ bs : List String, bs.all tyKnown = true → PySem.W.kitAny K (.type (tyN d)) (bs.map Value.type) = some (bs.any (isT (tyN d)))
  | [], _ => rfl
  | b :: bs, hb => by
    rw [List.all_cons, Bool.and_eq_true] at hb
    refine kitAny_cons (kit_is h hb.1) (fun e => ?_) (fun e => ?_)
    · rw [List.any_cons, e, Bool.false_or]; exact kit_is_any h bs hb.2
    · rw [List.any_cons, e, Bool.true_or]
/-- isinstance against built-in types -/
def isiD (bs : List String) : B1 := fun d R => tyN d ≠ "?" ∧ R (.sh (.bl (bs.any (isT (tyN d)))))
theorem isiD_ok1 {b : String} (hb : tyKnown b = true) : UnOk K (fun x H Q => rIsi K [x, .ty b] H Q) (isiD [b]) := by
  intro G H d x R Q sm tx h k
  refine ⟨x, .ty b, .type (tyN d), .type b, isT (tyN d) b, rfl, .ty b, tyX_of sm h.1 tx, kit_is h.1 hb, ?_⟩
  refine ret_sh sm k (d := .bl (isT (tyN d) b)) rfl ?_
  have := h.2
  rw [List.any_cons, List.any_nil, Bool.or_false] at this
  exact this
theorem isiD_okT {bs : List String} (hb : bs.all tyKnown = true) (hn : bs.length ≤ sizeLine) : UnOk K (fun x H Q => (bs.map V.ty).length ≤ sizeLine ∧ ∀ p, H p = none → rIsiT K [x, .ref p] (upd H p (.tup (bs.map V.ty))) Q) (isiD bs) := by
  intro G H d x R Q sm tx h k
  refine ⟨by rw [List.length_map]; exact hn, fun p n => ?_⟩
  have g : Gr G H G (upd H p (.tup (bs.map V.ty))) := Gr.laid sm n
  refine ⟨x, p, bs.map V.ty, .type (tyN d), bs.map Value.type, bs.any (isT (tyN d)), rfl, upd_same, ?_, tyX_of g.gh h.1 (Top.mono (.refl _) g.h tx), kit_is_any h.1 bs hb, ?_⟩
  · clear hn h k hb g
    induction bs with
    | nil => exact .nil
    | cons b bs ih => exact .cons (.ty b) ih
  · exact k (.sh (.bl (bs.any (isT (tyN d))))) _ G _ g rfl h.2
end
end DL

namespace DL
variable [TB]
open PySem PySem.Spec PyProof.Rows L2
section
variable {K : PySem.W.Frag}
/-! ### what a loop walks -/
structure ItOk (K : PySem.W.Frag) (G : Hp) (items : List D) (J : It) : Prop where
  go : ∀ i H, Same G H → i < items.length → J.go i H
  yl : ∀ (i : Nat) (Gi H : Hp) x H' d, Same G Gi → Same Gi H → J.yld i H x H' → items[i]? = some d → ∃ G', Gr Gi H G' H' ∧ Rep K G' d x
  st : ∀ H, Same G H → J.stop items.length H
abbrev DI := DSt → (List D → DSt → Prop) → Prop
def liftI (K : PySem.W.Frag) (w : DI) : TI := fun σ H R => ∃ B G s N, StRep K B G s σ H ∧ w s N ∧ ∀ items s' G' H' J, StRep K B G' s' σ H' → Same G G' → ItOk K G' items J → N items s' → R J H'
theorem itOk_list {G : Hp} {a : Addr} {vs : List V} {xs : List D} (h : SqL K G a vs) (r : Reps K G xs vs) : ItOk K G xs (Itl K a) := by
  refine ⟨fun i H sm hi => ?_, fun i Gi H x H' d sm sm2 y e => ?_, fun H sm => ⟨vs, Same.seq sm h, Nat.le_of_eq r.length⟩⟩
  · obtain ⟨v, e, _⟩ := r.get (List.getElem?_eq_getElem hi)
    exact ⟨vs, v, Same.seq sm h, e⟩
  · obtain ⟨rfl, y⟩ := y
    obtain ⟨v, e1, r1⟩ := r.get e
    have e2 := y vs (Same.seq (sm.trans sm2) h)
    rw [e1] at e2
    cases e2
    exact ⟨Gi, .refl sm2, Rep.mono sm _ _ r1⟩
theorem itOk_tup {G : Hp} {a : Addr} {vs : List V} {xs : List D} (h : SqT K G a vs) (r : Reps K G xs vs) : ItOk K G xs (Itt K a) := by
  refine ⟨fun i H sm hi => ?_, fun i Gi H x H' d sm sm2 y e => ?_, fun H sm => ⟨vs, Same.tup sm h, Nat.le_of_eq r.length⟩⟩
  · obtain ⟨v, e, _⟩ := r.get (List.getElem?_eq_getElem hi)
    exact ⟨vs, v, Same.tup sm h, e⟩
  · obtain ⟨rfl, y⟩ := y
    obtain ⟨v, e1, r1⟩ := r.get e
    have e2 := y vs (Same.tup (sm.trans sm2) h)
    rw [e1] at e2
    cases e2
    exact ⟨Gi, .refl sm2, Rep.mono sm _ _ r1⟩
def charsD (z : Str) : List D := z.cps.toList.map fun c => .str ⟨#[c]⟩
theorem itOk_str {G : Hp} {z : Str} : ItOk K G (charsD z) (Its z) := by
  have el : (charsD z).length = z.cps.size := by unfold charsD; rw [List.length_map]; simp
  refine ⟨fun i H sm hi => by rw [el] at hi; exact hi, fun i Gi H x H' d sm sm2 y e => ?_, fun H sm => by show z.cps.size ≤ _; rw [el]; exact Nat.le_refl _⟩
  obtain ⟨rfl, c, y, rfl⟩ := y
  refine ⟨Gi, .refl sm2, ?_⟩
  unfold charsD at e
  rw [List.getElem?_map] at e
  have y2 : z.cps.toList[i]? = some c := by simpa using y
  rw [y2] at e
  cases e
  rfl
def rangeD (lo : Int) (n : Nat) : List D := (List.range n).map fun i => .int (lo + (i : Nat))
theorem itOk_range {G : Hp} {lo : Int} {n : Nat} : ItOk K G (rangeD lo n) (Itr lo n) := by
  have el : (rangeD lo n).length = n := by unfold rangeD; rw [List.length_map, List.length_range]
  refine ⟨fun i H sm hi => by rw [el] at hi; exact hi, fun i Gi H x H' d sm sm2 y e => ?_, fun H sm => by show n ≤ _; rw [el]; exact Nat.le_refl _⟩
  obtain ⟨rfl, rfl⟩ := y
  refine ⟨Gi, .refl sm2, ?_⟩
  have hi : i < n := by have := getElem?_lt e; rw [el] at this; exact this
  unfold rangeD at e
  rw [List.getElem?_map, List.getElem?_range hi] at e
  cases e
  rfl
/-- pairs of the items of two -/
def zipD (xs ys : List D) : List D := List.zipWith (fun x y => .tup [x, y]) xs ys
theorem zipD_get {xs ys : List D} {i : Nat} {d : D} (h : (zipD xs ys)[i]? = some d) : ∃ x y, xs[i]? = some x ∧ ys[i]? = some y ∧ d = .tup [x, y] := by
  unfold zipD at h
  rw [List.getElem?_zipWith] at h
  split at h
  · rename_i a b e1 e2
    cases h
    exact ⟨_, _, e1, e2, rfl⟩
  · cases h
theorem itOk_zip {G : Hp} {xs ys : List D} {vs us : List V} {J : It} (r1 : Reps K G xs vs) (r2 : Reps K G ys us)
    (go : ∀ i H x y, Same G H → vs[i]? = some x → us[i]? = some y → J.go i H)
    (yl : ∀ i H v H', Same G H → J.yld i H v H' → ∃ T x y, v = .ref T ∧ H T = none ∧ H' = upd H T (.tup [x, y]) ∧ vs[i]? = some x ∧ us[i]? = some y)
    (st : ∀ i H, Same G H → (vs.length ≤ i ∨ us.length ≤ i) → J.stop i H) : ItOk K G (zipD xs ys) J := by
  refine ⟨fun i H sm hi => ?_, fun i Gi H v H' d sm sm2 y e => ?_, fun H sm => st _ H sm ?_⟩
  · obtain ⟨x, y, e1, e2, _⟩ := zipD_get (List.getElem?_eq_getElem hi)
    obtain ⟨v, e3, _⟩ := r1.get e1
    obtain ⟨u, e4, _⟩ := r2.get e2
    exact go i H v u sm e3 e4
  · obtain ⟨T, x, z, rfl, n, rfl, e3, e4⟩ := yl i H v H' (sm.trans sm2) y
    obtain ⟨dx, dy, e1, e2, rfl⟩ := zipD_get e
    obtain ⟨v', e5, q1⟩ := r1.get e1
    obtain ⟨u', e6, q2⟩ := r2.get e2
    rw [e3] at e5
    cases e5
    rw [e4] at e6
    cases e6
    have g : Gr Gi H (upd Gi T (.tup [x, z])) (upd H T (.tup [x, z])) := Gr.laidG sm2 n
    exact ⟨_, g, T, [x, z], rfl, .of upd_same, .cons (Rep.mono (sm.trans g.g) _ _ q1) (.cons (Rep.mono (sm.trans g.g) _ _ q2) rfl)⟩
  · unfold zipD
    rw [List.length_zipWith, r1.length, r2.length]
    omega
theorem itOk_zipL {G : Hp} {xs ys : List D} {vs us : List V} {a b : Addr} (h1 : SqL K G a vs) (h2 : SqL K G b us) (r1 : Reps K G xs vs) (r2 : Reps K G ys us) : ItOk K G (zipD xs ys) (Itz K a b) :=
  itOk_zip r1 r2 (fun i H x y sm e1 e2 => ⟨vs, us, x, y, Same.seq sm h1, Same.seq sm h2, e1, e2⟩)
    (fun i H v H' sm ⟨T, x, y, q1, q2, q3, q4, q5⟩ => ⟨T, x, y, q1, q2, q3, q4 _ (Same.seq sm h1), q5 _ (Same.seq sm h2)⟩)
    (fun i H sm e => ⟨vs, us, Same.seq sm h1, Same.seq sm h2, e⟩)
theorem itOk_zipT {G : Hp} {xs ys : List D} {vs us : List V} {a b : Addr} (h1 : SqT K G a vs) (h2 : SqT K G b us) (r1 : Reps K G xs vs) (r2 : Reps K G ys us) : ItOk K G (zipD xs ys) (RZ.ItzT K a b) :=
  itOk_zip r1 r2 (fun i H x y sm e1 e2 => ⟨vs, us, x, y, Same.tup sm h1, Same.tup sm h2, e1, e2⟩)
    (fun i H v H' sm ⟨T, x, y, q1, q2, q3, q4, q5⟩ => ⟨T, x, y, q1, q2, q3, q4 _ (Same.tup sm h1), q5 _ (Same.tup sm h2)⟩)
    (fun i H sm e => ⟨vs, us, Same.tup sm h1, Same.tup sm h2, e⟩)
/-- a list, a tuple, a text, walked -/
def itemsD : D → Option (List D)
  | .lst xs => some xs
  | .klst xs => some xs
  | .tup xs => some xs
  | .ftup xs => some xs
  | .pin _ xs => some xs
  | .str z => some (charsD z)
  | _ => none
def iSeq (K : PySem.W.Frag) (te : TE) : TI := fun σ H R => te σ H fun x H1 => (∃ a xs, x = .ref a ∧ SqL K H1 a xs ∧ R (Itl K a) H1) ∨ ((∃ a xs, x = .ref a ∧ SqT K H1 a xs ∧ R (Itt K a) H1) ∨ ∃ z, x = .str z ∧ R (Its z) H1)
theorem pi_seq {X : Cx} {tg e : Expr} {te : TE} (he : PE X e te) : PI X tg e (iSeq X.K te) := by
  refine ⟨fun pins s σ H R I h => ?_⟩
  refine thn (he.run pins s σ H _ I h) fun v s1 ⟨x, H1, I1, r1, q1⟩ => ?_
  rcases q1 with ⟨a, xs, rfl, hq, q⟩ | ⟨a, xs, rfl, hq, q⟩ | ⟨z, rfl, q⟩
  · cases r1
    obtain ⟨its, rv, p, hz⟩ := I1.list hq
    refine wpAny_pyIter_list p.isList ?_
    refine ⟨s1.heap.objs.size, [s1.heap.objs.size], _, _, H1, rfl, I1.kept (t' := s1.toks) fun b o e => Heap.get?_push_of_some _ e, turn_list a _, ⟨_, Heap.get?_push_size _ rfl, rfl, rfl⟩, fun b hb => ?_, q⟩
    have e : b = s1.heap.objs.size := by simpa using hb
    subst e
    exact I1.fpOk (Nat.le_refl _) (I1.hok.fresh (Nat.le_refl _))
  · cases r1
    obtain ⟨its, rv, p, hz⟩ := I1.tuple hq
    refine wpAny_pyIter_tuple (show s1.heap.IsTuple a its.toArray from p) ?_
    refine ⟨s1.heap.objs.size, [s1.heap.objs.size], _, _, H1, rfl, I1.kept (t' := s1.toks) fun b o e => Heap.get?_push_of_some _ e, turn_tuple a _, ⟨_, Heap.get?_push_size _ rfl, rfl, rfl⟩, fun b hb => ?_, q⟩
    have e : b = s1.heap.objs.size := by simpa using hb
    subst e
    exact I1.fpOk (Nat.le_refl _) (I1.hok.fresh (Nat.le_refl _))
  · obtain ⟨t, rfl⟩ := r1
    cases ha : z.cps.all (· < 128)
    · exact wpAny_pyIter_wide ha (pi_one (tk := s1.toks) I1 _ (turn_str _ z t "str_iterator" (.inr rfl)) ⟨_, Heap.get?_push_size _ rfl, rfl, rfl⟩ q)
    · exact wpAny_pyIter_ascii ha (pi_one (tk := s1.toks) I1 _ (turn_str _ z t "str_ascii_iterator" (.inl rfl)) ⟨_, Heap.get?_push_size _ rfl, rfl, rfl⟩ q)

theorem lift_seq {w : DE} {σ : L2.St} {H : Hp} {R : It → Hp → Prop} (h : liftI K (fun s N => w s fun r s1 => match itemsD (frz r) with
    | some items => N items s1
    | none => False) σ H R) : iSeq K (lift K w) σ H R := by
  obtain ⟨B, G, s, N, S, hw, k⟩ := h
  refine ⟨B, G, s, _, S, hw, fun r s1 G1 H1 v S1 sm1 r1 q1 => ?_⟩
  obtain ⟨G2, S2, sm2, rep⟩ := r1.freeze S1
  generalize frz r = d at q1 rep
  unfold itemsD at q1
  split at q1
  · rename_i items e
    split at e
    · cases e
      obtain ⟨a, vs, rfl, h2, h3⟩ := rep
      exact .inl ⟨a, vs, rfl, .of (S2.gH _ _ h2), k _ s1 G2 H1 _ S2 (sm1.trans sm2) (itOk_list (.of h2) h3) q1⟩
    · cases e
      obtain ⟨a, vs, rfl, h2, h3⟩ := rep
      exact .inl ⟨a, vs, rfl, Same.seq S2.gH h2, k _ s1 G2 H1 _ S2 (sm1.trans sm2) (itOk_list h2 h3) q1⟩
    · cases e
      obtain ⟨a, vs, rfl, h2, h3⟩ := rep
      exact .inr (.inl ⟨a, vs, rfl, Same.tup S2.gH h2, k _ s1 G2 H1 _ S2 (sm1.trans sm2) (itOk_tup h2 h3) q1⟩)
    · cases e
      obtain ⟨a, vs, rfl, h2, h3⟩ := ftup_tup rep
      exact .inr (.inl ⟨a, vs, rfl, Same.tup S2.gH h2, k _ s1 G2 H1 _ S2 (sm1.trans sm2) (itOk_tup h2 h3) q1⟩)
    · cases e
      obtain ⟨a, vs, rfl, h2, h3⟩ := pin_lst (H := G2) rep
      exact .inl ⟨a, vs, rfl, .of (S2.gH _ _ h2), k _ s1 G2 H1 _ S2 (sm1.trans sm2) (itOk_list (.of h2) h3) q1⟩
    · cases e
      rename_i z
      cases (show v = .str z from rep)
      exact .inr (.inr ⟨z, rfl, k _ s1 G2 H1 _ S2 (sm1.trans sm2) itOk_str q1⟩)
    · cases e
  · exact q1.elim
def wSeq' (w : DE) : DI := fun s N => w s fun r s1 => match itemsD (frz r) with
    | some items => N items s1
    | none => False
/-- range(n), range(a, b) -/
def wRng1 (wos : DA) : DI := fun s N => wos s fun os s1 => match resOs s1 os with
  | some [.int n] => (-(2 ^ 62) ≤ n ∧ n < 2 ^ 62) ∧ N (rangeD 0 n.toNat) s1
  | _ => False
def wRng2 (wos : DA) : DI := fun s N => wos s fun os s1 => match resOs s1 os with
  | some [.int a, .int b] => (-(2 ^ 62) ≤ a ∧ a < 2 ^ 62 ∧ -(2 ^ 62) ≤ b ∧ b < 2 ^ 62) ∧ N (rangeD a (b - a).toNat) s1
  | _ => False
theorem lift_rng1 {wos : DA} {σ : L2.St} {H : Hp} {R : It → Hp → Prop} (h : liftI K (wRng1 wos) σ H R) : iRng1 (liftA K wos) σ H R := by
  obtain ⟨B, G, s, N, S, hw, k⟩ := h
  refine ⟨B, G, s, _, S, hw, fun os s1 G1 H1 vs S1 sm1 o1 q1 => ?_⟩
  split at q1
  · rename_i n e
    obtain ⟨v, rfl, h2⟩ := tops1 (o1.tops S1 e)
    cases (show v = .int n from h2)
    exact ⟨n, rfl, q1.1.1, q1.1.2, k _ s1 G1 H1 _ S1 sm1 itOk_range q1.2⟩
  · exact q1.elim
theorem lift_rng2 {wos : DA} {σ : L2.St} {H : Hp} {R : It → Hp → Prop} (h : liftI K (wRng2 wos) σ H R) : iRng2 (liftA K wos) σ H R := by
  obtain ⟨B, G, s, N, S, hw, k⟩ := h
  refine ⟨B, G, s, _, S, hw, fun os s1 G1 H1 vs S1 sm1 o1 q1 => ?_⟩
  split at q1
  · rename_i a b e
    obtain ⟨v, u, rfl, h2, h3⟩ := tops2 (o1.tops S1 e)
    cases (show v = .int a from h2)
    cases (show u = .int b from h3)
    exact ⟨a, b, rfl, q1.1, k _ s1 G1 H1 _ S1 sm1 itOk_range q1.2⟩
  · exact q1.elim
/-- zip(a, b) -/
def wZip (w : DSt → (List D → DSt → Prop) → Prop) : DI := fun s N => w s fun ds s1 => match ds with
  | [.tup xs, .tup ys] => N (zipD xs ys) s1
  | [.ftup xs, .ftup ys] => N (zipD xs ys) s1
  | [d, e] => (match lstOf d, lstOf e with
    | some xs, some ys => N (zipD xs ys) s1
    | _, _ => False)
  | _ => False
theorem lift_zip {w : DSt → (List D → DSt → Prop) → Prop} {σ : L2.St} {H : Hp} {R : It → Hp → Prop} (h : liftI K (wZip w) σ H R) : RZ.iZipA K (liftV K w) σ H R := by
  obtain ⟨B, G, s, N, S, hw, k⟩ := h
  refine ⟨B, G, s, _, S, hw, fun ds s1 G1 H1 vs S1 sm1 o1 q1 => ?_⟩
  split at q1
  · rename_i xs ys
    obtain ⟨v, r, rfl, ⟨a, v1, rfl, a2, a3⟩, u, r', rfl, ⟨b, v2, rfl, b2, b3⟩, hn⟩ := o1
    cases (show r' = [] from hn)
    exact ⟨a, b, v1, v2, rfl, .inr ⟨Same.tup S1.gH a2, Same.tup S1.gH b2, k _ s1 G1 H1 _ S1 sm1 (itOk_zipT a2 b2 a3 b3) q1⟩⟩
  · rename_i xs ys
    obtain ⟨v, r, rfl, t1, u, r', rfl, t2, hn⟩ := o1
    obtain ⟨a, v1, rfl, a2, a3⟩ := ftup_tup t1
    obtain ⟨b, v2, rfl, b2, b3⟩ := ftup_tup t2
    cases (show r' = [] from hn)
    exact ⟨a, b, v1, v2, rfl, .inr ⟨Same.tup S1.gH a2, Same.tup S1.gH b2, k _ s1 G1 H1 _ S1 sm1 (itOk_zipT a2 b2 a3 b3) q1⟩⟩
  · rename_i d e
    split at q1
    · rename_i xs ys e1 e2
      obtain ⟨v, r, rfl, h1, u, r', rfl, h2, hn⟩ := o1
      cases (show r' = [] from hn)
      obtain ⟨a, v1, rfl, a2, a3⟩ := lstOf_ok (.refl G1) e1 (Rep.top (.refl _) h1)
      obtain ⟨b, v2, rfl, b2, b3⟩ := lstOf_ok (.refl G1) e2 (Rep.top (.refl _) h2)
      exact ⟨a, b, v1, v2, rfl, .inl ⟨Same.seq S1.gH a2, Same.seq S1.gH b2, k _ s1 G1 H1 _ S1 sm1 (itOk_zipL a2 b2 a3 b3) q1⟩⟩
    · exact q1.elim
  · exact q1.elim
def enumD : Nat → List D → List D
  | _, [] => []
  | n, x :: xs => .tup [.int (n : Int), x] :: enumD (n + 1) xs
theorem enumD_get : ∀ {xs : List D} {n i : Nat} {d : D}, (enumD n xs)[i]? = some d → ∃ x, xs[i]? = some x ∧ d = .tup [.int ((n + i : Nat) : Int), x]
  | [], n, i, d, h => by cases h
  | x :: xs, n, 0, d, h => by cases h; exact ⟨x, rfl, rfl⟩
  | x :: xs, n, i + 1, d, h => by
    obtain ⟨y, h1, h2⟩ := enumD_get (xs := xs) (n := n + 1) (i := i) h
    exact ⟨y, h1, by rw [h2, show n + 1 + i = n + (i + 1) by omega]⟩
theorem enumD_len : ∀ {xs : List D} {n : Nat}, (enumD n xs).length = xs.length
  | [], n => rfl
  | x :: xs, n => congrArg Nat.succ enumD_len
theorem itOk_enum {G : Hp} {xs : List D} {vs : List V} {J : It} (r : Reps K G xs vs)
    (go : ∀ i H x, Same G H → vs[i]? = some x → J.go i H)
    (yl : ∀ i H v H', Same G H → J.yld i H v H' → ∃ T x, v = .ref T ∧ H T = none ∧ H' = upd H T (.tup [.int (i : Nat), x]) ∧ vs[i]? = some x)
    (st : ∀ i H, Same G H → vs.length ≤ i → J.stop i H) : ItOk K G (enumD 0 xs) J := by
  refine ⟨fun i H sm hi => ?_, fun i Gi H v H' d sm sm2 y e => ?_, fun H sm => st _ H sm ?_⟩
  · rw [enumD_len] at hi
    obtain ⟨v, e3, _⟩ := r.get (List.getElem?_eq_getElem hi)
    exact go i H v sm e3
  · obtain ⟨T, x, rfl, n, rfl, e3⟩ := yl i H v H' (sm.trans sm2) y
    obtain ⟨dx, e1, rfl⟩ := enumD_get e
    obtain ⟨v', e5, q1⟩ := r.get e1
    rw [e3] at e5
    cases e5
    have g : Gr Gi H (upd Gi T (.tup [.int (i : Nat), x])) (upd H T (.tup [.int (i : Nat), x])) := Gr.laidG sm2 n
    exact ⟨_, g, T, [.int (i : Nat), x], rfl, .of upd_same, .cons (show Rep K _ (.int ((0 + i : Nat) : Int)) (.int (i : Nat)) by rw [Nat.zero_add]; rfl) (.cons (Rep.mono (sm.trans g.g) _ _ q1) rfl)⟩
  · rw [enumD_len, r.length]
    exact Nat.le_refl _
def wEnm (w : DE) : DI := fun s N => w s fun r s1 => match frz r with
  | .lst xs => N (enumD 0 xs) s1
  | .klst xs => N (enumD 0 xs) s1
  | .tup xs => N (enumD 0 xs) s1
  | _ => False
theorem lift_enm {w : DE} {σ : L2.St} {H : Hp} {R : It → Hp → Prop} (h : liftI K (wEnm w) σ H R) : iEnumT K (tCons (lift K w) tNil) σ H R := by
  obtain ⟨B, G, s, N, S, hw, k⟩ := h
  refine ⟨B, G, s, _, S, hw, fun r s1 G1 H1 v S1 sm1 r1 q1 => ?_⟩
  obtain ⟨G2, S2, sm2, rep⟩ := r1.freeze S1
  have L : ∀ {a : Addr} {vs : List V} {xs : List D}, SqL K G2 a vs → Reps K G2 xs vs → N (enumD 0 xs) s1 → R (Ite K a) H1 := fun {a vs xs} h1 r q => k _ s1 G2 H1 _ S2 (sm1.trans sm2)
    (itOk_enum r (fun i H x sm e => ⟨vs, x, Same.seq sm h1, e⟩) (fun i H v H' sm ⟨T, x, q1, q2, q3, q4⟩ => ⟨T, x, q1, q2, q3, q4 _ (Same.seq sm h1)⟩) (fun i H sm e => ⟨vs, Same.seq sm h1, e⟩)) q
  split at q1
  · rename_i xs e
    rw [e] at rep
    obtain ⟨a, vs, rfl, h2, h3⟩ := rep
    exact ⟨a, vs, rfl, .inl ⟨.of (S2.gH _ _ h2), L (.of h2) h3 q1⟩⟩
  · rename_i xs e
    rw [e] at rep
    obtain ⟨a, vs, rfl, h2, h3⟩ := rep
    exact ⟨a, vs, rfl, .inl ⟨Same.seq S2.gH h2, L h2 h3 q1⟩⟩
  · rename_i xs e
    rw [e] at rep
    obtain ⟨a, vs, rfl, h1, h3⟩ := rep
    refine ⟨a, vs, rfl, .inr ⟨Same.tup S2.gH h1, k _ s1 G2 H1 _ S2 (sm1.trans sm2)
      (itOk_enum h3 (fun i H x sm e => ⟨vs, x, Same.tup sm h1, e⟩) (fun i H v H' sm ⟨T, x, q1, q2, q3, q4⟩ => ⟨T, x, q1, q2, q3, q4 _ (Same.tup sm h1)⟩) (fun i H sm e => ⟨vs, Same.tup sm h1, e⟩)) q1⟩⟩
  · exact q1.elim
/-! ### targets -/
inductive Tg where
  | nm (i : Nat) | tp (ts : List Tg)
mutual
def bindTg : Tg → D → DSt → Option DSt
  | .nm i, d, s => some (s.set i (.sh d))
  | .tp ts, d, s => match d with
    | .tup ds => bindTgs ts ds s
    | .ftup ds => bindTgs ts ds s
    | .lst ds => bindTgs ts ds s
    | .klst ds => bindTgs ts ds s
    | _ => none
def bindTgs : List Tg → List D → DSt → Option DSt
  | [], ds, s => match ds with
    | [] => some s
    | _ :: _ => none
  | t :: ts, ds, s => match ds with
    | [] => none
    | d :: ds => match bindTg t d s with
      | some s1 => bindTgs ts ds s1
      | none => none
end
mutual
def slotsTg : Tg → List Nat
  | .nm i => [i]
  | .tp ts => slotsTgs ts
def slotsTgs : List Tg → List Nat
  | [] => []
  | t :: ts => slotsTg t ++ slotsTgs ts
end
/-- a tuple or a list, unpacked -/
def gSeq (K : PySem.W.Frag) (n : Nat) (t : TGs) : TG := fun v σ H Q => gTup K n t v σ H Q ∨ gUnl K n t v σ H Q
theorem pg_seq {X : Cx} {pos : Pos} {es : List Expr} {k : Nat} {t : TGs} {n : Nat} (hc : X.calm = true) (h : PGs X es t)
    (hn : (assignEach es X.env).length = n) (hst : (assignEach es X.env).findIdx? (·.1) = none) : PG X (.Tuple es k pos) (gSeq X.K n t) :=
  ⟨fun pins s σ H v u Q I r hw => hw.elim (fun hw => (pg_tup hc h hn hst).run pins s σ H v u Q I r hw) fun hw => (pg_unl hc h hn hst).run pins s σ H v u Q I r hw⟩
mutual
def gT (K : PySem.W.Frag) : Tg → TG
  | .nm i => gName i
  | .tp ts => gSeq K ts.length (gTs K ts)
def gTs (K : PySem.W.Frag) : List Tg → TGs
  | [] => gNil
  | t :: ts => gCons (gT K t) (gTs K ts)
end
theorem bindTgs_len : ∀ {ts : List Tg} {ds : List D} {s s1 : DSt}, bindTgs ts ds s = some s1 → ds.length = ts.length
  | [], ds, s, s1, e => by
    unfold bindTgs at e
    cases ds with
    | nil => rfl
    | cons d ds => cases e
  | t :: ts, ds, s, s1, e => by
    unfold bindTgs at e
    cases ds with
    | nil => cases e
    | cons d ds =>
      simp only at e
      cases q : bindTg t d s with
      | none => rw [q] at e; cases e
      | some s2 => rw [q] at e; exact congrArg Nat.succ (bindTgs_len e)
mutual
theorem bind_ok {B G H : Hp} : ∀ (t : Tg) (d : D) (s s1 : DSt) (σ : L2.St) (v : V) (Q : L2.St → Hp → Prop), bindTg t d s = some s1 → StRep K B G s σ H → Rep K G d v →
    (∀ σ1, StRep K B G s1 σ1 H → σ1.length = σ.length → (∀ j, j ∉ slotsTg t → σ1[j]? = σ[j]?) → Q σ1 H) → gT K t v σ H Q
  | .nm i, d, s, s1, σ, v, Q, e, S, r, k => by
    cases e
    refine k _ (S.set (r := .sh d) r i) (List.length_set ..) fun j hj => ?_
    have ne : i ≠ j := fun z => hj (by rw [← z]; simp [slotsTg])
    exact List.getElem?_set_ne ne
  | .tp ts, d, s, s1, σ, v, Q, e, S, r, k => by
    unfold bindTg at e
    cases d with
    | tup ds =>
      obtain ⟨a, vs, rfl, h2, h3⟩ := r
      exact .inl ⟨a, vs, rfl, Same.tup S.gH h2, h3.length.trans (bindTgs_len e), binds_ok ts ds s s1 σ vs Q e S h3 k⟩
    | ftup ds =>
      obtain ⟨a, vs, rfl, h2, h3⟩ := ftup_tup r
      exact .inl ⟨a, vs, rfl, Same.tup S.gH h2, h3.length.trans (bindTgs_len e), binds_ok ts ds s s1 σ vs Q e S h3 k⟩
    | lst ds =>
      obtain ⟨a, vs, rfl, h2, h3⟩ := r
      exact .inr ⟨a, vs, rfl, .of (S.gH _ _ h2), h3.length.trans (bindTgs_len e), binds_ok ts ds s s1 σ vs Q e S h3 k⟩
    | klst ds =>
      obtain ⟨a, vs, rfl, h2, h3⟩ := r
      exact .inr ⟨a, vs, rfl, Same.seq S.gH h2, h3.length.trans (bindTgs_len e), binds_ok ts ds s s1 σ vs Q e S h3 k⟩
    | _ => cases e
theorem binds_ok {B G H : Hp} : ∀ (ts : List Tg) (ds : List D) (s s1 : DSt) (σ : L2.St) (vs : List V) (Q : L2.St → Hp → Prop), bindTgs ts ds s = some s1 → StRep K B G s σ H → Reps K G ds vs →
    (∀ σ1, StRep K B G s1 σ1 H → σ1.length = σ.length → (∀ j, j ∉ slotsTgs ts → σ1[j]? = σ[j]?) → Q σ1 H) → gTs K ts vs σ H Q
  | [], ds, s, s1, σ, vs, Q, e, S, r, k => by
    unfold bindTgs at e
    cases ds with
    | nil => cases e; cases (show vs = [] from r); exact ⟨rfl, k σ S rfl fun _ _ => rfl⟩
    | cons d ds => cases e
  | t :: ts, ds, s, s1, σ, vs, Q, e, S, r, k => by
    unfold bindTgs at e
    cases ds with
    | nil => cases e
    | cons d ds =>
      simp only at e
      obtain ⟨v, r', rfl, h2, h3⟩ := r
      cases q : bindTg t d s with
      | none => rw [q] at e; cases e
      | some s2 =>
        rw [q] at e
        refine ⟨v, r', rfl, bind_ok t d s s2 σ v _ q S h2 fun σ1 S1 l1 f1 => ?_⟩
        refine binds_ok ts ds s2 s1 σ1 r' Q e S1 h3 fun σ2 S2 l2 f2 => k σ2 S2 (l2.trans l1) fun j hj => ?_
        unfold slotsTgs at hj
        rw [List.mem_append, not_or] at hj
        exact (f2 j hj.2).trans (f1 j hj.1)
end
/-! ### comprehensions -/
def wipeS (s : DSt) : List Nat → DSt
  | [] => s
  | v :: vs => (wipeS s vs).set v .no
def restore (own : List Nat) (s1 s2 : DSt) : DSt := match own with
  | [] => s2
  | v :: vs => (restore vs s1 s2).set v (match s1[v]? with
    | some x => x
    | none => .no)
def noOw (s : DSt) (own : List Nat) : Bool := own.all fun i => match s[i]? with
  | some (.ow _) => false
  | _ => true
/-- the loop: items, what is made of each -/
def lcGo (tg : Tg) (own : List Nat) (tt : DT) (el : DE) : List D → DSt → (List D → DSt → Prop) → Prop
  | [], s, R => R [] s
  | d :: ds, s, R => match bindTg tg d s with
    | none => False
    | some s1 => tt s1 fun b s2 => if b = true then el s2 fun r s3 => lcGo tg own tt el ds (wipeS s3 own) fun rs s4 => R (frz r :: rs) s4
      else lcGo tg own tt el ds (wipeS s2 own) R
def wLc (it : DI) (tg : Tg) (own : List Nat) (tt : DT) (el : DE) : DE := fun s R => it s fun items s1 => (items.length ≤ sizeLine ∧ noOw s1 own = true) ∧
  lcGo tg own tt el items (wipeS s1 own) fun rs s2 => R (.ow (.lst rs)) (restore own s1 s2)
theorem wipeS_len (s : DSt) : ∀ vs, (wipeS s vs).length = s.length
  | [] => rfl
  | v :: vs => by unfold wipeS; rw [List.length_set, wipeS_len s vs]
theorem wipeS_get {s : DSt} {i : Nat} {x : Sl} : ∀ {vs : List Nat}, (wipeS s vs)[i]? = some x → x ≠ .no → s[i]? = some x ∧ i ∉ vs
  | [], h, _ => ⟨h, by simp⟩
  | v :: vs, h, n => by
    unfold wipeS at h
    by_cases hi : v = i
    · subst hi
      have hl := getElem?_lt h
      rw [List.length_set] at hl
      rw [List.getElem?_set_self hl] at h
      cases h
      exact absurd rfl n
    · rw [List.getElem?_set_ne hi] at h
      obtain ⟨h1, h2⟩ := wipeS_get h n
      exact ⟨h1, by simp only [List.mem_cons, not_or]; exact ⟨fun e => hi e.symm, h2⟩⟩
theorem StRep.wipe {B G H : Hp} {s : DSt} {σ : L2.St} (S : StRep K B G s σ H) (vs : List Nat) : StRep K B G (wipeS s vs) (L2.wipe σ vs) H := by
  refine ⟨S.bH, S.gH, S.dj, S.tb, by rw [wipeS_len, wipe_length]; exact S.len, fun i d e => ?_, fun i d e => ?_, fun i j d e a h1 h2 h3 h4 => ?_⟩
  · obtain ⟨e1, ni⟩ := wipeS_get e (by intro q; cases q)
    obtain ⟨v, h1, h2⟩ := S.sh i d e1
    exact ⟨v, (wipe_out ni).trans h1, h2⟩
  · obtain ⟨e1, ni⟩ := wipeS_get e (by intro q; cases q)
    obtain ⟨a, o, h1, h2⟩ := S.ow i d e1
    exact ⟨a, o, (wipe_out ni).trans h1, h2⟩
  · obtain ⟨e1, ni⟩ := wipeS_get h1 (by intro q; cases q)
    obtain ⟨e2, nj⟩ := wipeS_get h2 (by intro q; cases q)
    rw [wipe_out ni] at h3
    rw [wipe_out nj] at h4
    exact S.ap i j d e a e1 e2 h3 h4
theorem wipe_eq {σ1 σ2 : L2.St} (l : σ1.length = σ2.length) : ∀ {vs : List Nat}, (∀ j, j ∉ vs → σ1[j]? = σ2[j]?) → wipe σ1 vs = wipe σ2 vs := fun {vs} h => by
  apply List.ext_getElem?
  intro j
  by_cases hj : j ∈ vs
  · have no : ∀ (σ : L2.St) (ws : List Nat), j ∈ ws → j < σ.length → (wipe σ ws)[j]? = some none := fun σ ws hm hl => by
      induction ws with
      | nil => cases hm
      | cons w ws ih =>
        unfold wipe
        by_cases e : w = j
        · subst e; rw [List.getElem?_set_self (by rw [wipe_length]; exact hl)]
        · rw [List.getElem?_set_ne e]
          rcases List.mem_cons.mp hm with q | q
          · exact absurd q.symm e
          · exact ih q
    by_cases hl : j < σ1.length
    · rw [no σ1 vs hj hl, no σ2 vs hj (by rw [← l]; exact hl)]
    · rw [List.getElem?_eq_none (by rw [wipe_length]; omega), List.getElem?_eq_none (by rw [wipe_length]; omega)]
  · rw [wipe_out hj, wipe_out hj, h j hj]
theorem wipe_wipe {σ : L2.St} {vs : List Nat} : wipe (wipe σ vs) vs = wipe σ vs := wipe_eq (wipe_length _ _) fun j hj => wipe_out hj
theorem restore_len (s1 s2 : DSt) : ∀ own, (restore own s1 s2).length = s2.length
  | [] => rfl
  | v :: vs => by unfold restore; rw [List.length_set, restore_len s1 s2 vs]
theorem restore_in {s1 s2 : DSt} {i : Nat} : ∀ {own : List Nat}, i ∈ own → i < s2.length → (restore own s1 s2)[i]? = some (match s1[i]? with
    | some x => x
    | none => .no)
  | v :: vs, h, l => by
    unfold restore
    by_cases e : v = i
    · subst e; rw [List.getElem?_set_self (by rw [restore_len]; exact l)]
    · rw [List.getElem?_set_ne e]
      rcases List.mem_cons.mp h with q | q
      · exact absurd q.symm e
      · exact restore_in q l
theorem restore_out {s1 s2 : DSt} {i : Nat} : ∀ {own : List Nat}, i ∉ own → (restore own s1 s2)[i]? = s2[i]?
  | [], _ => rfl
  | v :: vs, h => by
    unfold restore
    rw [List.mem_cons, not_or] at h
    rw [List.getElem?_set_ne (Ne.symm h.1)]
    exact restore_out h.2
/-- a guarded object is changed -/
theorem StRep.bupd {B G H : Hp} {s : DSt} {σ : L2.St} {a : Addr} {o o' : HO} (S : StRep K (upd B a o) G s σ H) (n1 : ∀ ps, o' ≠ .tbl ps := by intro ps z; cases z) (n2 : ∀ φ, o' ≠ .ext φ := by intro φ z; cases z) : StRep K (upd B a o') G s σ (upd H a o') := by
  have ga : G a = none := S.dj a o upd_same
  have ba : ∀ {b : Addr}, (upd B a o) b = none → b ≠ a := fun {b} h z => by subst z; rw [upd_same] at h; cases h
  refine ⟨fun b u q => ?_, fun b u q => ?_, fun b u q => ?_, S.tb.bupd (S.bH a o upd_same) n1 n2, S.len, S.sh, fun i d e => ?_, S.ap⟩
  · by_cases hb : b = a
    · subst hb; rw [upd_same] at q ⊢; exact q
    · rw [upd_ne hb] at q ⊢; exact S.bH b u (by rw [upd_ne hb]; exact q)
  · rw [upd_ne (ne_of_none q ga)]; exact S.gH b u q
  · by_cases hb : b = a
    · subst hb; exact ga
    · rw [upd_ne hb] at q; exact S.dj b u (by rw [upd_ne hb]; exact q)
  · obtain ⟨p, u, h1, h2, h3, h4, h5, h6⟩ := S.ow i d e
    have ne : p ≠ a := ba h3
    refine ⟨p, u, h1, h2, by rw [upd_ne ne] at h3 ⊢; exact h3, by rw [upd_ne ne]; exact h4, ?_, h6⟩
    cases d with
    | lst xs => obtain ⟨b, vs, e1, e2, e3⟩ := h5; cases e1; exact ⟨p, vs, rfl, by rw [upd_ne ne]; exact e2, e3⟩
    | pin p0 xs => obtain ⟨e1, vs, e2, e3⟩ := h5; cases e1; exact ⟨rfl, vs, by rw [upd_ne ne]; exact e2, e3⟩
    | dic ks xs => obtain ⟨b, vs, e1, e2, e3⟩ := h5; cases e1; exact ⟨p, vs, rfl, by rw [upd_ne ne]; exact e2, e3⟩
    | ins C ns xs => obtain ⟨b, dx, vs, e1, e2, e3⟩ := h5; cases e1; exact ⟨p, dx, vs, rfl, by rw [upd_ne ne]; exact e2, e3⟩
    | _ => cases h6
theorem StRep.guard {B G H : Hp} {s : DSt} {σ : L2.St} {a : Addr} {o : HO} (S : StRep K B G s σ H) (n : H a = none) (n1 : ∀ ps, o ≠ .tbl ps := by intro ps z; cases z) (n2 : ∀ φ, o ≠ .ext φ := by intro φ z; cases z) : StRep K (upd B a o) G s σ (upd H a o) := by
  have ga : G a = none := free_of S.gH n
  have S1 := S.grow (Gr.laid (o := o) S.gH n)
  refine ⟨fun b u q => ?_, S1.gH, fun b u q => ?_, S.tb.both n n1 n2, S1.len, S1.sh, fun i d e => ?_, S1.ap⟩
  · by_cases hb : b = a
    · subst hb; rw [upd_same] at q ⊢; exact q
    · rw [upd_ne hb] at q ⊢; exact S.bH b u q
  · by_cases hb : b = a
    · subst hb; exact ga
    · rw [upd_ne hb] at q; exact S.dj b u q
  · obtain ⟨p, u, h1, h2, h3, h4, h5, h6⟩ := S1.ow i d e
    obtain ⟨p', u', y1, y2, y3, y4, y5, y6⟩ := S.ow i d e
    rw [y1] at h1
    cases h1
    have ne : p ≠ a := fun z => by subst z; rw [n] at y4; cases y4
    exact ⟨p, u, y1, h2, by rw [upd_ne ne]; exact h3, h4, h5, h6⟩
theorem StRep.unguard {B G H : Hp} {s : DSt} {σ : L2.St} {a : Addr} {o : HO} (S : StRep K (upd B a o) G s σ H) (n : B a = none) : StRep K B G s σ H := by
  have sm : Same B (upd B a o) := fun b u q => by rw [upd_ne (ne_of_none q n)]; exact q
  refine ⟨sm.trans S.bH, S.gH, fun b u q => S.dj b u (sm b u q), S.tb.sub sm, S.len, S.sh, fun i d e => ?_, S.ap⟩
  obtain ⟨p, u, h1, h2, h3, h4⟩ := S.ow i d e
  refine ⟨p, u, h1, h2, ?_, h4⟩
  cases q : B p with
  | none => rfl
  | some z => rw [sm p z q] at h3; cases h3
theorem StRep.restore {B G G1 H H1 : Hp} {s1 s : DSt} {σ : L2.St} {own : List Nat} (S1 : StRep K B G1 s1 σ H1) (sm : Same G1 G) (no : noOw s1 own = true) (S : StRep K B G s (L2.wipe σ own) H) : StRep K B G (DL.restore own s1 s) σ H := by
  have ls : s.length = σ.length := by rw [S.len, wipe_length]
  have inn : ∀ {i : Nat} {x : Sl}, i ∈ own → (DL.restore own s1 s)[i]? = some x → x ≠ .no → s1[i]? = some x := fun {i x} hi e n => by
    have hl : i < s.length := by have := getElem?_lt e; rw [restore_len] at this; exact this
    rw [restore_in hi hl] at e
    cases q : s1[i]? with
    | none => rw [q] at e; cases e; exact absurd rfl n
    | some y => rw [q] at e; exact e
  refine ⟨S.bH, S.gH, S.dj, S.tb, by rw [restore_len]; exact ls, fun i d e => ?_, fun i d e => ?_, fun i j d e a h1 h2 h3 h4 => ?_⟩
  · by_cases hi : i ∈ own
    · obtain ⟨v, h1, h2⟩ := S1.sh i d (inn hi e (by intro q; cases q))
      exact ⟨v, h1, Rep.mono sm _ _ h2⟩
    · rw [restore_out hi] at e
      obtain ⟨v, h1, h2⟩ := S.sh i d e
      exact ⟨v, by rw [← wipe_out hi]; exact h1, h2⟩
  · by_cases hi : i ∈ own
    · have q := inn hi e (by intro q; cases q)
      have z := List.all_eq_true.mp no i hi
      rw [q] at z
      cases z
    · rw [restore_out hi] at e
      obtain ⟨p, u, h1, h2⟩ := S.ow i d e
      exact ⟨p, u, by rw [← wipe_out hi]; exact h1, h2⟩
  · have ni : ∀ {k : Nat} {x : D}, (DL.restore own s1 s)[k]? = some (.ow x) → k ∉ own := fun {k x} z hk => by
      have q := inn hk z (by intro q; cases q)
      have z := List.all_eq_true.mp no k hk
      rw [q] at z
      cases z
    have n1 := ni h1
    have n2 := ni h2
    rw [restore_out n1] at h1
    rw [restore_out n2] at h2
    rw [← wipe_out (vs := own) n1] at h3
    rw [← wipe_out (vs := own) n2] at h4
    exact S.ap i j d e a h1 h2 h3 h4
theorem lift_lc {it : DI} {tg : Tg} {own : List Nat} {tt : DT} {el : DE} (hs : ∀ j ∈ slotsTg tg, j ∈ own) {σ : L2.St} {H : Hp} {Q : VK} (h : lift K (wLc it tg own tt el) σ H Q) : tLc (liftI K it) (gT K tg) (liftT K tt) (lift K el) own σ H Q := by
  obtain ⟨B, G, s, R, S, hw, k⟩ := h
  refine ⟨B, G, s, _, S, hw, fun items s1 G1 H1 J S1 sm1 ok q1 => ?_⟩
  obtain ⟨⟨hlen, hno⟩, q1⟩ := q1
  intro Da hD
  have bD : B Da = none := free_of S1.bH hD
  have S1w : StRep K (upd B Da (.lst [])) G1 (wipeS s1 own) (wipe σ own) (upd H1 Da (.lst [])) := (S1.wipe own).guard hD
  refine ⟨fun i m H' => m = items.length - i ∧ i ≤ items.length ∧ ∃ (acc : List V) (ad : List D) (s' : DSt) (G' : Hp), StRep K (upd B Da (.lst acc)) G' s' (wipe σ own) H' ∧ Same G1 G' ∧ Reps K G' ad acc ∧ ad.length ≤ i ∧
    lcGo tg own tt el (items.drop i) s' (fun rs s4 => R (.ow (.lst (ad ++ rs))) (DL.restore own s1 s4)), ⟨items.length, by simp, Nat.zero_le _, [], [], _, G1, S1w, .refl _, rfl, Nat.le_refl _, q1⟩, ?_⟩
  rintro i m H' ⟨rfl, hi, acc, ad, s', G', S', sm', ra, hl, go⟩
  by_cases hlt : i < items.length
  · refine .inr ⟨ok.go i H' (sm'.trans S'.gH) hlt, fun H2 => ∃ (acc : List V) (ad : List D) (s' : DSt) (G' : Hp), StRep K (upd B Da (.lst acc)) G' s' (wipe σ own) H2 ∧ Same G1 G' ∧ Reps K G' ad acc ∧ ad.length ≤ i + 1 ∧
      lcGo tg own tt el (items.drop (i + 1)) s' (fun rs s4 => R (.ow (.lst (ad ++ rs))) (DL.restore own s1 s4)), fun H2 p => ⟨items.length - (i + 1), by omega, rfl, hlt, p⟩, fun x H2 y => ?_⟩
    rw [List.drop_eq_getElem_cons hlt] at go
    obtain ⟨G2, g2, rx⟩ := ok.yl i G' H' x H2 items[i] sm' S'.gH y (List.getElem?_eq_getElem hlt)
    have S2 := S'.grow g2
    unfold lcGo at go
    split at go
    · exact go.elim
    · rename_i s3 eb
      refine bind_ok tg _ s' s3 _ x _ eb S2 rx fun σ3 S3 l3 f3 => ?_
      have ew : wipe σ3 own = wipe σ own := (wipe_eq l3 fun j hj => f3 j fun z => hj (hs j z)).trans wipe_wipe
      refine ⟨by rw [ew], ?_⟩
      refine ⟨_, G2, s3, _, S3, go, fun b s4 G4 H4 S4 sm4 q4 => ?_⟩
      cases b with
      | false =>
        refine iteF ⟨acc, ad, wipeS s4 own, G4, ?_, (sm'.trans g2.g).trans sm4, Reps.mono (g2.g.trans sm4) _ _ ra, Nat.le_succ_of_le hl, ?_⟩
        · rw [← ew]; exact S4.wipe own
        · simpa using q4
      | true =>
        refine iteT ⟨_, G4, s4, _, S4, (by simpa using q4), fun r s5 G5 H5 v S5 sm5 r5 q5 => ?_⟩
        obtain ⟨G6, S6, sm6, rep⟩ := r5.freeze S5
        have sm16 : Same G' G6 := ((g2.g.trans sm4).trans sm5).trans sm6
        have rl : acc.length = ad.length := ra.length
        refine ⟨acc, S5.bH _ _ upd_same, by omega, acc ++ [v], ad ++ [frz r], wipeS s5 own, G6, ?_, sm'.trans sm16, (Reps.mono sm16 _ _ ra).append (.cons rep rfl), by rw [List.length_append]; exact Nat.succ_le_succ hl, ?_⟩
        · rw [← ew]; exact (S6.bupd (o' := .lst (acc ++ [v]))).wipe own
        · simpa using q5
  · have e : i = items.length := by omega
    subst e
    refine .inl ⟨ok.st H' (sm'.trans S'.gH), ?_⟩
    rw [List.drop_length] at go
    have Su := S'.unguard bD
    have Sr := S1.restore sm' hno Su
    refine k (.ow (.lst ad)) _ G' H' (.ref Da) Sr (sm1.trans sm') ⟨Da, _, rfl, ?_, bD, S'.bH _ _ upd_same, ⟨Da, acc, rfl, S'.bH _ _ upd_same, ra⟩, rfl, fun j d e => ?_⟩ (by simpa [lcGo] using go)
    · exact S'.dj Da _ upd_same
    · intro z
      by_cases hj : j ∈ own
      · have hl2 : j < s'.length := by have := getElem?_lt e; rw [restore_len] at this; exact this
        rw [restore_in hj hl2] at e
        have zz := List.all_eq_true.mp hno j hj
        cases q : s1[j]? with
        | none => rw [q] at e; cases e
        | some y => rw [q] at e; rw [q] at zz; cases e; cases zz
      · rw [restore_out hj] at e
        obtain ⟨p, u, h1, h2, h3, _⟩ := S'.ow j d e
        rw [wipe_out hj] at h1
        rw [z] at h1
        cases h1
        rw [upd_same] at h3
        cases h3
end
end DL

namespace DL
variable [TB]
open PySem PySem.Spec PyProof.Rows L2
/-! ### statements -/
structure DEnds where
  nx : DSt → Prop
  rt : Sl → DSt → Prop
  bk : DSt → Prop
  ct : DSt → Prop
abbrev DS := DEnds → DSt → Prop
def Pn (pn : List (Nat × V)) (σ : L2.St) : Prop := ∀ p ∈ pn, σ[p.1]? = some (some p.2)
structure EndsOk (K : PySem.W.Frag) (B G : Hp) (pn : List (Nat × V)) (N : DEnds) (De : Ends) : Prop where
  nx : ∀ s' G' σ' H', StRep K B G' s' σ' H' → Same G G' → Pn pn σ' → N.nx s' → De.nx σ' H'
  bk : ∀ s' G' σ' H', StRep K B G' s' σ' H' → Same G G' → Pn pn σ' → N.bk s' → De.bk σ' H'
  ct : ∀ s' G' σ' H', StRep K B G' s' σ' H' → Same G G' → Pn pn σ' → N.ct s' → De.ct σ' H'
  rt : ∀ r s' G' σ' H' v, StRep K B G' s' σ' H' → Same G G' → Pn pn σ' → RRep K B G' H' s' σ' r v → N.rt r s' → De.rt v H'
theorem EndsOk.mono {K : PySem.W.Frag} {B G G' : Hp} {pn : List (Nat × V)} {N : DEnds} {De : Ends} (h : EndsOk K B G pn N De) (e : Same G G') : EndsOk K B G' pn N De :=
  ⟨fun s' G2 σ' H' S sm => h.nx s' G2 σ' H' S (e.trans sm), fun s' G2 σ' H' S sm => h.bk s' G2 σ' H' S (e.trans sm), fun s' G2 σ' H' S sm => h.ct s' G2 σ' H' S (e.trans sm), fun r s' G2 σ' H' v S sm => h.rt r s' G2 σ' H' v S (e.trans sm)⟩
/-- kp: the slots that are never stored to (borrowed parameters) -/
def liftS (K : PySem.W.Frag) (kp : List Nat) (w : DS) : TS := fun De σ H => ∃ B G s N pn, StRep K B G s σ H ∧ (∀ p ∈ pn, p.1 ∈ kp) ∧ Pn pn σ ∧ w N s ∧ EndsOk K B G pn N De
section
variable {K : PySem.W.Frag} {kp : List Nat} {De : Ends} {σ : L2.St} {H : Hp}
def wNext : DS := fun N s => N.nx s
def wSq (a b : DS) : DS := fun N s => a { N with nx := b N } s
theorem lift_next (h : liftS K kp wNext De σ H) : tNext De σ H := by
  obtain ⟨B, G, s, N, pn, S, hp, p, hw, e⟩ := h
  exact e.nx s G σ H S (.refl _) p hw
theorem lift_sq {a b : DS} (h : liftS K kp (wSq a b) De σ H) : tSeq (liftS K kp a) (liftS K kp b) De σ H := by
  obtain ⟨B, G, s, N, pn, S, hp, p, hw, e⟩ := h
  exact ⟨B, G, s, _, pn, S, hp, p, hw, fun s' G' σ' H' S' sm p' q => ⟨B, G', s', N, pn, S', hp, p', q, e.mono sm⟩, e.bk, e.ct, e.rt⟩
def wBrk : DS := fun N s => N.bk s
def wCnt : DS := fun N s => N.ct s
theorem lift_brk (h : liftS K kp wBrk De σ H) : tBreak De σ H := by
  obtain ⟨B, G, s, N, pn, S, hp, p, hw, e⟩ := h
  exact e.bk s G σ H S (.refl _) p hw
theorem lift_cnt (h : liftS K kp wCnt De σ H) : tCont De σ H := by
  obtain ⟨B, G, s, N, pn, S, hp, p, hw, e⟩ := h
  exact e.ct s G σ H S (.refl _) p hw
def wDrop (w : DE) : DS := fun N s => w s fun _ s' => N.nx s'
theorem lift_drop {w : DE} (h : liftS K kp (wDrop w) De σ H) : tDrop (lift K w) De σ H := by
  obtain ⟨B, G, s, N, pn, S, hp, p, hw, e⟩ := h
  exact ⟨B, G, s, _, S, hw, fun r s' G' H' v S' sm rr q => e.nx s' G' σ H' S' sm p q⟩
def wRet (w : DE) : DS := fun N s => w s N.rt
theorem lift_ret {w : DE} (h : liftS K kp (wRet w) De σ H) : tRet (lift K w) De σ H := by
  obtain ⟨B, G, s, N, pn, S, hp, p, hw, e⟩ := h
  exact ⟨B, G, s, _, S, hw, fun r s' G' H' v S' sm rr q => e.rt r s' G' σ H' v S' sm p rr q⟩
def wRetN : DS := fun N s => N.rt (.sh .non) s
theorem lift_retN (h : liftS K kp wRetN De σ H) : tRetN De σ H := by
  obtain ⟨B, G, s, N, pn, S, hp, p, hw, e⟩ := h
  exact e.rt (.sh .non) s G σ H .non S (.refl _) p rfl hw
/-- a name's object is handed out -/
theorem StRep.move {B G : Hp} {s : DSt} (S : StRep K B G s σ H) {i : Nat} {d : D} (h : s[i]? = some (.ow d)) : ∃ v, σ[i]? = some (some v) ∧ StRep K B G (s.set i .no) σ H ∧ RRep K B G H (s.set i .no) σ (.ow d) v := by
  obtain ⟨a, o, h1, h2, h3, h4, h5, h6⟩ := S.ow i d h
  refine ⟨_, h1, S.clear i, a, o, rfl, h2, h3, h4, h5, h6, fun j e q z => ?_⟩
  by_cases hj : i = j
  · subst hj
    rw [List.getElem?_set_self (getElem?_lt h)] at q
    cases q
  · rw [List.getElem?_set_ne hj] at q
    exact hj (S.ap i j d e a h q h1 z)
def wRetV (kp : List Nat) (i : Nat) : DS := fun N s => match s[i]? with
  | some (.sh d) => N.rt (.sh d) s
  | some (.ow d) => if i ∈ kp then N.rt (.sh d) (s.set i (.sh d)) else N.rt (.ow d) (s.set i .no)
  | _ => False
theorem lift_retV {i : Nat} (h : liftS K kp (wRetV kp i) De σ H) : tRet (tVar i) De σ H := by
  obtain ⟨B, G, s, N, pn, S, hp, p, hw, e⟩ := h
  unfold wRetV at hw
  split at hw
  · rename_i d q
    obtain ⟨v, h1, h2⟩ := S.sh i d q
    exact ⟨v, h1, e.rt (.sh d) s G σ H v S (.refl _) p h2 hw⟩
  · rename_i d q
    split at hw
    · obtain ⟨G', v, S', sm, h1, h2⟩ := S.frzSlot q
      exact ⟨v, h1, e.rt (.sh d) _ G' σ H v S' sm p h2 hw⟩
    · obtain ⟨v, h1, S', r⟩ := S.move q
      exact ⟨v, h1, e.rt (.ow d) _ G σ H v S' (.refl _) p r hw⟩
  · exact hw.elim
def wIf (t : DT) (a b : DS) : DS := fun N s => t s fun c s' => if c = true then a N s' else b N s'
theorem lift_if {t : DT} {a b : DS} (h : liftS K kp (wIf t a b) De σ H) : tIfS (liftT K t) (liftS K kp a) (liftS K kp b) De σ H := by
  obtain ⟨B, G, s, N, pn, S, hp, p, hw, e⟩ := h
  refine ⟨B, G, s, _, S, hw, fun c s1 G1 H1 S1 sm1 q1 => ?_⟩
  cases c with
  | true => exact iteT ⟨B, G1, s1, N, pn, S1, hp, p, q1, e.mono sm1⟩
  | false => exact iteF ⟨B, G1, s1, N, pn, S1, hp, p, q1, e.mono sm1⟩
theorem Pn.keep {pn : List (Nat × V)} {σ σ1 : L2.St} (p : Pn pn σ) (h : ∀ q ∈ pn, σ1[q.1]? = σ[q.1]?) : Pn pn σ1 := fun q hq => (h q hq).trans (p q hq)
/-- name = value -/
def wSet (i : Nat) (w : DE) : DS := fun N s => w s fun r s' => N.nx (s'.set i r)
theorem lift_set {i : Nat} {w : DE} (hi : i ∉ kp) (h : liftS K kp (wSet i w) De σ H) : tAsg (lift K w) (gName i) De σ H := by
  obtain ⟨B, G, s, N, pn, S, hp, p, hw, e⟩ := h
  refine ⟨B, G, s, _, S, hw, fun r s' G' H' v S' sm rr q => ?_⟩
  refine e.nx _ G' _ H' (S'.set rr i) sm (p.keep fun z hz => ?_) q
  have ne : i ≠ z.1 := fun y => hi (by rw [y]; exact hp z hz)
  exact List.getElem?_set_ne ne
/-- names = value -/
def wUnp (tg : Tg) (w : DE) : DS := fun N s => w s fun r s' => match bindTg tg (frz r) s' with
  | some s2 => N.nx s2
  | none => False
theorem lift_unp {tg : Tg} {w : DE} (hi : ∀ j ∈ slotsTg tg, j ∉ kp) (h : liftS K kp (wUnp tg w) De σ H) : tAsg (lift K w) (gT K tg) De σ H := by
  obtain ⟨B, G, s, N, pn, S, hp, p, hw, e⟩ := h
  refine ⟨B, G, s, _, S, hw, fun r s' G' H' v S' sm rr q => ?_⟩
  obtain ⟨G2, S2, sm2, rep⟩ := rr.freeze S'
  split at q
  · rename_i s2 eb
    exact bind_ok tg _ s' s2 σ v _ eb S2 rep fun σ1 S3 l f => e.nx s2 G2 σ1 H' S3 (sm.trans sm2) (p.keep fun z hz => f _ fun y => hi _ y (hp z hz)) q
  · exact q.elim
/-- an owned result is guarded -/
theorem RRep.guard {B G : Hp} {s : DSt} {d : D} {v : V} (S : StRep K B G s σ H) (h : RRep K B G H s σ (.ow d) v) : ∃ p o, v = .ref p ∧ H p = some o ∧ B p = none ∧ StRep K (upd B p o) G s σ H ∧
    ∀ {G2 H2 : Hp} {s2 : DSt}, StRep K (upd B p o) G2 s2 σ H2 → Same G G2 → StRep K B G2 s2 σ H2 ∧ RRep K B G2 H2 s2 σ (.ow d) (.ref p) := by
  obtain ⟨p, o, rfl, h2, h3, h4, h5, h6, h7⟩ := h
  refine ⟨p, o, rfl, h4, h3, ⟨fun b u q => ?_, S.gH, fun b u q => ?_, S.tb.putB h4 (own_tbl h4 h5 h6) (own_ext h4 h5 h6), S.len, S.sh, fun i e q => ?_, S.ap⟩, fun {G2 H2 s2} S2 sm => ⟨S2.unguard h3, p, o, rfl, S2.dj p o upd_same, h3, S2.bH p o upd_same, ?_, h6, fun i e q z => ?_⟩⟩
  · by_cases hb : b = p
    · subst hb; rw [upd_same] at q; cases q; exact h4
    · rw [upd_ne hb] at q; exact S.bH b u q
  · by_cases hb : b = p
    · subst hb; exact h2
    · rw [upd_ne hb] at q; exact S.dj b u q
  · obtain ⟨a, u, y1, y2, y3, y4, y5, y6⟩ := S.ow i e q
    have ne : a ≠ p := fun z => by subst z; exact h7 i e q y1
    exact ⟨a, u, y1, y2, by rw [upd_ne ne]; exact y3, y4, y5, y6⟩
  · have hp := S2.bH p o upd_same
    cases d with
    | lst xs => obtain ⟨b, vs, e1, e2, e3⟩ := h5; cases e1; rw [h4] at e2; cases e2; exact ⟨p, vs, rfl, hp, Reps.mono sm _ _ e3⟩
    | pin p0 xs => obtain ⟨e1, vs, e2, e3⟩ := h5; cases e1; rw [h4] at e2; cases e2; exact ⟨rfl, vs, hp, Reps.mono sm _ _ e3⟩
    | dic ks xs => obtain ⟨b, vs, e1, e2, e4, e3⟩ := h5; cases e1; rw [h4] at e2; cases e2; exact ⟨p, vs, rfl, hp, e4, Reps.mono sm _ _ e3⟩
    | ins C ns xs => obtain ⟨b, dx, vs, e1, e2, e4, e3⟩ := h5; cases e1; rw [h4] at e2; cases e2; exact ⟨p, dx, vs, rfl, hp, e4, Reps.mono sm _ _ e3⟩
    | _ => cases h6
  · obtain ⟨a, u, y1, y2, y3, _⟩ := S2.ow i e q
    rw [z] at y1
    cases y1
    rw [upd_same] at y3
    cases y3
/-- a, b = x, y -/
def wPar (i j : Nat) (a b : DE) : DS := fun N s => a s fun r1 s1 => b s1 fun r2 s2 => N.nx ((s2.set i r1).set j r2)
theorem lift_par {i j : Nat} {a b : DE} (hi : i ∉ kp) (hj : j ∉ kp) (h : liftS K kp (wPar i j a b) De σ H) : tPar i j (tCons (lift K a) (tCons (lift K b) tNil)) De σ H := by
  obtain ⟨B, G, s, N, pn, S, hp, p, hw, e⟩ := h
  have pk : ∀ x y, Pn pn ((σ.set i x).set j y) := fun x y => p.keep fun z hz => by
    have ne : i ≠ z.1 := fun q => hi (by rw [q]; exact hp z hz)
    have ne2 : j ≠ z.1 := fun q => hj (by rw [q]; exact hp z hz)
    rw [List.getElem?_set_ne ne2, List.getElem?_set_ne ne]
  have two : ∀ {G2 H2 : Hp} {s2 : DSt} {r1 r2 : Sl} {v u : V}, StRep K B G2 s2 σ H2 → RRep K B G2 H2 s2 σ r1 v → RRep K B G2 H2 s2 σ r2 u → (∀ d e, r1 = .ow d → r2 = .ow e → v ≠ u) → StRep K B G2 ((s2.set i r1).set j r2) ((σ.set i (some v)).set j (some u)) H2 := by
    intro G2 H2 s2 r1 r2 v u S2 q1 q2 q3
    refine (S2.set q1 i).set (v := u) ?_ j
    cases r2 with
    | no => exact q2
    | sh d => exact q2
    | ow d =>
      obtain ⟨p', o, rfl, y2, y3, y4, y5, y6, y7⟩ := q2
      refine ⟨p', o, rfl, y2, y3, y4, y5, y6, fun k e q z => ?_⟩
      by_cases hk : i = k
      · subst hk
        have hl := getElem?_lt q
        rw [List.length_set] at hl
        rw [List.getElem?_set_self hl] at q
        rw [List.getElem?_set_self (by rw [← S2.len]; exact hl)] at z
        cases q
        cases z
        exact q3 e d rfl rfl rfl
      · rw [List.getElem?_set_ne hk] at q z
        exact y7 k e q z
  refine ⟨B, G, s, _, S, hw, fun r1 s1 G1 H1 v S1 sm1 rr q1 => ?_⟩
  cases r1 with
  | no => exact rr.elim
  | sh d =>
    refine ⟨B, G1, s1, _, S1, q1, fun r2 s2 G2 H2 u S2 sm2 rr2 q2 => ⟨v, u, rfl, ?_⟩⟩
    exact e.nx _ G2 _ H2 (two S2 (r1 := .sh d) (Rep.mono sm2 _ _ rr) rr2 (fun _ _ z => by cases z)) (sm1.trans sm2) (pk _ _) q2
  | ow d =>
    obtain ⟨p', o, rfl, hpo, hbp, Sg, back⟩ := rr.guard S1
    refine ⟨upd B p' o, G1, s1, _, Sg, q1, fun r2 s2 G2 H2 u S2 sm2 rr2 q2 => ⟨_, u, rfl, ?_⟩⟩
    obtain ⟨S2', rr1⟩ := back S2 sm2
    have rr2' : RRep K B G2 H2 s2 σ r2 u ∧ ∀ e, r2 = .ow e → V.ref p' ≠ u := by
      cases r2 with
      | no => exact rr2.elim
      | sh d => exact ⟨rr2, fun _ z => by cases z⟩
      | ow d2 =>
        obtain ⟨p2, o2, rfl, y2, y3, y4, y5, y6, y7⟩ := rr2
        have ne : p2 ≠ p' := fun z => by subst z; rw [upd_same] at y3; cases y3
        exact ⟨⟨p2, o2, rfl, y2, by rw [upd_ne ne] at y3; exact y3, y4, y5, y6, y7⟩, fun _ _ z => by cases z; exact ne rfl⟩
    exact e.nx _ G2 _ H2 (two S2' rr1 rr2'.1 fun d' e' _ z => rr2'.2 e' z) (sm1.trans sm2) (pk _ _) q2
/-- for -/
def forGo (tg : Tg) (body : DS) (N : DEnds) : List D → DSt → Prop
  | [], s => N.nx s
  | d :: ds, s => match bindTg tg d s with
    | none => False
    | some s1 => body { nx := forGo tg body N ds, rt := N.rt, bk := N.nx, ct := forGo tg body N ds } s1
def wFor (it : DI) (tg : Tg) (body : DS) : DS := fun N s => it s fun items s1 => forGo tg body N items s1
theorem lift_for {it : DI} {tg : Tg} {body : DS} (hi : ∀ j ∈ slotsTg tg, j ∉ kp) (h : liftS K kp (wFor it tg body) De σ H) : tFor (liftI K it) (gT K tg) (liftS K kp body) De σ H := by
  obtain ⟨B, G, s, N, pn, S, hp, p, hw, e⟩ := h
  refine ⟨B, G, s, _, S, hw, fun items s1 G1 H1 J S1 sm1 ok q1 => ?_⟩
  refine ⟨fun i m σ' H' => m = items.length - i ∧ i ≤ items.length ∧ ∃ s' G', StRep K B G' s' σ' H' ∧ Same G1 G' ∧ Pn pn σ' ∧ forGo tg body N (items.drop i) s', ⟨items.length, by simp, Nat.zero_le _, s1, G1, S1, .refl _, p, q1⟩, ?_⟩
  rintro i m σ' H' ⟨rfl, hil, s', G', S', sm', p', go⟩
  by_cases hlt : i < items.length
  · refine .inr ⟨ok.go i H' (sm'.trans S'.gH) hlt, fun σ2 H2 => ∃ s' G', StRep K B G' s' σ2 H2 ∧ Same G1 G' ∧ Pn pn σ2 ∧ forGo tg body N (items.drop (i + 1)) s', fun σ2 H2 q => ⟨items.length - (i + 1), by omega, rfl, hlt, q⟩, fun x H2 y => ?_⟩
    rw [List.drop_eq_getElem_cons hlt] at go
    obtain ⟨G2, g2, rx⟩ := ok.yl i G' H' x H2 items[i] sm' S'.gH y (List.getElem?_eq_getElem hlt)
    have S2 := S'.grow g2
    unfold forGo at go
    split at go
    · exact go.elim
    · rename_i s3 eb
      refine bind_ok tg _ s' s3 σ' x _ eb S2 rx fun σ3 S3 l3 f3 => ?_
      have p3 : Pn pn σ3 := p'.keep fun z hz => f3 _ fun y => hi _ y (hp z hz)
      have sm3 : Same G1 G2 := sm'.trans g2.g
      exact ⟨B, G2, s3, _, pn, S3, hp, p3, go, fun s4 G4 σ4 H4 S4 sm4 p4 q4 => ⟨s4, G4, S4, sm3.trans sm4, p4, q4⟩, fun s4 G4 σ4 H4 S4 sm4 p4 q4 => e.nx s4 G4 σ4 H4 S4 ((sm1.trans sm3).trans sm4) p4 q4,
        fun s4 G4 σ4 H4 S4 sm4 p4 q4 => ⟨s4, G4, S4, sm3.trans sm4, p4, q4⟩, fun r s4 G4 σ4 H4 v S4 sm4 p4 rr q4 => e.rt r s4 G4 σ4 H4 v S4 ((sm1.trans sm3).trans sm4) p4 rr q4⟩
  · have ei : i = items.length := by omega
    subst ei
    rw [List.drop_length] at go
    exact .inl ⟨ok.st H' (sm'.trans S'.gH), e.nx s' G' σ' H' S' (sm1.trans sm') p' go⟩
/-- while, by a bound of its turns -/
def whGo (t : DT) (body : DS) (N : DEnds) : Nat → DSt → Prop
  | 0, _ => False
  | n + 1, s => t s fun b s1 => if b = true then body { nx := whGo t body N n, rt := N.rt, bk := N.nx, ct := whGo t body N n } s1 else N.nx s1
def wWhile (t : DT) (body : DS) : DS := fun N s => ∃ n, whGo t body N n s
theorem lift_while {t : DT} {body : DS} (h : liftS K kp (wWhile t body) De σ H) : tWhile (liftT K t) (liftS K kp body) De σ H := by
  obtain ⟨B, G, s, N, pn, S, hp, p, ⟨n, hw⟩, e⟩ := h
  refine ⟨fun m σ' H' => ∃ s' G', StRep K B G' s' σ' H' ∧ Same G G' ∧ Pn pn σ' ∧ whGo t body N m s', ⟨n, s, G, S, .refl _, p, hw⟩, ?_⟩
  rintro m σ' H' ⟨s', G', S', sm', p', go⟩
  cases m with
  | zero => exact go.elim
  | succ m =>
    refine ⟨B, G', s', _, S', go, fun b s1 G1 H1 S1 sm1 q1 => ?_⟩
    cases b with
    | false => exact iteF (e.nx s1 G1 σ' H1 S1 (sm'.trans sm1) p' q1)
    | true =>
      refine iteT ⟨fun σ2 H2 => ∃ s' G', StRep K B G' s' σ2 H2 ∧ Same G G' ∧ Pn pn σ2 ∧ whGo t body N m s', fun σ2 H2 q => ⟨m, Nat.lt_succ_self m, q⟩, ?_⟩
      exact ⟨B, G1, s1, _, pn, S1, hp, p', q1, fun s4 G4 σ4 H4 S4 sm4 p4 q4 => ⟨s4, G4, S4, (sm'.trans sm1).trans sm4, p4, q4⟩, fun s4 G4 σ4 H4 S4 sm4 p4 q4 => e.nx s4 G4 σ4 H4 S4 ((sm'.trans sm1).trans sm4) p4 q4,
        fun s4 G4 σ4 H4 S4 sm4 p4 q4 => ⟨s4, G4, S4, (sm'.trans sm1).trans sm4, p4, q4⟩, fun r s4 G4 σ4 H4 v S4 sm4 p4 rr q4 => e.rt r s4 G4 σ4 H4 v S4 ((sm'.trans sm1).trans sm4) p4 rr q4⟩
/-! ### changes of an owned object -/
/-- the owned object at slot i gets another content -/
theorem StRep.chg {B G : Hp} {s : DSt} (S : StRep K B G s σ H) {i : Nat} {d d' : D} {a : Addr} {o' : HO} (h : s[i]? = some (.ow d)) (ha : σ[i]? = some (some (.ref a))) (w : ownable d' = true) (t : ∀ H' : Hp, H' a = some o' → Top K G H' d' (.ref a)) : StRep K B G (s.set i (.ow d')) σ (upd H a o') := by
  obtain ⟨p, o, h1, h2, h3, h4, h5, h6⟩ := S.ow i d h
  rw [ha] at h1
  cases h1
  have hi := getElem?_lt h
  refine ⟨fun b u q => ?_, fun b u q => ?_, S.dj, S.tb.wr h4 (own_tbl h4 h5 h6) (own_ext h4 h5 h6), by rw [List.length_set]; exact S.len, fun j e q => ?_, fun j e q => ?_, fun j k e f b q1 q2 q3 q4 => ?_⟩
  · rw [upd_ne (ne_of_none q h3)]; exact S.bH b u q
  · rw [upd_ne (ne_of_none q h2)]; exact S.gH b u q
  · by_cases hj : i = j
    · subst hj; rw [List.getElem?_set_self hi] at q; cases q
    · rw [List.getElem?_set_ne hj] at q; exact S.sh j e q
  · by_cases hj : i = j
    · subst hj
      rw [List.getElem?_set_self hi] at q
      cases q
      exact ⟨a, o', ha, h2, h3, upd_same, t _ upd_same, w⟩
    · rw [List.getElem?_set_ne hj] at q
      obtain ⟨b, u, y1, y2, y3, y4, y5, y6⟩ := S.ow j e q
      have ne : b ≠ a := fun z => by subst z; exact hj (S.ap i j d e _ h q ha y1)
      refine ⟨b, u, y1, y2, y3, by rw [upd_ne ne]; exact y4, ?_, y6⟩
      cases e with
      | lst xs => obtain ⟨c, vs, e1, e2, e3⟩ := y5; cases e1; exact ⟨b, vs, rfl, by rw [upd_ne ne]; exact e2, e3⟩
      | pin p0 xs => obtain ⟨e1, vs, e2, e3⟩ := y5; cases e1; exact ⟨rfl, vs, by rw [upd_ne ne]; exact e2, e3⟩
      | dic ks xs => obtain ⟨c, vs, e1, e2, e3⟩ := y5; cases e1; exact ⟨b, vs, rfl, by rw [upd_ne ne]; exact e2, e3⟩
      | ins C ns xs => obtain ⟨c, dx, vs, e1, e2, e3⟩ := y5; cases e1; exact ⟨b, dx, vs, rfl, by rw [upd_ne ne]; exact e2, e3⟩
      | _ => cases y6
  · have fw : ∀ {l : Nat} {x : D}, (s.set i (.ow d'))[l]? = some (.ow x) → ∃ y, s[l]? = some (.ow y) := fun {l x} z => by
      by_cases hl : i = l
      · subst hl; exact ⟨d, h⟩
      · rw [List.getElem?_set_ne hl] at z; exact ⟨x, z⟩
    obtain ⟨y1, z1⟩ := fw q1
    obtain ⟨y2, z2⟩ := fw q2
    exact S.ap j k y1 y2 b z1 z2 q3 q4
/-- x[i] = e of a list -/
def wSti (i : Nat) (ix : DO) (e : DE) : DS := fun N s => e s fun r s1 => (content s1 i).isSome = true ∧ ix s1 fun o s2 => match resO s2 o, s2[i]? with
  | some (.int k), some (.ow (.lst xs)) => (match ixN xs.length k with
    | some j => N.nx (s2.set i (.ow (.lst (xs.set j (frz r)))))
    | none => False)
  | _, _ => False
theorem lift_sti {i : Nat} {ix : DO} {w : DE} (h : liftS K kp (wSti i ix w) De σ H) : tAsg (lift K w) (gSub (tVar i) (liftO K ix) rSetL) De σ H := by
  obtain ⟨B, G, s, N, pn, S, hp, p, hw, e⟩ := h
  refine ⟨B, G, s, _, S, hw, fun r s1 G1 H1 v S1 sm1 rr q1 => ?_⟩
  obtain ⟨G2, S2, sm2, rep⟩ := rr.freeze S1
  show ∃ u, σ[i]? = some (some u) ∧ liftO K ix σ H1 _
  obtain ⟨hc, q1⟩ := q1
  have hsl : ∃ u, σ[i]? = some (some u) := by
    cases q : content s1 i with
    | none => rw [q] at hc; cases hc
    | some d => obtain ⟨u, h1, _⟩ := S1.look q; exact ⟨u, h1⟩
  obtain ⟨u, hu⟩ := hsl
  refine ⟨u, hu, B, G2, s1, _, S2, q1, fun o s2 G3 H3 y S3 sm3 ro q2 => ?_⟩
  split at q2
  · rename_i k xs e1 e2
    split at q2
    · rename_i j ej
      cases (show y = .int k from ro.top S3 e1)
      obtain ⟨a, o', h1, h2, h3, h4, ⟨b, vs, e3, h5, h6⟩, _⟩ := S3.ow i _ e2
      rw [hu] at h1
      cases h1
      cases e3
      refine ⟨a, vs, k, j, rfl, rfl, h5, by rw [h6.length]; exact ej, ?_⟩
      refine e.nx _ G3 σ _ (S3.chg (d' := .lst (xs.set j (frz r))) e2 hu rfl fun H' hH => ⟨a, _, rfl, hH, h6.set (Rep.mono sm3 _ _ rep) j⟩) ((sm1.trans sm2).trans sm3) p q2
    · exact q2.elim
  · exact q2.elim
end
end DL

namespace DL
variable [TB]
open PySem PySem.Spec PyProof.Rows L2
section
variable {K : PySem.W.Frag}
/-! ### methods that change their object -/
abbrev MU := D → List D → (Sl → D → Prop) → Prop
def MuOk (K : PySem.W.Frag) (r : V → List V → Hp → VK → Prop) (f : MU) : Prop := ∀ (G H : Hp) (d : D) (a : Addr) (ds : List D) (vs : List V) (R : Sl → D → Prop) (Q : VK), Same G H → Top K G H d (.ref a) → Reps K G ds vs → f d ds R →
  (∀ res d' v o', Rep K G res v → (∀ H' : Hp, H' a = some o' → Top K G H' d' (.ref a)) → ownable d' = true → R (.sh res) d' → Q v (upd H a o')) → r (.ref a) vs H Q
def isLst : D → Bool
  | .lst _ => true
  | _ => false
def wMut (i : Nat) (f : MU) (wv : DSt → (List D → DSt → Prop) → Prop) : DE := fun s R => match s[i]? with
  | some (.ow (.lst _)) => wv s fun ds s1 => (match s1[i]? with
    | some (.ow d) => f d ds fun r d' => R r (s1.set i (.ow d'))
    | _ => False)
  | some (.ow (.pin _ _)) => wv s fun ds s1 => (match s1[i]? with
    | some (.ow d) => f d ds fun r d' => R r (s1.set i (.ow d'))
    | _ => False)
  | _ => False
theorem lift_mut {i : Nat} {r : V → List V → Hp → VK → Prop} {f : MU} (ok : MuOk K r f) {wv : DSt → (List D → DSt → Prop) → Prop} {σ : L2.St} {H : Hp} {Q : VK} (h : lift K (wMut i f wv) σ H Q) : tBM K "list" r (tVar i) (liftV K wv) σ H Q := by
  obtain ⟨B, G, s, R, S, hw, k⟩ := h
  unfold wMut at hw
  split at hw
  · rename_i xs e
    obtain ⟨a, o, h1, h2, h3, h4, ⟨a', vs, e1, h5, h6⟩, _⟩ := S.ow i _ e
    cases e1
    refine ⟨_, h1, .inl ⟨rfl, vs, .of h5⟩, B, G, s, _, S, hw, fun ds s1 G1 H1 us S1 sm1 r1 q1 => ?_⟩
    split at q1
    · rename_i d e2
      obtain ⟨a2, o2, y1, y2, y3, y4, y5, y6⟩ := S1.ow i _ e2
      rw [h1] at y1
      cases y1
      exact ok G1 H1 d a ds us _ _ S1.gH y5 r1 q1 fun res d' v o' rr t w q => k (.sh res) _ G1 _ v (S1.chg e2 h1 w t) sm1 rr q
    · exact q1.elim
  · rename_i a0 xs e
    obtain ⟨a, o, h1, h2, h3, h4, tt, _⟩ := S.ow i _ e
    obtain ⟨a', vs, e1, h5, h6⟩ := pin_lst tt
    cases e1
    refine ⟨_, h1, .inl ⟨rfl, vs, .of h5⟩, B, G, s, _, S, hw, fun ds s1 G1 H1 us S1 sm1 r1 q1 => ?_⟩
    split at q1
    · rename_i d e2
      obtain ⟨a2, o2, y1, y2, y3, y4, y5, y6⟩ := S1.ow i _ e2
      rw [h1] at y1
      cases y1
      exact ok G1 H1 d a ds us _ _ S1.gH y5 r1 q1 fun res d' v o' rr t w q => k (.sh res) _ G1 _ v (S1.chg e2 h1 w t) sm1 rr q
    · exact q1.elim
  · exact hw.elim
/-- a list's method that changes nothing -/
def wLMeth (f : D → BS) (o : DO) (wos : DA) : DE := fun s R => o s fun o1 s1 => (match resO s1 o1 with
  | some d => (lstOf d).isSome = true
  | none => False) ∧ wos s1 fun os s2 => match resO s2 o1, resOs s2 os with
  | some d, some ds => f d ds fun r => R r s2
  | _, _ => False
def LMOk (K : PySem.W.Frag) (r : V → List V → Hp → VK → Prop) (f : D → BS) : Prop := ∀ (G H : Hp) (d : D) (x : V) (ds : List D) (vs : List V) (R : Sl → Prop) (Q : VK), Same G H → Top K G H d x → Tops K G H ds vs → f d ds R →
  (∀ res v G' H', Gr G H G' H' → NRep K G' H' H res v → R res → Q v H') → r x vs H Q
theorem lift_lmeth {r : V → List V → Hp → VK → Prop} {f : D → BS} (ok : LMOk K r f) {o : DO} {wos : DA} {σ : L2.St} {H : Hp} {Q : VK} (h : lift K (wLMeth f o wos) σ H Q) : tBM K "list" r (liftO K o) (liftA K wos) σ H Q := by
  obtain ⟨B, G, s, R, S, hw, k⟩ := h
  refine ⟨B, G, s, _, S, hw, fun o1 s1 G1 H1 v S1 sm1 r1 q1 => ?_⟩
  obtain ⟨q0, q1⟩ := q1
  have ty : tyV K "list" v H1 := by
    split at q0
    · rename_i d e
      have t := r1.top S1 e
      obtain ⟨xs, ex⟩ := Option.isSome_iff_exists.mp q0
      obtain ⟨a, vs, rfl, h1, _⟩ := lstOf_ok S1.gH ex t
      exact .inl ⟨rfl, vs, h1⟩
    · exact q0.elim
  refine ⟨ty, B, G1, s1, _, S1, q1, fun os s2 G2 H2 vs S2 sm2 r2 q2 => ?_⟩
  split at q2
  · rename_i d ds e1 e2
    exact ok G2 H2 d v ds vs _ _ S2.gH ((r1.mono sm2).top S2 e1) (r2.tops S2 e2) q2 fun res v G' H' g n q => k res s2 G' H' v (S2.grow g) ((sm1.trans sm2).trans g.g) (S2.res g n) q
  · exact q2.elim
/-- the first place of an equal flat item -/
def indexD : D → BS
  | d, [y], R => (match lstOf d with
    | some xs => (flatD y = true ∧ xs.all flatD = true) ∧ (match xs.findIdx? (fun z => eqF z y) with
      | some j => R (.sh (.int (j : Nat)))
      | none => False)
    | none => False)
  | _, _, _ => False
theorem indexD_ok : LMOk K (rIndex K) indexD := by
  intro G H d x ds vs R Q sm tx ts h k
  unfold indexD at h
  split at h
  · rename_i y
    split at h
    · rename_i xs ex
      obtain ⟨a, us, rfl, h1, h3⟩ := lstOf_ok sm ex tx
      obtain ⟨v, rfl, hv⟩ := tops1 ts
      obtain ⟨⟨f1, f2⟩, h⟩ := h
      split at h
      · rename_i j hj
        rw [List.findIdx?_eq_some_iff_getElem] at hj
        obtain ⟨hjl, hj1, hj2⟩ := hj
        obtain ⟨z, hz, rz⟩ := h3.get (List.getElem?_eq_getElem hjl)
        have fl : ∀ {m : Nat} (hm : m < xs.length), flatD xs[m] = true := fun hm => List.all_eq_true.mp f2 _ (List.getElem_mem hm)
        refine ⟨a, us, v, j, z, rfl, rfl, h1, flat_v f1 hv, flat_all h3 f2, hz, ?_, fun m z' hm hz' => ?_, ?_⟩
        · rw [flat_eq (fl hjl) f1 (Rep.top sm rz) hv]; exact hj1
        · have hml : m < xs.length := by omega
          obtain ⟨z2, hz2, rz2⟩ := h3.get (List.getElem?_eq_getElem hml)
          rw [hz'] at hz2
          cases hz2
          rw [flat_eq (fl hml) f1 (Rep.top sm rz2) hv]
          simpa using hj2 m hm
        · exact ret_sh sm k (d := .int (j : Nat)) rfl h
      · exact h.elim
    · exact h.elim
  · exact h.elim
def lmD (m : Str) : D → BS := if m = "index" then indexD else fun _ _ _ => False
/-- xs[::-1] of a list -/
def revD : B1
  | .lst xs, R => R (.ow (.lst xs.reverse))
  | .klst xs, R => R (.ow (.lst xs.reverse))
  | _, _ => False
theorem revD_ok : UnOk K (fun x H Q => ∃ a xs, x = .ref a ∧ SqL K H a xs ∧ ∀ p, H p = none → Q (.ref p) (upd H p (.lst xs.reverse))) revD := by
  intro G H d x R Q sm t h k
  have go : ∀ {xs : List D}, lstOf d = some xs → R (.ow (.lst xs.reverse)) → ∃ a xs, x = .ref a ∧ SqL K H a xs ∧ ∀ p, H p = none → Q (.ref p) (upd H p (.lst xs.reverse)) := fun {xs} e q => by
    obtain ⟨a, vs, rfl, h2, h3⟩ := lstOf_ok sm e t
    exact ⟨a, vs, rfl, h2, fun p n => k (.ow (.lst xs.reverse)) _ G _ (Gr.laid sm n) (NRep.lst sm n h3.reverse) q⟩
  unfold revD at h
  split at h
  · exact go rfl h
  · exact go rfl h
  · exact h.elim
/-! ### list(range(..)), tuple(range(..)) -/
theorem reps_rg {G : Hp} (a : Int) (n : Nat) : Reps K G (rangeD a n) ((List.range n).map fun i => V.int (a + (i : Nat))) := by
  unfold rangeD
  generalize List.range n = l
  induction l with
  | nil => exact rfl
  | cons i l ih => exact ⟨_, _, rfl, rfl, ih⟩
def rgR (t : Bool) (a b : Int) (R : Sl → Prop) : Prop := RgOk a b ∧ R (if t then .sh (.tup (rangeD a (b - a).toNat)) else .ow (.lst (rangeD a (b - a).toNat)))
theorem rgL_ok {G H : Hp} {a b : Int} {R : Sl → Prop} {Q : VK} (sm : Same G H) (h : rgR false a b R) (k : ∀ res v G' H', Gr G H G' H' → NRep K G' H' H res v → R res → Q v H') : RgOk a b ∧ ∀ q, H q = none → Q (.ref q) (upd H q (.lst (rgV a b))) :=
  ⟨h.1, fun q n => k (.ow (.lst (rangeD a (b - a).toNat))) _ G _ (Gr.laid sm n) (NRep.lst sm n (reps_rg a _)) h.2⟩
theorem rgT_ok {G H : Hp} {a b : Int} {R : Sl → Prop} {Q : VK} (sm : Same G H) (h : rgR true a b R) (k : ∀ res v G' H', Gr G H G' H' → NRep K G' H' H res v → R res → Q v H') : RgOk a b ∧ ∀ q, H q = none → Q (.ref q) (upd H q (.tup (rgV a b))) :=
  ⟨h.1, fun q n => k (.sh (.tup (rangeD a (b - a).toNat))) _ _ _ (Gr.laidG sm n) (NRep.tup sm n (reps_rg a _)) h.2⟩
def rg1D (t : Bool) : B1
  | .int n, R => rgR t 0 n R
  | _, _ => False
def rg2D (t : Bool) : B2
  | .int a, .int b, R => rgR t a b R
  | _, _, _ => False
theorem rg1L_ok : UnOk K (fun x H Q => ∃ n, x = .int n ∧ RgOk 0 n ∧ ∀ q, H q = none → Q (.ref q) (upd H q (.lst (rgV 0 n)))) (rg1D false) := by
  intro G H d x R Q sm tx h k
  unfold rg1D at h
  split at h
  · exact ⟨_, tx, rgL_ok sm h k⟩
  · exact h.elim
theorem rg1T_ok : UnOk K (fun x H Q => ∃ n, x = .int n ∧ RgOk 0 n ∧ ∀ q, H q = none → Q (.ref q) (upd H q (.tup (rgV 0 n)))) (rg1D true) := by
  intro G H d x R Q sm tx h k
  unfold rg1D at h
  split at h
  · exact ⟨_, tx, rgT_ok sm h k⟩
  · exact h.elim
theorem rg2L_ok : OpOk K (fun x y H Q => ∃ i j, x = .int i ∧ y = .int j ∧ RgOk i j ∧ ∀ q, H q = none → Q (.ref q) (upd H q (.lst (rgV i j)))) (rg2D false) := by
  intro G H d e x y R Q sm tx ty h k
  unfold rg2D at h
  split at h
  · exact ⟨_, _, tx, ty, rgL_ok sm h k⟩
  · exact h.elim
theorem rg2T_ok : OpOk K (fun x y H Q => ∃ i j, x = .int i ∧ y = .int j ∧ RgOk i j ∧ ∀ q, H q = none → Q (.ref q) (upd H q (.tup (rgV i j)))) (rg2D true) := by
  intro G H d e x y R Q sm tx ty h k
  unfold rg2D at h
  split at h
  · exact ⟨_, _, tx, ty, rgT_ok sm h k⟩
  · exact h.elim
def mAppend : MU
  | .lst xs, [d], R => xs.length < sizeLine ∧ R (.sh .non) (.lst (xs ++ [d]))
  | .pin p xs, [d], R => xs.length < sizeLine ∧ R (.sh .non) (.pin p (xs ++ [d]))
  | _, _, _ => False
theorem mAppend_ok : MuOk K rAppend mAppend := by
  intro G H d a ds vs R Q sm t r h k
  unfold mAppend at h
  split at h
  · rename_i xs d
    obtain ⟨b, ws, e, h2, h3⟩ := t
    cases e
    obtain ⟨v, r', rfl, q1, q2⟩ := r
    cases (show r' = [] from q2)
    exact ⟨a, ws, v, rfl, rfl, h2, by rw [h3.length]; exact h.1, k .non (.lst (xs ++ [d])) .non _ rfl (fun H' e => ⟨a, _, rfl, e, h3.append (.cons q1 rfl)⟩) rfl h.2⟩
  · rename_i p xs d
    obtain ⟨e, ws, h2, h3⟩ := t
    cases e
    obtain ⟨v, r', rfl, q1, q2⟩ := r
    cases (show r' = [] from q2)
    exact ⟨a, ws, v, rfl, rfl, h2, by rw [h3.length]; exact h.1, k .non (.pin a (xs ++ [d])) .non _ rfl (fun H' e => ⟨rfl, _, e, h3.append (.cons q1 rfl)⟩) rfl h.2⟩
  · exact h.elim
def mPop : MU
  | .lst xs, [], R => (match xs[xs.length - 1]? with
    | some d => R (.sh d) (.lst xs.dropLast)
    | none => False)
  | _, _, _ => False
theorem mPop_ok : MuOk K rPop mPop := by
  intro G H d a ds vs R Q sm t r h k
  unfold mPop at h
  split at h
  · rename_i xs
    obtain ⟨b, ws, e, h2, h3⟩ := t
    cases e
    cases (show vs = [] from r)
    split at h
    · rename_i d e1
      obtain ⟨v, e2, q⟩ := h3.get e1
      rw [← h3.length] at e2
      exact ⟨a, ws, v, rfl, rfl, h2, e2, k d (.lst xs.dropLast) v _ q (fun H' e => ⟨a, _, rfl, e, h3.dropLast⟩) rfl h⟩
    · exact h.elim
  · exact h.elim
def mPopAt : MU
  | .lst xs, [.int i], R => (-(2 ^ 63) ≤ i ∧ i < 2 ^ 63) ∧ (match ixN xs.length i with
    | some j => (match xs[j]? with
      | some d => R (.sh d) (.lst (xs.eraseIdx j))
      | none => False)
    | none => False)
  | _, _, _ => False
theorem mPopAt_ok : MuOk K rPopAt mPopAt := by
  intro G H d a ds vs R Q sm t r h k
  unfold mPopAt at h
  split at h
  · rename_i xs i
    obtain ⟨b, ws, e, h2, h3⟩ := t
    cases e
    obtain ⟨v0, r', rfl, q1, q2⟩ := r
    cases (show r' = [] from q2)
    cases (show v0 = .int i from q1)
    obtain ⟨⟨b1, b2⟩, h⟩ := h
    split at h
    · rename_i j ej
      split at h
      · rename_i d e1
        obtain ⟨v, e2, q⟩ := h3.get e1
        obtain ⟨z1, _⟩ := ixN_seq ej
        exact ⟨a, ws, i, j, v, rfl, rfl, h2, b1, b2, by rw [h3.length]; exact z1, e2, k d (.lst (xs.eraseIdx j)) v _ q (fun H' e => ⟨a, _, rfl, e, h3.eraseIdx j⟩) rfl h⟩
      · exact h.elim
    · exact h.elim
  · exact h.elim
def rInsert : V → List V → Hp → VK → Prop := fun x vs H Q => ∃ (l : Addr) (xs : List V) (i : Int) (y : V), x = .ref l ∧ vs = [.int i, y] ∧ H l = some (.lst xs) ∧ xs.length < sizeLine ∧ 0 ≤ i ∧ i < 2 ^ 63 ∧
    Q .non (upd H l (.lst (xs.take i.toNat ++ [y] ++ xs.drop i.toNat)))
def mInsert : MU
  | .lst xs, [.int i, d], R => (xs.length < sizeLine ∧ 0 ≤ i ∧ i < 2 ^ 63) ∧ R (.sh .non) (.lst (xs.take i.toNat ++ [d] ++ xs.drop i.toNat))
  | _, _, _ => False
theorem mInsert_ok : MuOk K rInsert mInsert := by
  intro G H d a ds vs R Q sm t r h k
  unfold mInsert at h
  split at h
  · rename_i xs i d
    obtain ⟨b, ws, e, h2, h3⟩ := t
    cases e
    obtain ⟨v0, r', rfl, q1, v, r2, rfl, q2, q3⟩ := r
    cases (show r2 = [] from q3)
    cases (show v0 = .int i from q1)
    exact ⟨a, ws, i, v, rfl, rfl, h2, by rw [h3.length]; exact h.1.1, h.1.2.1, h.1.2.2, k .non (.lst (xs.take i.toNat ++ [d] ++ xs.drop i.toNat)) .non _ rfl (fun H' e => ⟨a, _, rfl, e, ((h3.take _).append (Reps.cons q2 Reps.nil)).append (h3.drop _)⟩) rfl h.2⟩
  · exact h.elim
/-! ### fields of an instance -/
def fldD (f : Str) : List Str → List D → Option D
  | n :: ns, d :: ds => if f = n then some d else fldD f ns ds
  | _, _ => none
theorem fld_ok {G : Hp} {f : Str} : ∀ {ns : List Str} {ds : List D} {fs : List (Str × V)} {d : D}, fs.map (·.1) = ns → Reps K G ds (fs.map (·.2)) → fldD f ns ds = some d → ∃ v, fs.lookup f = some v ∧ Rep K G d v
  | [], ds, fs, d, e, r, h => by unfold fldD at h; cases h
  | n :: ns, [], fs, d, e, r, h => by unfold fldD at h; cases h
  | n :: ns, x :: ds, fs, d, e, r, h => by
    cases fs with
    | nil => cases e
    | cons q fs =>
      obtain ⟨m, v⟩ := q
      obtain ⟨v', r', e1, r1, r2⟩ := r
      cases e1
      have e1 : m = n := (List.cons.inj e).1
      have e2 : fs.map (·.1) = ns := (List.cons.inj e).2
      subst e1
      unfold fldD at h
      by_cases c : f = m
      · subst c
        rw [if_pos rfl] at h
        cases h
        refine ⟨v, ?_, r1⟩
        rw [List.lookup_cons]
        simp
      · rw [if_neg c] at h
        obtain ⟨u, u1, u2⟩ := fld_ok e2 r2 h
        refine ⟨u, ?_, u2⟩
        rw [List.lookup_cons, beq_eq_false_iff_ne.mpr c]
        exact u1
/-- o.f: at: the classes and attributes that are plain -/
def attrD (at_ : Str → Str → Bool) (f : Str) : B1 := fun d R => match d with
  | .ins C ns vs => at_ C f = true ∧ (match fldD f ns vs with
    | some d => R (.sh d)
    | none => False)
  | _ => False
def AttrOk (K : PySem.W.Frag) (at_ : Str → Str → Bool) : Prop := ∀ C f, at_ C f = true → Cls K (He.ga K C) ∧ NoAttr K (He.ga K C) f
theorem attrD_ok {at_ : Str → Str → Bool} (ha : AttrOk K at_) (f : Str) : UnOk K (fun x H Q => ∃ a C dx fs v, x = .ref a ∧ H a = some (.ins C dx fs) ∧ Cls K C ∧ NoAttr K C f ∧ fs.lookup f = some v ∧ Q v H) (attrD at_ f) := by
  intro G H d x R Q sm tx h k
  unfold attrD at h
  split at h
  · rename_i C ns vs
    obtain ⟨h1, h⟩ := h
    split at h
    · rename_i d e
      obtain ⟨a, dx, fs, rfl, h2, h3, h4⟩ := tx
      obtain ⟨v, e1, e2⟩ := fld_ok h3 h4 e
      obtain ⟨c1, c2⟩ := ha C f h1
      exact ⟨a, _, dx, fs, v, rfl, h2, c1, c2, e1, ret_sh sm k e2 h⟩
    · exact h.elim
  · exact h.elim
/-- o.f = e, o an owned instance at a slot -/
def putD (f : Str) (v : D) : List Str → List D → List Str × List D
  | n :: ns, d :: ds => if n = f then (n :: ns, v :: ds) else ((n :: (putD f v ns ds).1), (d :: (putD f v ns ds).2))
  | ns, ds => (ns ++ [f], ds ++ [v])
theorem put_ok {G : Hp} {f : Str} {x : D} {u : V} (hx : Rep K G x u) : ∀ {fs : List (Str × V)} {ns : List Str} {ds : List D}, fs.map (·.1) = ns → Reps K G ds (fs.map (·.2)) → (putF f u fs).map (·.1) = (putD f x ns ds).1 ∧ Reps K G (putD f x ns ds).2 ((putF f u fs).map (·.2))
  | [], ns, ds, e, r => by
    cases e
    cases ds with
    | nil => exact ⟨rfl, .cons hx rfl⟩
    | cons d ds => obtain ⟨v, r', e, _⟩ := r; cases e
  | (m, w) :: fs, ns, ds, e, r => by
    cases ns with
    | nil => cases e
    | cons n ns =>
      have e1 : m = n := (List.cons.inj e).1
      have e2 : fs.map (·.1) = ns := (List.cons.inj e).2
      subst e1
      cases ds with
      | nil => have := r.length; simp at this
      | cons d ds =>
        obtain ⟨v', r', q, r1, r2⟩ := r
        cases q
        unfold putF putD
        by_cases c : m = f
        · rw [if_pos c, if_pos c]
          exact ⟨e, .cons hx r2⟩
        · rw [if_neg c, if_neg c]
          obtain ⟨y1, y2⟩ := put_ok hx e2 r2
          exact ⟨congrArg (m :: ·) y1, .cons r1 y2⟩
def wStf (at_ : Str → Str → Bool) (i : Nat) (f : Str) (w : DE) : DS := fun N s => w s fun r s1 => match s1[i]? with
  | some (.ow (.ins C ns vs)) => (at_ C f = true ∧ ns.length < 1000) ∧ N.nx (s1.set i (.ow (.ins C (putD f (frz r) ns vs).1 (putD f (frz r) ns vs).2)))
  | _ => False
theorem lift_stf {at_ : Str → Str → Bool} (ha : AttrOk K at_) {kp : List Nat} {De : Ends} {σ : L2.St} {H : Hp} {i : Nat} {f : Str} {w : DE} (h : liftS K kp (wStf at_ i f w) De σ H) : sFld K (tVar i) (lift K w) f De σ H := by
  obtain ⟨B, G, s, N, pn, S, hp, p, hw, e⟩ := h
  refine ⟨B, G, s, _, S, hw, fun r s1 G1 H1 v S1 sm1 rr q1 => ?_⟩
  obtain ⟨G2, S2, sm2, rep⟩ := rr.freeze S1
  split at q1
  · rename_i C ns vs e2
    obtain ⟨a, o, h1, h2, h3, h4, ⟨a', dx, fs, e3, h5, h6, h7⟩, _⟩ := S2.ow i _ e2
    cases e3
    obtain ⟨c1, c2⟩ := ha C f q1.1.1
    refine ⟨_, h1, a, _, dx, fs, rfl, h5, c1, c2, ?_, ?_⟩
    · have : fs.length = ns.length := by rw [← h6, List.length_map]
      rw [this]; exact q1.1.2
    · refine e.nx _ G2 σ _ (S2.chg (d' := .ins C (putD f (frz r) ns vs).1 (putD f (frz r) ns vs).2) e2 h1 rfl fun H' hH => ?_) (sm1.trans sm2) p q1.2
      obtain ⟨y1, y2⟩ := put_ok (f := f) rep h6 h7
      exact ⟨a, dx, _, rfl, hH, y1, y2⟩
  · exact q1.elim
/-! ### functions -/
abbrev FS := List Sl → (Sl → List Sl → Prop) → Prop
/-- a promise over data as the layer's promise -/
def spOf (K : PySem.W.Frag) (F : FS) : Sp := fun vs H Q _ => ∃ B G args R, StRep K B G args (vs.map some) H ∧ F args R ∧ ∀ r args' G' H' v, StRep K B G' args' (vs.map some) H' → Same G G' → RRep K B G' H' args' (vs.map some) r v → R r args' → Q v H'
/-- an argument: a datum, or a slot whose owned object is lent -/
inductive Av where
  | val (d : D) | bor (i : Nat)
def ARep (K : PySem.W.Frag) (G : Hp) (σ : L2.St) : Av → V → Prop
  | .val d, v => Rep K G d v
  | .bor i, v => σ[i]? = some (some v)
def AReps (K : PySem.W.Frag) (G : Hp) (σ : L2.St) : List Av → List V → Prop
  | [], vs => vs = []
  | o :: os, vs => ∃ v r, vs = v :: r ∧ ARep K G σ o v ∧ AReps K G σ os r
theorem ARep.mono {G G' : Hp} {σ : L2.St} (e : Same G G') {o : Av} {v : V} (h : ARep K G σ o v) : ARep K G' σ o v := by
  cases o with
  | val d => exact Rep.mono e _ _ h
  | bor i => exact h
theorem AReps.mono {G G' : Hp} {σ : L2.St} (e : Same G G') : ∀ {os : List Av} {vs : List V}, AReps K G σ os vs → AReps K G' σ os vs
  | [], vs, h => h
  | o :: os, vs, h => by obtain ⟨v, r, h1, h2, h3⟩ := h; exact ⟨v, r, h1, h2.mono e, AReps.mono e h3⟩
theorem AReps.length {G : Hp} {σ : L2.St} : ∀ {os : List Av} {vs : List V}, AReps K G σ os vs → vs.length = os.length
  | [], vs, h => by cases (show vs = [] from h); rfl
  | o :: os, vs, h => by obtain ⟨v, r, rfl, h2, h3⟩ := h; exact congrArg Nat.succ (AReps.length h3)
theorem AReps.get {G : Hp} {σ : L2.St} : ∀ {os : List Av} {vs : List V} {j : Nat} {o : Av}, AReps K G σ os vs → os[j]? = some o → ∃ v, vs[j]? = some v ∧ ARep K G σ o v
  | [], vs, j, o, h, e => by simp at e
  | o :: os, vs, 0, x, h, e => by
    obtain ⟨v, r, rfl, h2, h3⟩ := h
    simp at e
    subst e
    exact ⟨v, rfl, h2⟩
  | o :: os, vs, j + 1, x, h, e => by
    obtain ⟨v, r, rfl, h2, h3⟩ := h
    obtain ⟨u, y1, y2⟩ := AReps.get (j := j) (o := x) h3 (by simpa using e)
    exact ⟨u, by simpa using y1, y2⟩
def resA (s : DSt) : Av → Sl
  | .val d => .sh d
  | .bor i => match s[i]? with
    | some x => x
    | none => .no
def bors : List Av → List Nat
  | [] => []
  | .val _ :: as => bors as
  | .bor i :: as => i :: bors as
def wback : List Av → List Sl → DSt → DSt
  | .bor i :: as, a :: args, s => (wback as args s).set i a
  | .val _ :: as, _ :: args, s => wback as args s
  | _, _, s => s
theorem wback_len (s : DSt) : ∀ (as : List Av) (args : List Sl), (wback as args s).length = s.length
  | [], _ => by unfold wback; rfl
  | .bor i :: as, [] => by unfold wback; rfl
  | .val d :: as, [] => by unfold wback; rfl
  | .bor i :: as, a :: args => by unfold wback; rw [List.length_set, wback_len s as args]
  | .val d :: as, a :: args => by unfold wback; exact wback_len s as args
theorem wback_out {s : DSt} {i : Nat} : ∀ {as : List Av} {args : List Sl}, i ∉ bors as → (wback as args s)[i]? = s[i]?
  | [], _, _ => by unfold wback; rfl
  | .bor j :: as, [], _ => by unfold wback; rfl
  | .val d :: as, [], _ => by unfold wback; rfl
  | .bor j :: as, a :: args, h => by
    unfold wback
    unfold bors at h
    rw [List.mem_cons, not_or] at h
    rw [List.getElem?_set_ne (Ne.symm h.1)]
    exact wback_out h.2
  | .val d :: as, a :: args, h => by
    unfold wback
    exact wback_out (as := as) h
theorem bors_mem {as : List Av} {i : Nat} : i ∈ bors as ↔ ∃ j : Nat, as[j]? = some (Av.bor i) := by
  induction as with
  | nil => simp [bors]
  | cons a as ih =>
    constructor
    · intro h
      cases a with
      | val d =>
        obtain ⟨j, e⟩ := ih.mp h
        exact ⟨j + 1, by simpa using e⟩
      | bor k =>
        rcases List.mem_cons.mp (show i ∈ k :: bors as from h) with q | q
        · exact ⟨0, by rw [q]; rfl⟩
        · obtain ⟨j, e⟩ := ih.mp q
          exact ⟨j + 1, by simpa using e⟩
    · rintro ⟨j, e⟩
      cases j with
      | zero => cases a with
        | val d => cases e
        | bor k => cases e; exact List.mem_cons_self
      | succ j =>
        have q := ih.mpr ⟨j, by simpa using e⟩
        cases a with
        | val d => exact q
        | bor k => exact List.mem_cons_of_mem _ q
theorem bors_inj {as : List Av} (nd : (bors as).Nodup) : ∀ {j k : Nat} {i : Nat}, as[j]? = some (.bor i) → as[k]? = some (.bor i) → j = k := by
  induction as with
  | nil => intro j k i e; simp at e
  | cons a as ih =>
    intro j k i e1 e2
    cases a with
    | val d =>
      cases j with
      | zero => cases e1
      | succ j => cases k with
        | zero => cases e2
        | succ k => exact congrArg Nat.succ (ih nd (by simpa using e1) (by simpa using e2))
    | bor m =>
      have nd2 := List.nodup_cons.mp (show (m :: bors as).Nodup from nd)
      cases j with
      | zero =>
        cases e1
        cases k with
        | zero => rfl
        | succ k => exact absurd (bors_mem.mpr ⟨k, by simpa using e2⟩) nd2.1
      | succ j => cases k with
        | zero =>
          cases e2
          exact absurd (bors_mem.mpr ⟨j, by simpa using e1⟩) nd2.1
        | succ k => exact congrArg Nat.succ (ih nd2.2 (by simpa using e1) (by simpa using e2))
theorem wback_in {s : DSt} : ∀ {as : List Av} {args : List Sl} {j i : Nat}, (bors as).Nodup → as[j]? = some (.bor i) → args.length = as.length → i < s.length → (wback as args s)[i]? = args[j]?
  | [], args, j, i, _, e, _, _ => by simp at e
  | a :: as, [], j, i, _, e, l, _ => by simp at l
  | .val d :: as, b :: args, j, i, nd, e, l, hi => by
    cases j with
    | zero => cases e
    | succ j =>
      unfold wback
      rw [wback_in (as := as) (j := j) nd (by simpa using e) (by simpa using l) hi]
      simp
  | .bor m :: as, b :: args, j, i, nd, e, l, hi => by
    have nd2 := List.nodup_cons.mp (show (m :: bors as).Nodup from nd)
    unfold wback
    cases j with
    | zero =>
      cases e
      rw [List.getElem?_set_self (by rw [wback_len]; exact hi)]
      rfl
    | succ j =>
      have ne : m ≠ i := fun z => by subst z; exact nd2.1 (bors_mem.mpr ⟨j, by simpa using e⟩)
      rw [List.getElem?_set_ne ne, wback_in (as := as) (j := j) nd2.2 (by simpa using e) (by simpa using l) hi]
      simp
/-- what the callee must leave alone -/
noncomputable def restOf (B : Hp) (s : DSt) (σ : L2.St) (bs : List Nat) (H : Hp) : Hp := fun a => match B a with
  | some o => some o
  | none => @ite _ (∃ (i : Nat) (d : D), s[i]? = some (.ow d) ∧ σ[i]? = some (some (.ref a)) ∧ i ∉ bs) (Classical.propDecidable _) (H a) none
theorem restOf_B {B H : Hp} {s : DSt} {σ : L2.St} {bs : List Nat} {a : Addr} {o : HO} (e : B a = some o) : restOf B s σ bs H a = some o := by
  unfold restOf; rw [e]
theorem restOf_ow {B H : Hp} {s : DSt} {σ : L2.St} {bs : List Nat} {a : Addr} {i : Nat} {d : D} (n : B a = none) (h1 : s[i]? = some (.ow d)) (h2 : σ[i]? = some (some (.ref a))) (h3 : i ∉ bs) : restOf B s σ bs H a = H a := by
  unfold restOf
  rw [n]
  exact if_pos ⟨i, d, h1, h2, h3⟩
theorem restOf_none {B H : Hp} {s : DSt} {σ : L2.St} {bs : List Nat} {a : Addr} (h : restOf B s σ bs H a = none) : B a = none := by
  cases q : B a with
  | none => rfl
  | some o => rw [restOf_B q] at h; cases h
theorem restOf_cases {B H : Hp} {s : DSt} {σ : L2.St} {bs : List Nat} {a : Addr} {o : HO} (h : restOf B s σ bs H a = some o) : B a = some o ∨ (∃ (i : Nat) (d : D), s[i]? = some (.ow d) ∧ σ[i]? = some (some (.ref a)) ∧ i ∉ bs) ∧ H a = some o := by
  unfold restOf at h
  cases q : B a with
  | some o' => rw [q] at h; exact .inl h
  | none =>
    rw [q] at h
    have h' : @ite _ (∃ (i : Nat) (d : D), s[i]? = some (.ow d) ∧ σ[i]? = some (some (.ref a)) ∧ i ∉ bs) (Classical.propDecidable _) (H a) none = some o := h
    by_cases c : ∃ (i : Nat) (d : D), s[i]? = some (.ow d) ∧ σ[i]? = some (some (.ref a)) ∧ i ∉ bs
    · refine .inr ⟨c, ?_⟩
      rw [if_pos c] at h'
      exact h'
    · rw [if_neg c] at h'
      cases h'
/-- a call by its promise over data -/
theorem call_sp {B G H : Hp} {s : DSt} {σ : L2.St} {as : List Av} {vs : List V} {F : FS} {R : Sl → List Sl → Prop} {Q : VK} {E : XK} (S : StRep K B G s σ H) (ra : AReps K G σ as vs) (nd : (bors as).Nodup) (hF : F (as.map (resA s)) R)
    (k : ∀ r args' G' H' v, StRep K B G' (wback as args' s) σ H' → Same G G' → RRep K B G' H' (wback as args' s) σ r v → R r args' → Q v H') : spOf K F vs H Q E := by
  have hv : ∀ {j : Nat} {v : V}, vs[j]? = some v → (vs.map some)[j]? = some (some v) := fun {j v} e => by rw [List.getElem?_map, e]; rfl
  have hv' : ∀ {j : Nat} {v : V}, (vs.map some)[j]? = some (some v) → vs[j]? = some v := fun {j v} e => by
    rw [List.getElem?_map] at e
    cases q : vs[j]? with
    | none => rw [q] at e; cases e
    | some u => rw [q] at e; cases e; rfl
  have ar : ∀ {j : Nat} {x : Sl}, (as.map (resA s))[j]? = some x → ∃ a, as[j]? = some a ∧ resA s a = x := fun {j x} e => by
    rw [List.getElem?_map] at e
    cases q : as[j]? with
    | none => rw [q] at e; cases e
    | some a => rw [q] at e; cases e; exact ⟨a, rfl, rfl⟩
  have ow_of : ∀ {a : Av} {d : D}, resA s a = .ow d → ∃ i, a = .bor i ∧ s[i]? = some (.ow d) := fun {a d} e => by
    cases a with
    | val x => cases e
    | bor i =>
      refine ⟨i, rfl, ?_⟩
      have e' : (match s[i]? with
        | some x => x
        | none => Sl.no) = .ow d := e
      cases q : s[i]? with
      | none => rw [q] at e'; cases e'
      | some x => rw [q] at e'; exact congrArg some e'
  have S0 : StRep K (restOf B s σ (bors as) H) G (as.map (resA s)) (vs.map some) H := by
    have tb : TbOk K (restOf B s σ (bors as) H) G H := ⟨fun p hp => (by
      cases q : restOf B s σ (bors as) H p.1 with
      | none => rfl
      | some o =>
        exfalso
        rcases restOf_cases q with h | ⟨⟨i, d, h1, h2, _⟩, _⟩
        · exact absurd ((S.tb.nB p hp).symm.trans h) (fun z => by cases z)
        · obtain ⟨a, o', y1, y2, y3, y4, y5, y6⟩ := S.ow i d h1
          rw [h2] at y1
          cases y1
          exact S.tb.ne hp y4 (own_tbl y4 y5 y6) rfl), S.tb.nG, S.tb.tG, fun a u q => (by
      rcases restOf_cases q with h | ⟨⟨i, d, h1, h2, _⟩, h3⟩
      · exact S.tb.tB a u h
      · obtain ⟨b, o', y1, y2, y3, y4, y5, y6⟩ := S.ow i d h1
        rw [h2] at y1
        cases y1
        rw [h3] at y4
        cases y4
        exact ⟨own_tbl h3 y5 y6, own_ext h3 y5 y6⟩), S.tb.ok⟩
    refine ⟨fun b u q => ?_, S.gH, fun b u q => ?_, tb, by rw [List.length_map, List.length_map]; exact ra.length.symm, fun j d e => ?_, fun j d e => ?_, fun j k d e a h1 h2 h3 h4 => ?_⟩
    · rcases restOf_cases q with h | ⟨_, h⟩
      · exact S.bH _ _ h
      · exact h
    · rcases restOf_cases q with h | ⟨⟨i, d, h1, h2, h3⟩, h⟩
      · exact S.dj _ _ h
      · obtain ⟨p, o, y1, y2, _⟩ := S.ow i d h1
        rw [h2] at y1
        cases y1
        exact y2
    · obtain ⟨a, e1, e2⟩ := ar e
      obtain ⟨v, e3, rv⟩ := ra.get e1
      refine ⟨v, hv e3, ?_⟩
      cases a with
      | val x => cases e2; exact rv
      | bor i =>
        have e' : (match s[i]? with
          | some x => x
          | none => Sl.no) = .sh d := e2
        cases q : s[i]? with
        | none => rw [q] at e'; cases e'
        | some x =>
          rw [q] at e'
          have e3 : x = .sh d := e'
          subst e3
          obtain ⟨u, y1, y2⟩ := S.sh i d q
          rw [show σ[i]? = some (some v) from rv] at y1
          cases y1
          exact y2
    · obtain ⟨a, e1, e2⟩ := ar e
      obtain ⟨v, e3, rv⟩ := ra.get e1
      obtain ⟨i, rfl, q⟩ := ow_of e2
      obtain ⟨p, o, y1, y2, y3, y4, y5, y6⟩ := S.ow i d q
      rw [show σ[i]? = some (some v) from rv] at y1
      cases y1
      refine ⟨p, o, hv e3, y2, ?_, y4, y5, y6⟩
      cases z : restOf B s σ (bors as) H p with
      | none => rfl
      | some u =>
        rcases restOf_cases z with h | ⟨⟨i', d', h1, h2, h3⟩, _⟩
        · rw [y3] at h; cases h
        · have ei := S.ap i i' d d' p q h1 rv h2
          subst ei
          exact absurd (bors_mem.mpr ⟨j, e1⟩) h3
    · obtain ⟨a1, e1, e2⟩ := ar h1
      obtain ⟨a2, e3, e4⟩ := ar h2
      obtain ⟨v1, e5, rv1⟩ := ra.get e1
      obtain ⟨v2, e6, rv2⟩ := ra.get e3
      obtain ⟨i1, rfl, q1⟩ := ow_of e2
      obtain ⟨i2, rfl, q2⟩ := ow_of e4
      rw [hv e5] at h3
      rw [hv e6] at h4
      cases h3
      cases h4
      have ei := S.ap i1 i2 d e a q1 q2 rv1 rv2
      subst ei
      exact bors_inj nd e1 e3
  refine ⟨restOf B s σ (bors as) H, G, as.map (resA s), R, S0, hF, fun r args' G' H' v S' sm rr q => ?_⟩
  have la : args'.length = as.length := by rw [S'.len, List.length_map]; exact ra.length
  have inb : ∀ {i : Nat} {x : Sl}, i ∈ bors as → (wback as args' s)[i]? = some x → ∃ (j : Nat) (v : V), as[j]? = some (Av.bor i) ∧ args'[j]? = some x ∧ σ[i]? = some (some v) ∧ (vs.map some)[j]? = some (some v) := fun {i x} hi e => by
    obtain ⟨j, ej⟩ := bors_mem.mp hi
    have hl : i < s.length := by have := getElem?_lt e; rw [wback_len] at this; exact this
    rw [wback_in nd ej la hl] at e
    obtain ⟨v, e3, rv⟩ := ra.get ej
    exact ⟨j, v, ej, e, rv, hv e3⟩
  have outb : ∀ {i : Nat} {d : D}, i ∉ bors as → (wback as args' s)[i]? = some (.ow d) → s[i]? = some (.ow d) ∧ ∃ a o, σ[i]? = some (some (.ref a)) ∧ G a = none ∧ B a = none ∧ H a = some o ∧ Top K G H d (.ref a) ∧ ownable d = true ∧ restOf B s σ (bors as) H a = some o := fun {i d} hi e => by
    rw [wback_out hi] at e
    obtain ⟨a, o, y1, y2, y3, y4, y5, y6⟩ := S.ow i d e
    exact ⟨e, a, o, y1, y2, y3, y4, y5, y6, by rw [restOf_ow y3 e y1 hi]; exact y4⟩
  have SS : StRep K B G' (wback as args' s) σ H' := by
    refine ⟨fun b u z => S'.bH _ _ (restOf_B z), S'.gH, fun b u z => S'.dj _ _ (restOf_B z), ⟨S.tb.nB, S'.tb.nG, S'.tb.tG, S.tb.tB, S'.tb.ok⟩, by rw [wback_len]; exact S.len, fun i d e => ?_, fun i d e => ?_, fun i i' d e a h1 h2 h3 h4 => ?_⟩
    · by_cases hi : i ∈ bors as
      · obtain ⟨j, v, e1, e2, e3, e4⟩ := inb hi e
        obtain ⟨u, y1, y2⟩ := S'.sh j d e2
        rw [e4] at y1
        cases y1
        exact ⟨v, e3, y2⟩
      · rw [wback_out hi] at e
        obtain ⟨v, y1, y2⟩ := S.sh i d e
        exact ⟨v, y1, Rep.mono sm _ _ y2⟩
    · by_cases hi : i ∈ bors as
      · obtain ⟨j, v, e1, e2, e3, e4⟩ := inb hi e
        obtain ⟨a, o, y1, y2, y3, y4, y5, y6⟩ := S'.ow j d e2
        rw [e4] at y1
        cases y1
        exact ⟨a, o, e3, y2, restOf_none y3, y4, y5, y6⟩
      · obtain ⟨e1, a, o, y1, y2, y3, y4, y5, y6, y7⟩ := outb hi e
        have hA := S'.bH _ _ y7
        refine ⟨a, o, y1, S'.dj _ _ y7, y3, hA, ?_, y6⟩
        cases d with
        | lst xs => obtain ⟨b, ws, z1, z2, z3⟩ := y5; cases z1; rw [y4] at z2; cases z2; exact ⟨a, ws, rfl, hA, Reps.mono sm _ _ z3⟩
        | pin p0 xs => obtain ⟨z1, ws, z2, z3⟩ := y5; cases z1; rw [y4] at z2; cases z2; exact ⟨rfl, ws, hA, Reps.mono sm _ _ z3⟩
        | dic ks xs => obtain ⟨b, ws, z1, z2, z4, z3⟩ := y5; cases z1; rw [y4] at z2; cases z2; exact ⟨a, ws, rfl, hA, z4, Reps.mono sm _ _ z3⟩
        | ins C ns xs => obtain ⟨b, dx, ws, z1, z2, z4, z3⟩ := y5; cases z1; rw [y4] at z2; cases z2; exact ⟨a, dx, ws, rfl, hA, z4, Reps.mono sm _ _ z3⟩
        | _ => cases y6
    · by_cases hi : i ∈ bors as
      · obtain ⟨j, v, e1, e2, e3, e4⟩ := inb hi h1
        rw [h3] at e3
        cases e3
        by_cases hi' : i' ∈ bors as
        · obtain ⟨j', v', f1, f2, f3, f4⟩ := inb hi' h2
          rw [h4] at f3
          cases f3
          have ej := S'.ap j j' d e a e2 f2 e4 f4
          subst ej
          rw [e1] at f1
          cases f1
          rfl
        · obtain ⟨_, a', o, y1, _, _, _, _, _, y7⟩ := outb hi' h2
          rw [h4] at y1
          cases y1
          obtain ⟨p, o2, z1, z2, z3, _⟩ := S'.ow j d e2
          rw [e4] at z1
          cases z1
          rw [y7] at z3
          cases z3
      · by_cases hi' : i' ∈ bors as
        · obtain ⟨j', v', f1, f2, f3, f4⟩ := inb hi' h2
          rw [h4] at f3
          cases f3
          obtain ⟨_, a', o, y1, _, _, _, _, _, y7⟩ := outb hi h1
          rw [h3] at y1
          cases y1
          obtain ⟨p, o2, z1, z2, z3, _⟩ := S'.ow j' e f2
          rw [f4] at z1
          cases z1
          rw [y7] at z3
          cases z3
        · obtain ⟨y1, _⟩ := outb hi h1
          obtain ⟨y2, _⟩ := outb hi' h2
          exact S.ap i i' d e a y1 y2 h3 h4
  refine k r args' G' H' v SS sm ?_ q
  cases r with
  | no => exact rr
  | sh d => exact rr
  | ow d =>
    obtain ⟨p, o, rfl, y2, y3, y4, y5, y6, y7⟩ := rr
    refine ⟨p, o, rfl, y2, restOf_none y3, y4, y5, y6, fun i e h z => ?_⟩
    by_cases hi : i ∈ bors as
    · obtain ⟨j, v, e1, e2, e3, e4⟩ := inb hi h
      rw [z] at e3
      cases e3
      exact y7 j e e2 e4
    · obtain ⟨_, a', o', z1, _, _, _, _, _, z7⟩ := outb hi h
      rw [z] at z1
      cases z1
      rw [y3] at z7
      cases z7
/-! ### the call as an expression -/
abbrev DAv := DSt → (List Av → DSt → Prop) → Prop
def liftAv (K : PySem.W.Frag) (w : DAv) : TA := fun σ H Q => ∃ B G s R, StRep K B G s σ H ∧ w s R ∧ ∀ os s' G' H' vs, StRep K B G' s' σ H' → Same G G' → AReps K G' σ os vs → R os s' → Q vs H'
def wAvNil : DAv := fun s R => R [] s
def wAvVal (a : DE) (b : DAv) : DAv := fun s R => a s fun r s1 => b s1 fun os s2 => R (.val (frz r) :: os) s2
def wAvBor (i : Nat) (b : DAv) : DAv := fun s R => (content s i).isSome = true ∧ b s fun os s2 => R (.bor i :: os) s2
variable {σ : L2.St} {H : Hp}
theorem lift_avNil {Q : List V → Hp → Prop} (h : liftAv K wAvNil σ H Q) : tNil σ H Q := by
  obtain ⟨B, G, s, R, S, hw, k⟩ := h
  exact k [] s G H [] S (.refl _) rfl hw
theorem lift_avVal {a : DE} {b : DAv} {Q : List V → Hp → Prop} (h : liftAv K (wAvVal a b) σ H Q) : tCons (lift K a) (liftAv K b) σ H Q := by
  obtain ⟨B, G, s, R, S, hw, k⟩ := h
  refine ⟨B, G, s, _, S, hw, fun r s1 G1 H1 v S1 sm1 r1 q1 => ?_⟩
  obtain ⟨G2, S2, sm2, rep⟩ := r1.freeze S1
  refine ⟨B, G2, s1, _, S2, q1, fun os s2 G3 H2 vs S3 sm3 o2 q2 => ?_⟩
  exact k (.val (frz r) :: os) s2 G3 H2 _ S3 ((sm1.trans sm2).trans sm3) ⟨v, vs, rfl, Rep.mono sm3 _ _ rep, o2⟩ q2
theorem lift_avBor {i : Nat} {b : DAv} {Q : List V → Hp → Prop} (h : liftAv K (wAvBor i b) σ H Q) : tCons (tVar i) (liftAv K b) σ H Q := by
  obtain ⟨B, G, s, R, S, ⟨hc, hw⟩, k⟩ := h
  cases e : content s i with
  | none => rw [e] at hc; cases hc
  | some d =>
    obtain ⟨v, h1, h2⟩ := S.look e
    refine ⟨v, h1, B, G, s, _, S, hw, fun os s2 G3 H2 vs S3 sm3 o2 q2 => ?_⟩
    exact k (.bor i :: os) s2 G3 H2 _ S3 sm3 ⟨v, vs, rfl, h1, o2⟩ q2
def wCall (F : FS) (w : DAv) : DE := fun s R => w s fun as s1 => (bors as).Nodup ∧ F (as.map (resA s1)) fun r args' => R r (wback as args' s1)
theorem lift_call {F : FS} {w : DAv} {Q : VK} (h : lift K (wCall F w) σ H Q) : (fun (σ : L2.St) (H : Hp) (Q : VK) => liftAv K w σ H fun vs H1 => spOf K F vs H1 Q E0) σ H Q := by
  obtain ⟨B, G, s, R, S, hw, k⟩ := h
  refine ⟨B, G, s, _, S, hw, fun as s1 G1 H1 vs S1 sm1 r1 q1 => ?_⟩
  exact call_sp S1 r1 q1.1 q1.2 fun r args' G' H' v S' sm rr q => k r _ G' H' v S' (sm1.trans sm) rr q
end
end DL

namespace DL
variable [TB]
open PySem PySem.Spec PySem.Calls PyProof.Rows L2
/-! ### sorted of lists and tuples of data -/
section
variable {prog : Program} {w : World} {A : Around} {E : Value → Shared → Prop} {s : Shared}
theorem collect_seq {l : Addr} {T : String} {o : Obj} {vs : List Value} {n : Nat} {Q : List Value → Shared → Prop} (hT : T = "list" ∨ T = "tuple") (ho : s.heap.get? l = some o) (hc : o.cls = .type T) (hd : o.data = .seq vs.toArray n)
    (h : Q vs { s with heap := (s.heap.push (seqObj "list" #[] 0)).update s.heap.objs.size (Obj.mapSeq (· ++ vs.toArray)) }) (hsz : vs.length ≤ sizeLine) :
    wpAny (model prog w) A (collect (.ref l)) Q E s := by
  unfold collect
  refine wpAny_bind (wpAny_runValue (codeAny_builtin entry_proto_collect' ?_))
  show wpAny _ _ (do again (.builtin "list.__iadd__" ⟨[← newList [], .ref l], []⟩)) _ _ s
  refine wpAny_bind (wpAny_newList (wpAny_pure ⟨Code.quiet_builtin _ (by decide +kernel), codeAny_builtin entry_list_iadd' ?_⟩))
  show wpAny _ _ (Builtin.List.listExtendWith (.ref s.heap.objs.size) (.ref l) (.ref s.heap.objs.size)) _ _ { s with heap := s.heap.push (seqObj "list" #[] 0) }
  unfold Builtin.List.listExtendWith
  have ho' : (s.heap.push (seqObj "list" #[] 0)).get? l = some o := Heap.get?_push_of_some _ ho
  refine wpAny_bind (wpAny_typeOf (T := T) ⟨o, ho', hc⟩ ?_)
  rw [if_pos (by
    rcases hT with rfl | rfl
    · rw [show (Value.type "list" == Value.type "list") = true from rfl, Bool.or_true, Bool.true_or]
    · rw [show (Value.type "tuple" == Value.type "tuple") = true from rfl, Bool.or_true])]
  refine wpAny_bind (listItems_at ho' hd ?_)
  refine wpAny_bind (listItems_at (xs := #[]) (n := 0) (Heap.get?_push_size _ rfl) rfl ?_)
  rw [if_neg (by simp)]
  refine wpAny_bind (listUpdate_at (xs := #[]) (n := 0) (Heap.get?_push_size _ rfl) rfl ?_ (Nat.zero_le _) (by show (#[] ++ vs.toArray).size ≤ sizeLine + 1; simp only [Array.size_append, List.size_toArray, List.length_nil]; omega))
  refine wpAny_pure ?_
  show wpAny (model prog w) A (do
      let o ← load s.heap.objs.size
      match o.data with
      | .seq xs _ => pure xs.toList
      | _ => unsupported "internal:collect") Q E { s with heap := (s.heap.push (seqObj "list" #[] 0)).update s.heap.objs.size (Obj.mapSeq (· ++ vs.toArray)) }
  refine wpAny_bind (wpAny_load (get?_update_seq (Heap.get?_push_size _ rfl) _) ?_)
  show wpAny _ _ (pure ((#[] : Array Value) ++ vs.toArray).toList) Q E _
  rw [show ((#[] : Array Value) ++ vs.toArray).toList = vs by simp]
  exact wpAny_pure h
theorem sorted_of_seq {l : Addr} {T : String} {o : Obj} {vs : List Value} {n : Nat} {kw : List (Str × Value)} {Q : Value → Shared → Prop} (hT : T = "list" ∨ T = "tuple") (ho : s.heap.get? l = some o) (hc : o.cls = .type T) (hd : o.data = .seq vs.toArray n) (hL : vs.length ≤ sizeLine) (ha1 : argsOk "sorted" ⟨[.ref l], kw⟩) (ha2 : ∀ x, argsOk "list.sort" ⟨[.ref x], kw⟩)
    (body : ∀ E' : Value → Shared → Prop, wpAny (model prog w) A.in1.in1 (Builtin.«list.sort» ⟨[.ref (s.heap.objs.size + 1)], kw⟩) (fun f s' => f = .done (.ret .none) ∧ Q (.ref (s.heap.objs.size + 1)) s') E' { s with heap := PySem.W.copyHeap s.heap vs }) :
    wpAny (model prog w) A (call (.builtin "sorted") [.ref l] kw) Q E s := by
  refine call_function_entry_kw kind_sorted plain_sorted entry_sorted ha1 ?_
  unfold Builtin.«sorted»
  refine wpAny_bind (m := checkCount "sorted" 1 1 _) (wpAny_pure ?_)
  refine wpAny_bind (collect_seq hT ho hc hd ?_ hL)
  refine wpAny_bind (wpAny_newList ?_ hL)
  have hsz : ((s.heap.push (seqObj "list" #[] 0)).update s.heap.objs.size (Obj.mapSeq (· ++ vs.toArray))).objs.size = s.heap.objs.size + 1 := by
    rw [Heap.size_update, size_push']
  show wpAny _ _ _ _ _ { s with heap := PySem.W.copyHeap s.heap vs }
  rw [hsz]
  refine wpAny_bind (wpAny_holding (wpAny_call_entry_kw slot_list_sort ⟨_, PySem.W.copyHeap_at s.heap vs, rfl⟩ entry_list_sort ?body (ha2 _)))
  case body =>
    show wpAny (model prog w) A.in1.in1 (Builtin.«list.sort» ⟨[.ref (s.heap.objs.size + 1)], kw⟩) _ _ _
    refine wpAny_mono (body _) (fun f s' hf => ?_) fun _ _ e => e
    obtain ⟨rfl, hq⟩ := hf
    exact ⟨_, rfl, wpAny_pure ⟨_, rfl, hq⟩⟩
open PySem.W in
theorem sorted_seq {β : Type} {vs : List Value} {bs : List β} {enc : β → PyData} {R : Value → β → Prop} {l : Addr} {T : String} {o : Obj} {n : Nat} {Q : Value → Shared → Prop} (hT : T = "list" ∨ T = "tuple") (ho : s.heap.get? l = some o) (hc : o.cls = .type T) (hd : o.data = .seq vs.toArray n) (e : EachIs R vs bs) (er : EachIs (fun v b => ∃ as, Reads s.heap v (enc b) as) vs bs) (hal : AllAlike (bs.map enc)) (hk : Sortable (bs.map enc)) (hL : bs.length ≤ sizeLine)
    (hu : ∀ b, b ∈ bs → A.units + 2 + (enc b).depth < cLine) (h : ∀ out, out.length = bs.length → EachIs R out (bs.mergeSort (dataLe false enc)) → Q (.ref (s.heap.objs.size + 1)) { s with heap := sortedAll s.heap vs (List.toArray out) }) :
    wpAny (model prog w) A (call (.builtin "sorted") [.ref l]) Q E s := by
  have er' : EachIs (fun v b => ∃ as, Reads (sortingHeap (copyHeap s.heap vs) (s.heap.objs.size + 1) vs) v (enc b) as) vs bs := er.mono fun _ _ ⟨as, r⟩ => ⟨as, PyProof.Rows.Reads.keeps (fun _ _ => sorting_copy_old) r⟩
  have hL' : vs.length ≤ sizeLine := by rw [e.length]; exact hL
  exact sorted_of_seq hT ho hc hd hL' (args_sorted1 _) (fun _ => args_list_sort _) fun _ => list_sort_vals (s := { s with heap := copyHeap s.heap vs }) (copyHeap_at s.heap vs) (SortsAt.data (s := { s with heap := sortingHeap (copyHeap s.heap vs) (s.heap.objs.size + 1) vs }) (each_map (R := fun v d => ∃ as, Reads (sortingHeap (copyHeap s.heap vs) (s.heap.objs.size + 1) vs) v d as) enc er') hal hk (bound_map hu)) hL'
    ⟨rfl, h _ (by rw [sortVals_length false rfl]; exact e.length) (sortVals_data false e er' hal)⟩
end

/-- sorted(xs), the items read as data -/
def srtV (ps : List (V × PyData)) : List V := (ps.mergeSort (PySem.W.dataLe false Prod.snd)).map Prod.fst
def rSrt (K : PySem.W.Frag) : List V → Hp → VK → Prop := fun vs H Q => ∃ (a : Addr) (ps : List (V × PyData)), vs = [.ref a] ∧ (SqL K H a (ps.map Prod.fst) ∨ SqT K H a (ps.map Prod.fst)) ∧ (∀ p ∈ ps, Dp K H p.1 p.2) ∧
  PySem.W.AllAlike (ps.map Prod.snd) ∧ PySem.W.Sortable (ps.map Prod.snd) ∧ (∀ p ∈ ps, p.2.depth ≤ 64) ∧ ∀ q, H q = none → Q (.ref q) (upd H q (.lst (srtV ps)))
theorem each_vals {ps : List (V × PyData)} {its : List Value} (r : Vals (ps.map Prod.fst) its) : PySem.W.EachIs (fun v (b : V × PyData) => RelV b.1 v) its ps := by
  induction ps generalizing its with
  | nil => cases r; exact .nil
  | cons p ps ih => cases r with | cons h t => exact .cons h (ih t)
theorem vals_each {ps : List (V × PyData)} {its : List Value} (r : PySem.W.EachIs (fun v (b : V × PyData) => RelV b.1 v) its ps) : Vals (ps.map Prod.fst) its := by
  induction r with
  | nil => exact .nil
  | cons h t ih => exact .cons h ih
theorem each_and {α β : Type} {R S : α → β → Prop} {as : List α} {bs : List β} (h : PySem.W.EachIs R as bs) (k : ∀ a b, b ∈ bs → R a b → S a b) : PySem.W.EachIs S as bs := by
  induction h with
  | nil => exact .nil
  | cons h t ih => exact .cons (k _ _ (.head _) h) (ih fun a b m => k a b (.tail _ m))
theorem cr_srt {X : Cx} (hu : X.A.units + 66 < cLine) : CallR X (.builtin "sorted") (rSrt X.K) := by
  intro pins s σ H vs us Q I r h
  obtain ⟨a, ps, rfl, hs, hp, hal, hk, hd, q⟩ := h
  have go : ∀ (T : String) (o : Obj) (its : List Value) (n : Nat), (T = "list" ∨ T = "tuple") → s.heap.get? a = some o → o.cls = .type T → o.data = .seq its.toArray n → Vals (ps.map Prod.fst) its → its.length ≤ sizeLine →
      wpAny (model X.prog X.w) X.A (call (.builtin "sorted") us) (EP X pins σ Q) X.xe s := by
    intro T o its n hT ho hc hdt rv hz
    rw [Vals.ref1 r]
    have hl : ps.length ≤ sizeLine := by rw [← rv.length, List.length_map] at hz; exact hz
    refine sorted_seq (β := V × PyData) (enc := Prod.snd) hT ho hc hdt (each_vals rv) (each_and (each_vals rv) fun v b m h => ?_) hal hk hl (fun b m => ?_) fun out hlen he => ?_
    · obtain ⟨as, e⟩ := Dp.reads I b.2 b.1 v (hp b m) h
      exact ⟨as, e⟩
    · have := hd b m; omega
    · obtain ⟨ep, he'⟩ := PyProof.Rows.sortedAll_at s.heap its out.toArray
      have rv2 := vals_each he
      have hlen2 : (srtV ps).length ≤ sizeLine := by unfold srtV; rw [List.length_map, List.length_mergeSort]; exact hl
      exact ⟨.ref _, upd H (s.heap.objs.size + 1) (.lst (srtV ps)), I.laid (t' := s.toks) (fun _ _ => PyProof.Rows.sortedAll_old) (Nat.le_succ _) ⟨hlen2, out, ep, rv2, he'⟩, rfl, q _ (I.hok.fresh (Nat.le_succ _))⟩
  rcases hs with hs | hs
  · obtain ⟨its, rv, pl, hz⟩ := I.list hs
    obtain ⟨o, ho, hc, n, hd2⟩ := pl.isList
    exact go "list" o its n (.inl rfl) ho hc hd2 rv (by rw [← rv.length]; exact hz)
  · obtain ⟨its, rv, pl, hz⟩ := I.tuple hs
    obtain ⟨o, ho, hc, n, hd2⟩ := pl
    exact go "tuple" o its n (.inr rfl) ho hc hd2 rv (by rw [← rv.length]; exact hz)
/-! ### at the level of data -/
def toPD (d : D) : PyData := (toP d).getD .none
def sortBy (f : D → PyData) (xs : List D) : List D := xs.mergeSort (PySem.W.dataLe false f)
def sortD (xs : List D) : List D := sortBy toPD xs
structure SrtOk (ps : List PyData) : Prop where
  al : PySem.W.AllAlike ps
  so : PySem.W.Sortable ps
  dp : ∀ p ∈ ps, p.depth ≤ 64
def sortedD : BS
  | [d], R => (match seqOf d with
    | some xs => (match toPs xs with
      | some ps => SrtOk ps ∧ R (.ow (.lst (sortD xs)))
      | none => False)
    | none => False)
  | _, _ => False
theorem toPs_get : ∀ {xs : List D} {ps : List PyData}, toPs xs = some ps → ps = xs.map toPD ∧ ∀ x ∈ xs, toP x = some (toPD x)
  | [], ps, h => by cases h; exact ⟨rfl, fun x hx => by cases hx⟩
  | x :: xs, ps, h => by
    unfold toPs at h
    cases e1 : toP x with
    | none => rw [e1] at h; cases h
    | some p =>
      cases e2 : toPs xs with
      | none => rw [e1, e2] at h; cases h
      | some qs =>
        rw [e1, e2] at h
        cases h
        obtain ⟨h1, h2⟩ := toPs_get e2
        have e3 : toPD x = p := by unfold toPD; rw [e1]; rfl
        refine ⟨by rw [h1, List.map_cons, e3], fun y hy => ?_⟩
        rcases List.mem_cons.mp hy with rfl | hy
        · rw [e3]; exact e1
        · exact h2 y hy
/-- the items with their values -/
theorem reps_zip {K : PySem.W.Frag} {G : Hp} : ∀ {ds : List D} {vs : List V}, Reps K G ds vs → ∃ l : List (D × V), l.map Prod.fst = ds ∧ l.map Prod.snd = vs ∧ ∀ p ∈ l, Rep K G p.1 p.2
  | [], vs, h => by cases (show vs = [] from h); exact ⟨[], rfl, rfl, fun p hp => by cases hp⟩
  | d :: ds, vs, h => by
    obtain ⟨v, r, rfl, h1, h2⟩ := h
    obtain ⟨l, e1, e2, e3⟩ := reps_zip h2
    exact ⟨(d, v) :: l, by rw [List.map_cons, e1], by rw [List.map_cons, e2], fun p hp => by
      rcases List.mem_cons.mp hp with rfl | hp
      · exact h1
      · exact e3 p hp⟩
theorem zip_reps {K : PySem.W.Frag} {G : Hp} : ∀ (l : List (D × V)), (∀ p ∈ l, Rep K G p.1 p.2) → Reps K G (l.map Prod.fst) (l.map Prod.snd)
  | [], _ => rfl
  | p :: l, h => ⟨_, _, rfl, h p (.head _), zip_reps l fun q m => h q (.tail _ m)⟩
/-- sorting by a key gives the same rows of data and of values -/
theorem sort_reps {K : PySem.W.Frag} {G : Hp} {f : D → PyData} {l : List (D × V)} (h : ∀ p ∈ l, Rep K G p.1 p.2) : Reps K G (sortBy f (l.map Prod.fst)) (srtV (l.map fun p => (p.2, f p.1))) := by
  have e1 : sortBy f (l.map Prod.fst) = (l.mergeSort (PySem.W.dataLe false fun p => f p.1)).map Prod.fst := by
    unfold sortBy
    exact (PySem.W.sort_maps (r := PySem.W.dataLe false fun p : D × V => f p.1) (s := PySem.W.dataLe false f) Prod.fst fun a _ b _ => rfl).symm
  have e2 : (l.map fun p => (p.2, f p.1)).mergeSort (PySem.W.dataLe false Prod.snd) = (l.mergeSort (PySem.W.dataLe false fun p => f p.1)).map fun p => (p.2, f p.1) :=
    (PySem.W.sort_maps (r := PySem.W.dataLe false fun p : D × V => f p.1) (s := PySem.W.dataLe false (Prod.snd : V × PyData → PyData)) (fun p => (p.2, f p.1)) fun a _ b _ => rfl).symm
  unfold srtV
  rw [e1, e2, List.map_map]
  exact zip_reps _ fun p hp => h p ((List.mergeSort_perm l _).mem_iff.mp hp)
theorem sortedD_ok {K : PySem.W.Frag} : BOk K (rSrt K) sortedD := by
  intro G H ds vs R Q sm t h k
  unfold sortedD at h
  split at h
  · rename_i d
    obtain ⟨v, rfl, h2⟩ := tops1 t
    split at h
    · rename_i xs e
      split at h
      · rename_i ps e2
        obtain ⟨hs, hR⟩ := h
        obtain ⟨a, ys, rfl, y1, y2⟩ := seqOf_ok sm e h2
        obtain ⟨l, l1, l2, l3⟩ := reps_zip y2
        obtain ⟨p1, p2⟩ := toPs_get e2
        have m1 : (l.map fun p => (p.2, toPD p.1)).map Prod.fst = ys := by rw [List.map_map, ← l2]; rfl
        have m2 : (l.map fun p => (p.2, toPD p.1)).map Prod.snd = ps := by rw [List.map_map, p1, ← l1, List.map_map]; rfl
        refine ⟨a, l.map fun p => (p.2, toPD p.1), rfl, by rw [m1]; exact y1, fun p hp => ?_, by rw [m2]; exact hs.al, by rw [m2]; exact hs.so, fun p hp => hs.dp p.2 (by rw [← m2]; exact List.mem_map_of_mem hp), fun q n => ?_⟩
        · rw [List.mem_map] at hp
          obtain ⟨z, hz, rfl⟩ := hp
          exact Rep.dp sm z.1 z.2 _ (p2 z.1 (by rw [← l1]; exact List.mem_map_of_mem hz)) (l3 z hz)
        · have r := sort_reps (f := toPD) l3
          rw [l1] at r
          exact ret_lst sm k r hR n
      · exact h.elim
    · exact h.elim
  · exact h.elim
end DL

namespace DL
variable [TB]
open PySem PySem.Spec PySem.Calls PyProof.Rows L2
/-! ### sorted with a key -/
theorem zip_each {xs : List V} {ps : List PyData} {its : List Value} (r : Vals xs its) (hl : ps.length = xs.length) : PySem.W.EachIs (fun v (b : V × PyData) => RelV b.1 v) its (xs.zip ps) := by
  induction r generalizing ps with
  | nil => cases ps with
    | nil => exact .nil
    | cons p ps => cases hl
  | cons h t ih => cases ps with
    | nil => cases hl
    | cons p ps => exact .cons h (ih (Nat.succ.inj hl))
theorem zip_snd {α β : Type} : ∀ {xs : List α} {ps : List β}, ps.length = xs.length → (xs.zip ps).map Prod.snd = ps
  | [], [], _ => rfl
  | [], p :: ps, h => by cases h
  | x :: xs, [], h => by cases h
  | x :: xs, p :: ps, h => by rw [List.zip_cons_cons, List.map_cons, zip_snd (Nat.succ.inj h)]
theorem keys_each {K : PySem.W.Frag} {P : Program} {w : World} {H : Hp} {X : Cx} {pins : List (Addr × Obj)} {σ : L2.St} {s : Shared} (I : Inv X pins σ H s) {ks : List V} {us : List Value} (r : Vals ks us) : ∀ {ps : List PyData}, ps.length = ks.length → (∀ (i : Nat) k p, ks[i]? = some k → ps[i]? = some p → Dp X.K H k p) → PySem.W.EachIs (fun v d => ∃ as, Reads s.heap v d as) us ps := by
  induction r with
  | nil =>
    intro ps hl _
    cases ps with
    | nil => exact .nil
    | cons p ps => cases hl
  | @cons a b as bs h t ih =>
    intro ps hl hd
    cases ps with
    | nil => cases hl
    | cons p ps => exact .cons (Dp.reads I p _ _ (hd 0 _ _ rfl rfl) h) (ih (Nat.succ.inj hl) fun i k q e1 e2 => hd (i + 1) k q e1 e2)
section
variable {X : Cx} {pins : List (Addr × Obj)} {s : Shared} {σ : L2.St} {H : Hp}
theorem fp_up {H' : Hp} {b : Addr} (f : FpOk X pins H b) (h : H' b = none) : FpOk X pins H' b := ⟨h, f.2⟩
theorem fp_stk {b : Addr} (ok : Inv X pins σ H s) (f : FpOk X pins H b) : b ∉ frs X.stack := fun z => (List.mem_cons.mp (ok.stkSub _ z)).elim f.2.1 f.2.2.1
theorem inv_poke {H' : Hp} {b : Addr} {h' : Heap} {t' : Nat} (I : Inv X pins σ H' s) (f : FpOk X pins H' b) (k : ∀ c o, c ≠ b → s.heap.get? c = some o → h'.get? c = some o) : Inv X pins σ H' { s with heap := h', toks := t' } :=
  I.turned k f.1 f.2.1 f.2.2.2.1 f.2.2.2.2.1 f.2.2.2.2.2
/-- a thing of ours, not told so far, is told -/
theorem inv_take {b : Addr} {u : HO} (I : Inv X pins σ H s) (f : FpOk X pins H b) (new : ObjOk X.prog X.w (upd H b u) s.heap b u) : Inv X pins σ (upd H b u) s := by
  have nb : ∀ c v, H c = some v → c ≠ b := fun c v e z => by rw [z, f.1] at e; cases e
  have J := I.step (H' := upd H b u) (h' := s.heap) (g' := s.gens) (t' := s.toks) (d' := s.drawn) (ch := [b]) (fun c hc => (by
      have e : c = b := by simpa using hc
      rw [e]
      exact ⟨f.2.2.2.1, f.2.1, f.2.2.2.2.1, f.2.2.2.2.2⟩)) (fun c o _ _ _ e _ => e) (fun c o _ _ _ e _ => ⟨o.slots, e⟩)
    (fun c o hc _ n => by rw [upd_ne (fun z => hc (by rw [z]; exact List.mem_singleton.mpr rfl))]; exact n) (fun c o _ e => ⟨o, e⟩) (fun c xs e => by rw [upd_ne (nb c _ e)]; exact e) (fun c o v e => by rw [upd_ne (nb c _ e)]; exact e)
    (fun c ps e => ⟨#[], by rw [upd_ne (nb c _ e), e, Array.append_empty]⟩) (fun m hm => hm) (fun c v e => (by
      by_cases hc : c = b
      · subst hc
        rw [upd_same] at e
        cases e
        exact new
      · rw [upd_ne hc] at e
        exact (I.hok c v e).stay (fun d o _ q => q) (fun d q => by rw [upd_ne (nb d _ q)]; exact q) fun d xs q => by rw [upd_ne (nb d _ q)]; exact q)) I.bare
  exact J
open PySem.W in
theorem sorted_cb {l : Addr} {T : String} {o : Obj} {its : List Value} {n : Nat} {xs : List V} {f : Value} {Q : VK} (I : Inv X pins σ H s) (hu : X.A.units + 66 < cLine) (hT : T = "list" ∨ T = "tuple") (ho : s.heap.get? l = some o) (hc : o.cls = .type T) (hd : o.data = .seq its.toArray n) (rv : Vals xs its) (hz : its.length ≤ sizeLine)
    (ht : ∀ x, Builtin.«list.sort» ⟨[.ref x], [(Str.ofString "key", f)]⟩ = ksk_tree x f false) (W : List V → Hp → Prop) (w0 : W [] H)
    (turn : ∀ (ks : List V) (y : V) (u : Value) (H' : Hp) (s' : Shared), Inv X pins σ H' s' → W ks H' → xs[ks.length]? = some y → RelV y u → wpAny (model X.prog X.w) X.A.in1.in1 (call f [u]) (CE X.stack X.prog X.w H' s' fun k H'' => W (ks ++ [k]) H'') (fun _ _ => False) s')
    (done : ∀ ks H', W ks H' → ks.length = xs.length → ∃ ps : List PyData, ps.length = xs.length ∧ (∀ (i : Nat) k p, ks[i]? = some k → ps[i]? = some p → Dp X.K H' k p) ∧ AllAlike ps ∧ Sortable ps ∧ (∀ p ∈ ps, p.depth ≤ 64) ∧ ∀ q, H' q = none → Q (.ref q) (upd H' q (.lst (srtV (xs.zip ps))))) :
    wpAny (model X.prog X.w) X.A (call (.builtin "sorted") [.ref l] [(Str.ofString "key", f)]) (EP X pins σ Q) X.xe s := by
  have hlen : xs.length = its.length := rv.length
  have fD : FpOk X pins H (s.heap.objs.size + 1) := I.fpOk (by omega) (I.hok.fresh (by omega))
  have fk : FpOk X pins H (s.heap.objs.size + 3) := I.fpOk (by omega) (I.hok.fresh (by omega))
  have hkD : s.heap.objs.size + 3 ≠ s.heap.objs.size + 1 := by omega
  refine sorted_of_seq hT ho hc hd hz (ksk_s1 _ _) (fun _ => ksk_l1 _ _) fun E' => ?_
  rw [ht]
  have hD0 : (copyHeap s.heap its).get? (s.heap.objs.size + 1) = some (seqObj "list" its.toArray 0) := copyHeap_at s.heap its
  have hsz : (copyHeap s.heap its).objs.size = s.heap.objs.size + 2 := by
    show (((s.heap.push (seqObj "list" #[] 0)).update s.heap.objs.size (Obj.mapSeq (· ++ its.toArray))).push (seqObj "list" its.toArray 0)).objs.size = _
    rw [size_push', Heap.size_update, size_push']
  obtain ⟨D, hDe⟩ : ∃ D, s.heap.objs.size + 1 = D := ⟨_, rfl⟩
  rw [hDe] at hD0 fD hkD ⊢
  obtain ⟨e1, hD1⟩ : ∃ e1, ((copyHeap s.heap its).update D (Obj.mapSeq fun _ => (#[] : Array Value))).get? D = some (seqObj "list" #[] e1) := ⟨_, get?_update_seq hD0 fun _ => #[]⟩
  unfold ksk_tree
  refine wpAny_bind (listItems_at hD0 rfl ?_)
  refine wpAny_bind (listUpdate_at hD0 rfl ?_ (by rw [List.size_toArray]; exact hz) (Nat.zero_le _))
  refine wpAny_bind (seqEpoch_at hD1 rfl ?_)
  refine wpAny_bind (wpAny_newTuple ?_ (by show its.length ≤ _; exact hz))
  refine wpAny_bind (wpAny_newList ?_ (Nat.zero_le _))
  refine wpAny_holding ?_
  have hkS : (((copyHeap s.heap its).update D (Obj.mapSeq fun _ => (#[] : Array Value))).push (seqObj "tuple" its.toArray 0)).objs.size = s.heap.objs.size + 3 := by rw [size_push', Heap.size_update, hsz]
  have nk0 : ((((copyHeap s.heap its).update D (Obj.mapSeq fun _ => (#[] : Array Value))).push (seqObj "tuple" its.toArray 0)).push (seqObj "list" #[] 0)).get? (s.heap.objs.size + 3) = some (seqObj "list" #[] 0) := by
    rw [← hkS]; exact Heap.get?_push_size _ rfl
  have nD0 : ((((copyHeap s.heap its).update D (Obj.mapSeq fun _ => (#[] : Array Value))).push (seqObj "tuple" its.toArray 0)).push (seqObj "list" #[] 0)).get? D = some (seqObj "list" #[] e1) := Heap.get?_push_of_some _ (Heap.get?_push_of_some _ hD1)
  have old : ∀ b u, s.heap.get? b = some u → ((((copyHeap s.heap its).update D (Obj.mapSeq fun _ => (#[] : Array Value))).push (seqObj "tuple" its.toArray 0)).push (seqObj "list" #[] 0)).get? b = some u := fun b u e => by
    have hb := Heap.lt_size e
    refine Heap.get?_push_of_some _ (Heap.get?_push_of_some _ ?_)
    rw [Heap.get?_update_ne _ _ _ _ (show b ≠ D by rw [← hDe]; exact Nat.ne_of_lt (Nat.lt_succ_of_lt hb))]
    exact copyHeap_old e
  show wpAny (model X.prog X.w) X.A.in1.in1 (ksk_rest D f false its.toArray e1 (.ref (((copyHeap s.heap its).update D (Obj.mapSeq fun _ => (#[] : Array Value))).push (seqObj "tuple" its.toArray 0)).objs.size)) _ _ { s with heap := ((((copyHeap s.heap its).update D (Obj.mapSeq fun _ => (#[] : Array Value))).push (seqObj "tuple" its.toArray 0)).push (seqObj "list" #[] 0)) }
  rw [hkS]
  obtain ⟨kS, hks⟩ : ∃ k, s.heap.objs.size + 3 = k := ⟨_, rfl⟩
  rw [hks] at nk0 fk hkD ⊢
  have J0 : Inv X pins σ H { s with heap := ((((copyHeap s.heap its).update D (Obj.mapSeq fun _ => (#[] : Array Value))).push (seqObj "tuple" its.toArray 0)).push (seqObj "list" #[] 0)) } := I.kept (t' := s.toks) old
  generalize ((((copyHeap s.heap its).update D (Obj.mapSeq fun _ => (#[] : Array Value))).push (seqObj "tuple" its.toArray 0)).push (seqObj "list" #[] 0)) = h0 at J0 nk0 nD0 ⊢
  unfold ksk_rest
  refine wpAny_bind (wpAny_rule ?_)
  first
    | rw [List.forIn_toArray]
    | (rw [← Array.forIn_toList]; simp only [List.toList_toArray])
    | rw [← Array.forIn_toList]
  refine wpAny_bind (ksk_fold (fun i s' => ∃ ks H' kA e, ks.length = i ∧ Inv X pins σ H' s' ∧ H' D = none ∧ H' kS = none ∧ W ks H' ∧ Vals ks kA.toList ∧ s'.heap.get? kS = some (seqObj "list" kA e) ∧ s'.heap.get? D = some (seqObj "list" #[] e1)) its 0 _
    ⟨[], H, #[], 0, rfl, J0, fD.1, fk.1, w0, .nil, nk0, nD0⟩ ?step ?fin)
  case step =>
    rintro j u s' hj ⟨ks, H', kA, e, hl, I', nD, nK, w1, rk, hk, hDn⟩
    simp only [Nat.zero_add] at hl
    subst hl
    obtain ⟨y, hy⟩ : ∃ y, xs[ks.length]? = some y := ⟨_, List.getElem?_eq_getElem (by have := (List.getElem?_eq_some_iff.mp hj).1; omega)⟩
    have ry : RelV y u := by
      obtain ⟨u', h1, h2⟩ := rv.get hy
      rw [hj] at h1
      cases h1
      exact h2
    refine wpAny_bind (wpAny_attempt (wpAny_mono (turn ks y u H' s' I' w1 hy ry) (fun v s'' he => ?_) fun _ _ hF => hF.elim))
    obtain ⟨k, H'', os, bare, un, hok, rk2, w2⟩ := he
    try dsimp only
    have I2 : Inv X pins σ H'' s'' := I'.call' os un hok bare (fun b hb => by cases hb)
    have kin : kS ∉ frs X.stack := fp_stk I (f := fk)
    have din : D ∉ frs X.stack := fp_stk I (f := fD)
    have hk2 : s''.heap.get? kS = some (seqObj "list" kA e) := un.keep _ _ hk nK kin (by simp)
    have hD2 : s''.heap.get? D = some (seqObj "list" #[] e1) := un.keep _ _ hDn nD din (by simp)
    have nK2 := un.free _ _ hk nK (by simp)
    have nD2 := un.free _ _ hDn nD (by simp)
    have kl : kA.size = ks.length := by rw [← Array.length_toList, ← rk.length]
    have jl : ks.length < its.length := (List.getElem?_eq_some_iff.mp hj).1
    refine wpAny_bind (listUpdate_at hk2 rfl ?_ (by omega) (by rw [Array.size_push]; omega))
    have s1 := Heap.SameBut.update s''.heap kS (Obj.mapSeq (·.push v))
    have I3 : Inv X pins σ H'' { s'' with heap := s''.heap.update kS (Obj.mapSeq (·.push v)) } := inv_poke (t' := s''.toks) I2 (fp_up fk nK2) fun c o hc e => (s1.2 c hc).trans e
    exact wpAny_pure ⟨rfl, ks ++ [k], H'', kA.push v, _, by rw [List.length_append, Nat.zero_add]; rfl, I3, nD2, nK2, w2, by rw [Array.toList_push]; exact Vals.append rk (.cons rk2 .nil), get?_update_seq hk2 (·.push v), (s1.2 D hkD.symm).trans hD2⟩
  case fin =>
    rintro s' ⟨ks, H', kA, e, hl, I', nD, nK, w1, rk, hk, hDn⟩
    rw [Nat.zero_add, ← hlen] at hl
    obtain ⟨ps, hp, hdp, hal, hso, hdep, q⟩ := done ks H' w1 hl
    try dsimp only
    refine wpAny_bind (listItems_at hk rfl ?_)
    have ek : EachIs (fun v d => ∃ as, Reads s'.heap v d as) kA.toList ps := keys_each (K := X.K) (P := X.prog) (w := X.w) I' rk (by rw [hp, hl]) hdp
    have kl : kA.size = its.length := by rw [← Array.length_toList, ← rk.length, hl, hlen]
    have s1 := Heap.SameBut.update s'.heap kS (fun _ => { cls := .none, data := .freed })
    have hk1 : (s'.heap.update kS (fun _ => { cls := .none, data := .freed })).get? kS = none := by
      cases q : (s'.heap.update kS (fun _ => { cls := .none, data := .freed })).get? kS with
      | none => rfl
      | some o2 =>
        exfalso
        obtain ⟨e1, e2⟩ := Heap.get?_some_iff.mp q
        rw [Heap.objs_update_self] at e1
        obtain ⟨o3, _, h3⟩ := Option.map_eq_some_iff.mp e1
        rw [← h3] at e2
        cases e2
    refine keyH_end (κ := dataKind s'.heap ps) (h₁ := s'.heap.update kS (fun _ => { cls := .none, data := .freed })) (fun b u hb e => ?_) hk1 hk hDn hkD (SortsAt.data (s := s') ek hal hso fun d hd => (by have := hdep d hd; show X.A.units + 1 + 1 + _ < _; omega)) kl hz fun h3 tk3 c k3 n3 => ⟨rfl, ?_⟩
    · by_cases hbk : b = kS
      · subst hbk; rw [hk1] at e; cases e
      · exact (s1.2 b hbk).symm.trans e
    · have I1 : Inv X pins σ H' { s' with heap := s'.heap.update kS (fun _ => { cls := .none, data := .freed }) } := inv_poke (t' := s'.toks) I' (fp_up fk nK) fun c o hc e => (s1.2 c hc).trans e
      have I2 : Inv X pins σ H' { s' with heap := h3, toks := tk3 } := inv_poke (s := { s' with heap := s'.heap.update kS (fun _ => { cls := .none, data := .freed }) }) (t' := tk3) I1 (fp_up fD nD) fun c o hc e => k3 c o hc e
      have ko : KeyedOut false ((xs.zip ps).map Prod.snd) its (sortVals (dataKind s'.heap ps) false kA.toList its) := by
        rw [zip_snd hp]
        exact ⟨s'.heap, kA.toList, hal, rfl, ek⟩
      have ev := keyedOut_each Prod.snd ko (zip_each rv hp)
      have rv2 := vals_each ev
      have hlen2 : (srtV (xs.zip ps)).length ≤ sizeLine := by unfold srtV; rw [List.length_map, List.length_mergeSort, List.length_zip]; omega
      have I3 := inv_take (u := .lst (srtV (xs.zip ps))) I2 (fp_up fD nD) ⟨hlen2, _, c, rv2, n3⟩
      exact ⟨.ref D, _, I3, rfl, q D nD⟩
end
end DL

namespace DL
variable [TB]
open PySem PySem.Spec PySem.Calls PyProof.Rows L2
/-! ### a lambda: made, called -/
theorem Room.in2 {k : Nat} {A : Around} (r : Room (k + 1) A) : Room k A.in1.in1 := ⟨r.hd, by have := r.dp; show A.depth + 3 * k + 5 < _; omega, by have := r.un; show A.units + 1 + 1 + 16 * k + 200 < _; omega⟩
theorem env0_in2 {P : Program} {w : World} {K : PySem.W.Frag} {mg : Str → Option Value} {base : Heap} {A : Around} {outer : List Env} {s : Shared} {H : Hp} (e : Env0 P w K mg base A outer s H) : Env0 P w K mg base A.in1.in1 outer s H :=
  ⟨e.frames, e.mod, e.bs, e.bsz, e.funs, e.frf, e.hok, e.bare⟩
/-- the words of a lambda -/
abbrev lamF (q : Str) (params : Arguments) (scope : Scope) (cl : List (Str × Addr)) (c' : Addr) : NdefX.NF := ⟨"<lambda>", q, params, [], scope, cl, c'⟩
section
variable {X : Cx} {pins : List (Addr × Obj)} {s : Shared} {σ : L2.St} {H : Hp}
theorem lam_run {f c' : Addr} {q : Str} {params : Arguments} {body : Expr} {scope : Scope} {cl : List (Str × Addr)} {pm ctv : Value} {N fr : List Str} {x : Str} {js : List Nat} {k : Nat} {u : Value} {y : V} {te : TE} {Q : VK}
    (I : Inv X pins σ H s) (hf : s.heap.get? f = some (PySem.W.kla_obj "<lambda>" q params body scope cl pm c' ctv)) (hc : H c' = some (LamX.CodeO c' q)) (S : NdefX.NScope N [x] fr scope) (cp : NdefX.Caps X cl fr js)
    (hb : ∀ u, bindArgs (PySem.W.kla_fn "<lambda>" q params body scope cl pm (.ref c') ctv) ⟨[u], []⟩ = pure [(x, u)]) (hr : Room (k + 2) X.A)
    (hbody : ∀ (A : Around) (outer : List Env) (s : Shared) (H : Hp), Room k (A.deeper (NdefX.envF (lamF q params scope cl c') f s.heap.objs.size)) → PE (NdefX.ncx CX0 X.prog X.w X.K X.mg X.base N (lamF q params scope cl c') f A outer s H E0).nox body te)
    (ry : RelV y u) (ht : te (NdefX.startF N [y] (js.map (NdefX.slotAt σ))) H Q) :
    wpAny (model X.prog X.w) X.A.in1.in1 (call (.ref f) [u]) (CE X.stack X.prog X.w H s Q) (fun _ _ => False) s := by
  have e0 := env0_in2 I.env0
  have C := NdefX.cells_of I cp
  have hr2 : Room (k + 1) X.A.in1.in1 := Room.in2 hr
  obtain ⟨⟨oc, vs, t, hoc, hdc, hvc⟩, _, _⟩ := I.hok c' _ hc
  refine wpAny_call ?_
  have rc : codeAny (model X.prog X.w) X.A.in1.in1 (.call (.ref f) ⟨[u], []⟩) (CR CX0 X.stack X.prog X.w H s Q E0) s := by
    refine PySem.W.kla_callFunE hr2.depth hf rfl S.co S.gen rfl ⟨c', oc, vs, t, rfl, hoc, hdc, hvc⟩ ?_
    rw [hb]
    refine wpAny_pure (wpAny_newFunctionEnv S.nocell (fun z hz => (by have e := List.mem_singleton.mp hz; rw [e]; exact S.par x (List.mem_singleton.mpr rfl))) (fun h₁ hns hsb => ⟨I.nolimit.fresh _ hsb, ?_⟩) S.kind)
    show codeAny _ _ (.expr body (NdefX.envF (lamF q params scope cl c') f s.heap.objs.size)) _ _
    have kp : ∀ b o, s.heap.get? b = some o → h₁.get? b = some o := fun b o e => hsb.extBut b o (Nat.ne_of_lt (Heap.lt_size e)) (Heap.get?_push_of_some _ e)
    have J : Inv (NdefX.ncx CX0 X.prog X.w X.K X.mg X.base N (lamF q params scope cl c') f X.A.in1.in1 X.stack s H E0) [] (NdefX.startF N [y] (js.map (NdefX.slotAt σ))) H { s with heap := h₁, toks := s.toks + ([(x, u)] : List (Str × Value)).length } :=
      NdefX.inv_startN (us := [u]) S hr2.hd e0 rfl (.cons ry .nil) C hns kp
    refine PySem.W.kla_codeExpr (wpAny_mono ((PE.nox (hbody X.A.in1.in1 X.stack s H (hr2.deeper _))).run [] _ _ H Q J ht) (fun v s' hq => ?_) fun e s' hq => hq)
    obtain ⟨w', H', J', rv, q2⟩ := hq
    exact ⟨w', H', J'.os, J'.bare, J'.base, J'.hok, rv, q2⟩
  refine codeAny_mono rc fun r s' hq => ?_
  cases r with
  | error e => exact hq.elim
  | ok fl =>
    cases fl with
    | ret u => exact hq
    | next => exact False.elim hq
    | brk => exact False.elim hq
    | cont => exact False.elim hq
end
end DL

namespace DL
variable [TB]
open PySem PySem.Spec PySem.Calls PyProof.Rows L2
/-! ### sorted(e, key = ..) as a rule -/
abbrev CbT := V → Hp → VK → Prop
abbrev TKey := L2.St → Hp → (CbT → Hp → Prop) → Prop
def CbRun (X : Cx) (pins : List (Addr × Obj)) (σ : L2.St) (f : Value) (cb : CbT) : Prop := ∀ (y : V) (u : Value) (H2 : Hp) (s2 : Shared) (Q2 : VK), Inv X pins σ H2 s2 → RelV y u → cb y H2 Q2 →
  wpAny (model X.prog X.w) X.A.in1.in1 (call f [u]) (CE X.stack X.prog X.w H2 s2 Q2) (fun _ _ => False) s2
structure KeyE (X : Cx) (fe : Expr) (t : TKey) : Prop where
  run : ∀ (pins : List (Addr × Obj)) (s : Shared) (σ : L2.St) (H : Hp) (N : CbT → Hp → Prop) (Q : Value → Shared → Prop), Inv X pins σ H s → t σ H N →
    (∀ (f : Value) (pins' : List (Addr × Obj)) (cb : CbT) (H' : Hp) (s' : Shared), (∀ x, Builtin.«list.sort» ⟨[.ref x], [(Str.ofString "key", f)]⟩ = ksk_tree x f false) → (∀ p ∈ pins, p ∈ pins') → Inv X pins' σ H' s' → N cb H' → CbRun X pins' σ f cb → Q f s') →
    wpAny (model X.prog X.w) X.A (eval fe X.env) Q X.xe s
def srtRest (X : Cx) (t : TKey) (σ : L2.St) (Q : VK) (x : V) (H1 : Hp) : Prop := t σ H1 fun cb H2 => ∃ (a : Addr) (xs : List V) (W : List V → Hp → Prop), x = .ref a ∧ (SqL X.K H2 a xs ∨ SqT X.K H2 a xs) ∧ W [] H2 ∧
  (∀ (ks : List V) (y : V) (H' : Hp), W ks H' → xs[ks.length]? = some y → cb y H' fun k H'' => W (ks ++ [k]) H'') ∧
  ∀ (ks : List V) (H' : Hp), W ks H' → ks.length = xs.length → ∃ ps : List PyData, ps.length = xs.length ∧ (∀ (i : Nat) k p, ks[i]? = some k → ps[i]? = some p → Dp X.K H' k p) ∧ PySem.W.AllAlike ps ∧ PySem.W.Sortable ps ∧ (∀ p ∈ ps, p.depth ≤ 64) ∧ ∀ q, H' q = none → Q (.ref q) (upd H' q (.lst (srtV (xs.zip ps))))
def tSrt (X : Cx) (te : TE) (t : TKey) : TE := fun σ H Q => te σ H (srtRest X t σ Q)
theorem pe_srt {X : Cx} {e fe : Expr} {p pos kp : Pos} {te : TE} {t : TKey} (hu : X.A.units + 66 < cLine) (hg : Gl X "sorted") (hm : X.mg "sorted" = none) (ha : PE X e te) (hk : KeyE X fe t)
    (he : ∀ env : Env, starEach [e] env = (false, eval e env) :: starEach [] env) : PE X (.Call (.Name "sorted" p) [e] [⟨some "key", fe, kp⟩] pos) (tSrt X te t) := by
  refine ⟨fun pins s σ H Q I h => ?_⟩
  refine wpAny_Call_Name_kw (ld_blt I hg hm (u := .builtin "sorted") rfl ?_)
  have hst : backTo pos (starEach [e] X.env) = (false, eval e X.env) :: backTo pos (starEach [] X.env) := by rw [he]; rfl
  refine PyProof.Rows.callWith_kw (thn ((pa_cons ha pa_nil (he X.env)).run pos pins s σ H (fun vs H1 => match vs with
    | [x] => srtRest X t σ Q x H1
    | _ => False) I h) fun us s1 ⟨vs, H1, I1, r1, q1⟩ => ?_) hst (by rw [hst]; rfl) rfl rfl
  dsimp only at q1
  split at q1
  · rename_i x
    obtain ⟨u, rfl, rx⟩ := vals1 r1
    refine wpAny_evalAll_cons (wpAny_bind (hk.run pins s1 σ H1 _ _ I1 q1 fun f pins' cb H2 s2 ht hp I2 n cr => wpAny_bind (wpAny_standAt (wpAny_pure (wpAny_evalAll_nil ?_)))))
    obtain ⟨a, xs, W, rfl, hs, w0, hw, hd⟩ := n
    cases rx
    have go : ∀ (T : String) (o : Obj) (its : List Value) (n : Nat), (T = "list" ∨ T = "tuple") → s2.heap.get? a = some o → o.cls = .type T → o.data = .seq its.toArray n → Vals xs its → its.length ≤ sizeLine →
        wpAny (model X.prog X.w) X.A (call (.builtin "sorted") [.ref a] [(Str.ofString "key", f)]) (EP X pins σ Q) X.xe s2 := by
      intro T o its n hT ho hc hdt rv hz
      refine thn (sorted_cb (Q := Q) I2 hu hT ho hc hdt rv hz ht W w0 (fun ks y u H' s' I' w hy ry => cr y u H' s' _ I' ry (hw ks y H' w hy)) hd) fun v s3 ⟨v', H3, I3, r3, q3⟩ => ?_
      exact ⟨v', H3, I3.pins_of fun p hp' => I3.pin p (by rcases List.mem_append.mp (List.mem_append_right X.pn (hp p hp')) with z | z; exact List.mem_append_left _ z; exact List.mem_append_right _ z), r3, q3⟩
    rcases hs with hs | hs
    · obtain ⟨its, rv, pl, hz⟩ := I2.list hs
      obtain ⟨o, ho, hc, n, hd2⟩ := pl.isList
      exact go "list" o its n (.inl rfl) ho hc hd2 rv (by rw [← rv.length]; exact hz)
    · obtain ⟨its, rv, pl, hz⟩ := I2.tuple hs
      obtain ⟨o, ho, hc, n, hd2⟩ := pl
      exact go "tuple" o its n (.inr rfl) ho hc hd2 rv (by rw [← rv.length]; exact hz)
  · exact q1.elim
/-- a def of the module as the key -/
theorem key_def {X : Cx} {x : Str} {p : Pos} {f : Addr} {fd : FuncData} {y : Str} {k : Nat} {sp : Sp} (F : FnOk X.prog X.w X.K X.mg X.base CX0 k f fd [y] sp) (hr : Room (k + 1) X.A) (hg : Gl X x) (hm : X.mg x = some (.ref f)) (b : L2.Binds X.K fd [y] []) (hdb : (x == ("__debug__" : Str)) = false) :
    KeyE X (.Name x p) fun _ H N => N (fun v H2 Q2 => sp [v] H2 Q2 E0) H := by
  refine ⟨fun pins s σ H N Q I n h => ld_glob I hg hm (h (.ref f) pins _ H s (fun x => ksk_t1 f x) (fun _ m => m) I n fun v u H2 s2 Q2 I2 r2 q2 => ?_) hdb⟩
  refine wpAny_call (codeAny_mono (F.run X.A.in1.in1 X.stack s2 H2 ⟨[u], []⟩ [u] [v] Q2 E0 (Room.in2 hr) (env0_in2 I2.env0) (b s2 [u] I2.kIn rfl) (.cons r2 .nil) q2) fun r s' hq => ?_)
  cases r with
  | error e => exact hq.elim
  | ok fl =>
    cases fl with
    | ret u => exact hq
    | next => exact False.elim hq
    | brk => exact False.elim hq
    | cont => exact False.elim hq
end DL

namespace DL
variable [TB]
open PySem PySem.Spec PySem.Calls PyProof.Rows L2
/-- a lambda as the key -/
theorem key_lam {X : Cx} {c P : Addr} {params : Arguments} {body : Expr} {scope : Scope} {lp : Pos} {N fr : List Str} {x : Str} {js : List Nat} {k : Nat} {te : TE}
    (TBB : LamX.TabB X.base X.mg c P) (hcode : X.env.code = .ref c) (hm : (P, X.env.qual ++ "<lambda>") ∈ TB.tabs X.K) (hu : ∀ p ∈ TB.tabs X.K, p.1 = P → p.2 = X.env.qual ++ "<lambda>") (hdef : defaultsOf params X.env = ([], []))
    (S : NdefX.NScope N [x] fr scope) (hfree : ∀ y ∈ scope.names, y.2 = .free → X.env.scope.names.lookup y.1 = some .cell ∨ X.env.scope.names.lookup y.1 = some .free) (hfr : ∀ y ∈ fr, (y, NameKind.free) ∈ scope.names) (hjs : js.map (fun j => X.N[j]?) = fr.map some)
    (hb : ∀ (cl : List (Str × Addr)) (pm ctv : Value) (c' : Addr) (u : Value), bindArgs (PySem.W.kla_fn "<lambda>" (X.env.qual ++ "<lambda>") params body scope cl pm (.ref c') ctv) ⟨[u], []⟩ = pure [(x, u)]) (hr : Room (k + 2) X.A)
    (hbody : ∀ (f c' : Addr) (cl : List (Str × Addr)) (A : Around) (outer : List Env) (s : Shared) (H : Hp), Room k (A.deeper (NdefX.envF (lamF (X.env.qual ++ "<lambda>") params scope cl c') f s.heap.objs.size)) →
      PE (NdefX.ncx CX0 X.prog X.w X.K X.mg X.base N (lamF (X.env.qual ++ "<lambda>") params scope cl c') f A outer s H E0).nox body te) :
    KeyE X (.Lambda params body scope lp) fun σ H N' => LamX.Tabs (TB.tabs X.K) H ∧ ∀ (c' : Addr) (H1 : Hp), LamX.ExtN H H1 → LamX.Tabs (TB.tabs X.K) H1 → H1 c' = some (LamX.CodeO c' (X.env.qual ++ "<lambda>")) →
      N' (fun v H2 Q2 => H2 c' = some (LamX.CodeO c' (X.env.qual ++ "<lambda>")) ∧ te (NdefX.startF N [v] (js.map (NdefX.slotAt σ))) H2 Q2) H1 := by
  refine ⟨fun pins s σ H N' Q I n h => ?_⟩
  obtain ⟨hT, n⟩ := n
  have hf2 : ∀ y ∈ scope.names, y.2 = .free → ∃ c, X.env.cells.lookup y.1 = some c := fun y hy e => (hfree y hy e).elim (fun z => I.ok.has _ (.inl z)) fun z => I.ok.has _ (.inr z)
  refine LamX.lam_make2 I TBB hcode hm hu hT hdef hf2 fun f c' pm ctv H1 s1 I1 eN T1 hf hn hfr2 hc => ?_
  have pinOk : ∀ p ∈ (f, PySem.W.kla_obj "<lambda>" (X.env.qual ++ "<lambda>") params body scope (cloFrom X.env.cells scope.names []) pm c' ctv) :: pins, s1.heap.get? p.1 = some p.2 ∧ H1 p.1 = none ∧ p.1 ≠ X.env.locals ∧ p.1 ∉ X.fs ∧ ∀ v, p.2.data ≠ .cell v := fun p hp => by
    rcases List.mem_cons.mp hp with rfl | hp
    · refine ⟨hf, hn, fun z => ?_, fun z => ?_, fun v z => by cases z⟩
      · obtain ⟨m, ⟨o, es, ep, ho, hd, _⟩, _⟩ := I1.loc
        have z : f = X.env.locals := z
        rw [← z, hf] at ho
        cases ho
        cases hd
      · refine hfr2 ?_
        rcases I1.ok.stk with e | ⟨e, _⟩
        · rw [e]; exact z
        · rw [e]
          show f ∈ (X.env :: X.outer).filterMap (·.frame)
          rw [List.filterMap_cons]
          split
          · exact z
          · exact List.mem_cons_of_mem _ z
    · exact I1.pin p (List.mem_append_right _ hp)
  have I2 := I1.pins_of pinOk
  refine h (.ref f) _ _ H1 s1 (fun x => ksk_t1 f x) (fun p m => List.mem_cons_of_mem _ m) I2 (n c' H1 eN T1 hc) fun v u H2 s2 Q2 I3 r2 q2 => ?_
  have hf3 := (I3.pin _ (List.mem_append_right X.pn (.head _))).1
  exact lam_run I3 hf3 q2.1 S (NdefX.Caps.made I3.ok hfree hfr hjs) (fun u => hb _ pm ctv c' u) hr (fun A outer s H hr2 => hbody f c' _ A outer s H hr2) r2 q2.2
theorem lam_binds (y q : Str) (pp : Pos) (body : Expr) (sc : Scope) (cl : List (Str × Addr)) (pm ctv : Value) (c' : Addr) (u : Value) : bindArgs (PySem.W.kla_fn "<lambda>" q ⟨[], [⟨y, none, pp⟩], none, [], [], none, []⟩ body sc cl pm (.ref c') ctv) ⟨[u], []⟩ = pure [(y, u)] := by
  unfold bindArgs
  simp [show seqItems? Value.none = (pure none : Sem (Option (Array Value))) from rfl, List.lookup]
end DL

namespace DL
variable [TB]
open PySem PySem.Spec PyProof.Rows L2
def entry (nN : Nat) (args : List Sl) : DSt := args ++ List.replicate (nN - args.length) .no
section
variable {K : PySem.W.Frag} {B G H : Hp}
theorem entry_get {nN : Nat} {args : List Sl} {i : Nat} {x : Sl} (h : (entry nN args)[i]? = some x) (hx : x ≠ .no) : args[i]? = some x := by
  unfold entry at h
  by_cases c : i < args.length
  · rwa [List.getElem?_append_left c] at h
  · rw [List.getElem?_append_right (by omega), List.getElem?_replicate] at h
    split at h
    · cases h; exact absurd rfl hx
    · cases h
theorem start_get {N : List Str} {vs : List V} {i : Nat} {v : V} (h : (vs.map some)[i]? = some (some v)) : (L2.start N vs)[i]? = some (some v) := by
  unfold L2.start
  rw [List.getElem?_append_left]
  · exact h
  · by_cases c : i < (vs.map some).length
    · exact c
    · rw [List.getElem?_eq_none (by omega)] at h; cases h
theorem StRep.start {args : List Sl} {vs : List V} {N : List Str} (S : StRep K B G args (vs.map some) H) (hl : vs.length ≤ N.length) : StRep K B G (entry N.length args) (L2.start N vs) H where
  bH := S.bH
  gH := S.gH
  dj := S.dj
  tb := S.tb
  len := by
    have h := S.len
    rw [List.length_map] at h
    unfold entry L2.start
    rw [List.length_append, List.length_append, List.length_replicate, List.length_replicate, List.length_map, h]
  sh := fun i d h => by
    obtain ⟨v, h1, h2⟩ := S.sh i d (entry_get h (fun e => by cases e))
    exact ⟨v, start_get h1, h2⟩
  ow := fun i d h => by
    obtain ⟨a, o, h1, h2⟩ := S.ow i d (entry_get h (fun e => by cases e))
    exact ⟨a, o, start_get h1, h2⟩
  ap := fun i j d e a h1 h2 h3 h4 => by
    have g1 := entry_get h1 (fun e => by cases e)
    have g2 := entry_get h2 (fun e => by cases e)
    obtain ⟨a1, o1, p1, _⟩ := S.ow i d g1
    obtain ⟨a2, o2, p2, _⟩ := S.ow j e g2
    have q1 := start_get (N := N) p1
    have q2 := start_get (N := N) p2
    rw [h3] at q1; rw [h4] at q2
    cases q1; cases q2
    exact S.ap i j d e a g1 g2 p1 p2
end
section
variable {K : PySem.W.Frag}
theorem StRep.empty {B G H : Hp} {vs : List V} (hB : Same B H) (hG : Same G H) (dj : ∀ a o, B a = some o → G a = none) (tb : TbOk K B G H) : StRep K B G (List.replicate vs.length .no) (vs.map some) H where
  bH := hB
  gH := hG
  dj := dj
  tb := tb
  len := by rw [List.length_replicate, List.length_map]
  sh := fun i d h => by rw [List.getElem?_replicate] at h; split at h <;> cases h
  ow := fun i d h => by rw [List.getElem?_replicate] at h; split at h <;> cases h
  ap := fun i j d e a h => by rw [List.getElem?_replicate] at h; split at h <;> cases h
theorem RRep.empty {B G H : Hp} {s : DSt} {σ σ2 : L2.St} {n : Nat} {r : Sl} {v : V} (h : RRep K B G H s σ r v) : RRep K B G H (List.replicate n .no) σ2 r v := by
  cases r with
  | no => exact h
  | sh d => exact h
  | ow d =>
    obtain ⟨p, o, h1, h2, h3, h4, h5, h6, h7⟩ := h
    exact ⟨p, o, h1, h2, h3, h4, h5, h6, fun i e hi => by rw [List.getElem?_replicate] at hi; split at hi <;> cases hi⟩
theorem wback_val {d : D} {as : List Av} {args : List Sl} {s : DSt} : wback (.val d :: as) args s = wback as (args.drop 1) s := by
  cases args with
  | nil => cases as with
    | nil => rfl
    | cons a as => cases a <;> rfl
  | cons a args => rfl
theorem wback_vals {as : List D} {args : List Sl} {s : DSt} : wback (as.map .val) args s = s := by
  induction as generalizing args with
  | nil => cases args <;> rfl
  | cons d as ih => rw [List.map_cons, wback_val]; exact ih
theorem reps_at {G : Hp} : ∀ {ds : List D} {vs : List V} {i : Nat} {v : V}, Reps K G ds vs → vs[i]? = some v → ∃ d, ds[i]? = some d ∧ Rep K G d v
  | [], vs, i, v, h, e => by rw [show vs = [] from h] at e; cases e
  | d :: ds, vs, 0, v, h, e => by obtain ⟨u, r, rfl, h1, h2⟩ := h; cases e; exact ⟨d, rfl, h1⟩
  | d :: ds, vs, i + 1, v, h, e => by obtain ⟨u, r, rfl, h1, h2⟩ := h; exact reps_at (i := i) h2 e
theorem bors_vals (ds : List D) : bors (ds.map .val) = [] := by
  induction ds with
  | nil => rfl
  | cons d ds ih => exact ih
theorem resA_vals (s : DSt) (ds : List D) : (ds.map Av.val).map (resA s) = ds.map .sh := by
  induction ds with
  | nil => rfl
  | cons d ds ih => rw [List.map_cons, List.map_cons, ih]; rfl
theorem areps_vals {G : Hp} {σ : L2.St} : ∀ {ds : List D} {vs : List V}, Reps K G ds vs → AReps K G σ (ds.map .val) vs
  | [], vs, h => h
  | d :: ds, vs, h => by obtain ⟨v, r, rfl, h1, h2⟩ := h; exact ⟨v, r, rfl, h1, areps_vals h2⟩
/-! ### sorted by a key, at the level of data -/
def srtR (f : D → D) (xs : List D) (R : Sl → Prop) : Prop := (match toPs (xs.map f) with
  | some ps => SrtOk ps
  | none => False) ∧ R (.ow (.lst (sortBy (fun x => toPD (f x)) xs)))
def wSrk (F : FS) (a : DO) : DE := fun s R => a s fun o s1 => match resO s1 o with
  | some d => (match seqOf d with
    | some xs => ∃ f : D → D, (∀ x ∈ xs, F [.sh x] fun r _ => frz r = f x) ∧ srtR f xs fun r => R r s1
    | none => False)
  | none => False
def wCaps : List Nat → DSt → (List D → DSt → Prop) → Prop
  | [], s, R => R [] s
  | j :: js, s, R => wVar j s fun r s1 => wCaps js s1 fun ds s2 => R (frz r :: ds) s2
def wSrl (a : DO) (js : List Nat) (n : Nat) (body : DE) : DE := fun s R => a s fun o s1 => wCaps js s1 fun ds s2 => match resO s2 o with
  | some d => (match seqOf d with
    | some xs => ∃ f : D → D, (∀ x ∈ xs, body (entry n (.sh x :: ds.map .sh)) fun r _ => frz r = f x) ∧ srtR f xs fun r => R r s2
    | none => False)
  | none => False
/-- the frame of the sort: what stands while the keys are asked -/
def srtW (K : PySem.W.Frag) (B G1 : Hp) (s1 : DSt) (σ : L2.St) (f : D → D) (xs : List D) : List V → Hp → Prop := fun ks H' => ∃ G', StRep K B G' s1 σ H' ∧ Same G1 G' ∧ Reps K G' ((xs.take ks.length).map f) ks
theorem srtW_step {B G1 : Hp} {s1 : DSt} {σ : L2.St} {f : D → D} {xs : List D} {ks : List V} {x : D} {k : V} {G' H' : Hp} {r : Sl} (S : StRep K B G' s1 σ H') (sm : Same G1 G') (hr : Reps K G' ((xs.take ks.length).map f) ks) (hx : xs[ks.length]? = some x) (rr : RRep K B G' H' s1 σ r k) (e : frz r = f x) : srtW K B G1 s1 σ f xs (ks ++ [k]) H' := by
  obtain ⟨G2, S2, sm2, rep⟩ := rr.freeze S
  refine ⟨G2, S2, sm.trans sm2, ?_⟩
  rw [List.length_append, List.length_singleton, List.take_add_one, hx, List.map_append]
  refine (Reps.mono sm2 _ _ hr).append ?_
  rw [e] at rep
  exact ⟨k, [], rfl, rep, rfl⟩
theorem srtW_done {B G1 : Hp} {s1 : DSt} {σ : L2.St} {f : D → D} {xs : List D} {vs ks : List V} {H' : Hp} {R : Sl → DSt → Prop} {Q : VK} (hv : Reps K G1 xs vs) (w : srtW K B G1 s1 σ f xs ks H') (hl : ks.length = vs.length) (h : srtR f xs fun r => R r s1)
    (kk : ∀ r s' G' H' v, StRep K B G' s' σ H' → Same G1 G' → RRep K B G' H' s' σ r v → R r s' → Q v H') : ∃ ps : List PyData, ps.length = vs.length ∧ (∀ (i : Nat) k p, ks[i]? = some k → ps[i]? = some p → Dp K H' k p) ∧ PySem.W.AllAlike ps ∧ PySem.W.Sortable ps ∧ (∀ p ∈ ps, p.depth ≤ 64) ∧ ∀ q, H' q = none → Q (.ref q) (upd H' q (.lst (srtV (vs.zip ps)))) := by
  obtain ⟨G', S, sm, hr⟩ := w
  obtain ⟨h1, h2⟩ := h
  split at h1
  · rename_i ps hps
    obtain ⟨p1, p2⟩ := toPs_get hps
    have ln := hv.length
    have tk : xs.take ks.length = xs := List.take_of_length_le (by omega)
    rw [tk] at hr
    obtain ⟨l, l1, l2, l3⟩ := reps_zip hv
    refine ⟨ps, by rw [p1, List.length_map, List.length_map, ln], fun i k p e1 e2 => ?_, h1.al, h1.so, h1.dp, fun q n => ?_⟩
    · obtain ⟨d, e3, e4⟩ := reps_at hr e1
      rw [p1, List.getElem?_map, e3] at e2
      cases e2
      exact Rep.dp S.gH d k _ (p2 d (List.mem_of_getElem? e3)) e4
    · have rs := sort_reps (G := G') (f := fun x => toPD (f x)) (l := l) (fun p hp => Rep.mono sm _ _ (l3 p hp))
      rw [l1] at rs
      have ez : (l.map fun p => (p.2, toPD (f p.1))) = vs.zip ps := by rw [← l2, p1, ← l1, List.map_map, List.map_map, List.zip_map']; rfl
      rw [ez] at rs
      exact ret_lst S.gH (fun res v G'' H'' g n2 q2 => kk res s1 G'' H'' v (S.grow g) (sm.trans g.g) (S.res g n2) q2) rs h2 n
  · exact h1.elim
theorem lift_srk {X : Cx} {F : FS} {a : DO} {σ : L2.St} {H : Hp} {Q : VK} (h : lift X.K (wSrk F a) σ H Q) : tSrt X (liftO X.K a) (fun _ H N => N (fun v H2 Q2 => spOf X.K F [v] H2 Q2 E0) H) σ H Q := by
  obtain ⟨B, G, s, R, S, hw, k⟩ := h
  refine ⟨B, G, s, _, S, hw, fun o s1 G1 H1 v S1 sm1 o1 q1 => ?_⟩
  split at q1
  · rename_i d e
    split at q1
    · rename_i xs e2
      obtain ⟨f, hF, hR⟩ := q1
      obtain ⟨a', vs, rfl, y1, y2⟩ := seqOf_ok S1.gH e2 (o1.top S1 e)
      refine ⟨a', vs, srtW X.K B G1 s1 σ f xs, rfl, y1, ⟨G1, S1, .refl _, rfl⟩, fun ks y H' w hy => ?_, fun ks H' w hl => srtW_done y2 w hl hR fun r s' G' H' v S' sm rr q => k r s' G' H' v S' (sm1.trans sm) rr q⟩
      obtain ⟨G', S', sm, hr⟩ := w
      obtain ⟨x, hx, rx⟩ := reps_at y2 hy
      refine call_sp (as := [.val x]) S' ⟨y, [], rfl, Rep.mono sm _ _ rx, rfl⟩ List.nodup_nil (hF x (List.mem_of_getElem? hx)) fun r args' G'' H'' v S'' sm2 rr q => ?_
      have ew : wback [.val x] args' s1 = s1 := wback_vals (as := [x])
      rw [ew] at S'' rr
      exact srtW_step S'' (sm.trans sm2) (Reps.mono sm2 _ _ hr) hx rr q
    · exact q1.elim
  · exact q1.elim
theorem caps_ok {B : Hp} {σ : L2.St} {H : Hp} : ∀ (js : List Nat) {G : Hp} {s : DSt} {R : List D → DSt → Prop}, StRep K B G s σ H → wCaps js s R → ∃ G' s' ds vs, StRep K B G' s' σ H ∧ Same G G' ∧ js.map (NdefX.slotAt σ) = vs.map some ∧ Reps K G' ds vs ∧ R ds s'
  | [], G, s, R, S, h => ⟨G, s, [], [], S, .refl _, rfl, rfl, h⟩
  | j :: js, G, s, R, S, h => by
    have step : ∀ {G1 : Hp} {s1 : DSt} {d : D} {v : V}, StRep K B G1 s1 σ H → Same G G1 → σ[j]? = some (some v) → Rep K G1 d v → (wCaps js s1 fun ds s2 => R (d :: ds) s2) → ∃ G' s' ds vs, StRep K B G' s' σ H ∧ Same G G' ∧ (j :: js).map (NdefX.slotAt σ) = vs.map some ∧ Reps K G' ds vs ∧ R ds s' := fun {G1 s1 d v} S1 sm e r q => by
      obtain ⟨G', s', ds, vs, S', sm', e', r', q'⟩ := caps_ok js S1 q
      exact ⟨G', s', d :: ds, v :: vs, S', sm.trans sm', by rw [List.map_cons, e', NdefX.slotAt_of e]; rfl, ⟨v, vs, rfl, Rep.mono sm' _ _ r, r'⟩, q'⟩
    unfold wCaps wVar at h
    split at h
    · rename_i d e
      obtain ⟨v, h1, h2⟩ := S.sh j d e
      exact step S (.refl _) h1 h2 h
    · rename_i d e
      obtain ⟨G1, v, S1, sm, h1, h2⟩ := S.frzSlot e
      exact step S1 sm h1 h2 h
    · exact h.elim
/-- tables grow -/
theorem StRep.ext {B G H H1 : Hp} {s : DSt} {σ : L2.St} (S : StRep K B G s σ H) (e : LamX.ExtN H H1) (T : LamX.Tabs (TB.tabs K) H1) : StRep K B G s σ H1 where
  bH := fun a o q => e a o (S.bH a o q) (S.tb.tB a o q).1
  gH := fun a o q => e a o (S.gH a o q) fun ps z => by rw [z] at q; exact S.tb.tG a ps q
  dj := S.dj
  tb := ⟨S.tb.nB, S.tb.nG, S.tb.tG, S.tb.tB, T⟩
  len := S.len
  sh := S.sh
  ow := fun i d h => by
    obtain ⟨a, o, h1, h2, h3, h4, h5, h6⟩ := S.ow i d h
    have h4' := e a o h4 (own_tbl h4 h5 h6)
    refine ⟨a, o, h1, h2, h3, h4', ?_, h6⟩
    cases d with
    | lst xs => obtain ⟨b, vs, e1, e2, e3⟩ := h5; cases e1; rw [h4] at e2; cases e2; exact ⟨a, vs, rfl, h4', e3⟩
    | pin p0 xs => obtain ⟨e1, vs, e2, e3⟩ := h5; cases e1; rw [h4] at e2; cases e2; exact ⟨rfl, vs, h4', e3⟩
    | dic ks xs => obtain ⟨b, vs, e1, e2, e3⟩ := h5; cases e1; rw [h4] at e2; cases e2; exact ⟨a, vs, rfl, h4', e3⟩
    | ins C ns xs => obtain ⟨b, dx, vs, e1, e2, e3⟩ := h5; cases e1; rw [h4] at e2; cases e2; exact ⟨a, dx, vs, rfl, h4', e3⟩
    | _ => cases h6
  ap := S.ap
/-- a code object is noted among what is known -/
theorem StRep.note {B G H : Hp} {s : DSt} {σ : L2.St} (S : StRep K B G s σ H) {c : Addr} {φ : Heap → Prop} (h : H c = some (.ext φ)) : ∃ G', StRep K B G' s σ H ∧ Same G G' ∧ G' c = some (.ext φ) := by
  cases q : G c with
  | some o =>
    have := S.gH c o q
    rw [h] at this
    cases this
    exact ⟨G, S, .refl _, q⟩
  | none =>
    have sm : Same G (upd G c (.ext φ)) := fun b u z => by rw [upd_ne (ne_of_none z q)]; exact z
    have nc : ∀ {a : Addr} {o : HO}, H a = some o → (∀ φ, o ≠ .ext φ) → a ≠ c := fun {a o} e n z => by
      rw [z, h] at e
      cases e
      exact n φ rfl
    refine ⟨upd G c (.ext φ), ⟨S.bH, fun b u z => ?_, fun a o z => ?_, S.tb.putG h (fun ps z => by cases z), S.len, fun i d z => ?_, fun i d z => ?_, S.ap⟩, sm, upd_same⟩
    · by_cases hb : b = c
      · subst hb; rw [upd_same] at z; cases z; exact h
      · rw [upd_ne hb] at z; exact S.gH b u z
    · rw [upd_ne (nc (S.bH a o z) (S.tb.tB a o z).2)]; exact S.dj a o z
    · obtain ⟨v, h1, h2⟩ := S.sh i d z
      exact ⟨v, h1, Rep.mono sm _ _ h2⟩
    · obtain ⟨a, o, h1, h2, h3, h4, h5, h6⟩ := S.ow i d z
      exact ⟨a, o, h1, by rw [upd_ne (nc h4 (own_ext h4 h5 h6))]; exact h2, h3, h4, Top.mono sm (.refl _) h5, h6⟩
theorem lift_srl {X : Cx} {a : DO} {js : List Nat} {N : List Str} {body : DE} {q : Str} {σ : L2.St} {H : Hp} {Q : VK} (hn : 1 + js.length ≤ N.length) (h : lift X.K (wSrl a js N.length body) σ H Q) :
    tSrt X (liftO X.K a) (fun σ H N' => LamX.Tabs (TB.tabs X.K) H ∧ ∀ (c' : Addr) (H1 : Hp), LamX.ExtN H H1 → LamX.Tabs (TB.tabs X.K) H1 → H1 c' = some (LamX.CodeO c' q) →
      N' (fun v H2 Q2 => H2 c' = some (LamX.CodeO c' q) ∧ lift X.K body (NdefX.startF N [v] (js.map (NdefX.slotAt σ))) H2 Q2) H1) σ H Q := by
  obtain ⟨B, G, s, R, S, hw, k⟩ := h
  refine ⟨B, G, s, _, S, hw, fun o s1 G1 H1 v S1 sm1 o1 q1 => ?_⟩
  obtain ⟨G2, s2, ds, cs, S2, sm2, ec, rc, q2⟩ := caps_ok js S1 q1
  split at q2
  · rename_i d e
    split at q2
    · rename_i xs e2
      obtain ⟨f, hF, hR⟩ := q2
      refine ⟨S2.tb.ok, fun c' H3 eN T3 hc => ?_⟩
      obtain ⟨G4, S4, sm4, hg⟩ := (S2.ext eN T3).note hc
      obtain ⟨a', vs, rfl, y1, y2⟩ := seqOf_ok S4.gH e2 ((o1.mono (sm2.trans sm4)).top S4 e)
      refine ⟨a', vs, srtW X.K B G4 s2 σ f xs, rfl, y1, ⟨G4, S4, .refl _, rfl⟩, fun ks y H' w hy => ?_, fun ks H' w hl => srtW_done y2 w hl hR fun r s' G' H' v S' sm rr q => k r s' G' H' v S' (((sm1.trans sm2).trans sm4).trans sm) rr q⟩
      obtain ⟨G', S', sm, hr⟩ := w
      obtain ⟨x, hx, rx⟩ := reps_at y2 hy
      refine ⟨S'.gH _ _ (sm _ _ hg), ?_⟩
      have lc := rc.length
      have ljs : js.length = cs.length := by have := congrArg List.length ec; rwa [List.length_map, List.length_map] at this
      have sp : spOf X.K (fun args R' => body (entry N.length args) fun r s' => R' r (List.replicate args.length .no)) (y :: cs) H' (fun k => srtW X.K B G4 s2 σ f xs (ks ++ [k])) E0 := by
        refine call_sp (as := (x :: ds).map .val) S' (areps_vals ⟨y, cs, rfl, Rep.mono sm _ _ rx, Reps.mono (sm4.trans sm) _ _ rc⟩) (by rw [bors_vals]; exact List.nodup_nil) (R := fun r _ => frz r = f x) (by rw [resA_vals]; exact hF x (List.mem_of_getElem? hx)) fun r args' G'' H'' v S'' sm2 rr q => ?_
        rw [wback_vals] at S'' rr
        exact srtW_step S'' (sm.trans sm2) (Reps.mono sm2 _ _ hr) hx rr q
      obtain ⟨B5, G5, args, R5, S5, h5, k5⟩ := sp
      have la : args.length = 1 + cs.length := by have := S5.len; rw [List.length_map, List.length_cons] at this; omega
      have est : NdefX.startF N [y] (js.map (NdefX.slotAt σ)) = L2.start N (y :: cs) := by
        unfold NdefX.startF L2.start
        rw [ec, List.length_map, ← List.append_assoc, ← List.map_append, List.length_singleton, List.length_cons, show N.length - 1 - cs.length = N.length - (cs.length + 1) by omega]
        rfl
      rw [est]
      refine ⟨B5, G5, entry N.length args, _, S5.start (by rw [List.length_cons]; omega), h5, fun r s' G' H' v S' e rr q => ?_⟩
      have el : args.length = (y :: cs).length := by rw [la, List.length_cons]; omega
      refine k5 r (List.replicate args.length .no) G' H' v ?_ e ?_ q
      · rw [el]; exact StRep.empty S'.bH S'.gH S'.dj S'.tb
      · exact rr.empty
    · exact q2.elim
  · exact q2.elim
end
end DL

namespace DL
open PySem PySem.Spec PyProof.Rows L2
/-! ### set(t), t a tuple of tuples of ints -/
section
variable {P : Program} {w : World} {A : Around} {E : Value → Shared → Prop} {s : Shared}
abbrev setO (w : World) : Obj := { cls := .type "set", dict := none, data := .set #[] 0 (.fresh 0 0 (!w.params.followText "set-order")) }
theorem free_at {h : Heap} {b : Addr} (hb : h.objs.size ≤ b) : h.get? b = none := by
  cases q : h.get? b with
  | none => rfl
  | some o => exact absurd (Nat.lt_of_lt_of_le (Heap.lt_size q) hb) (Nat.lt_irrefl _)
/-- what is left when the walk is done -/
def SetDone (P : Program) (w : World) (s : Shared) (ks : List (Addr × List Int)) (s2 : Shared) : Prop := ∃ h' tk L es ep t, s2 = { s with heap := h', toks := tk } ∧ SetTR P w h' s.heap.objs.size L es ep t ∧ Got ks ks.length L ∧ ∀ b o, s.heap.get? b = some o → h'.get? b = some o
theorem call_set_tupT {t : Addr} {items : Array Value} (ks : List (Addr × List Int)) {Q : Value → Shared → Prop} (hh : A.handled = none) (ht : s.heap.IsTuple t items) (hit : items.toList = ks.map fun p => Value.ref p.1)
    (hk : ∀ p ∈ ks, IsT P w s.heap p.2 p.1) (hfew : ks.length < 64) (hu : A.units + 3 < cLine) (h : ∀ s2, SetDone P w s ks s2 → Q (.ref s.heap.objs.size) s2) :
    wpAny (model P w) A (call (.type "set") [.ref t]) Q E s := by
  have hn : items.size = ks.length := by have := congrArg List.length hit; simpa using this
  have hv : ∀ (i : Nat) (v : Value), items[i]? = some v → ∃ p, ks[i]? = some p ∧ v = .ref p.1 := fun i v e => by
    have q : (ks.map fun p => Value.ref p.1)[i]? = some v := by rw [← hit, Array.getElem?_toList]; exact e
    obtain ⟨p, hp, rfl⟩ := List.getElem?_map .. ▸ q |> Option.map_eq_some_iff.mp
    exact ⟨p, hp, rfl⟩
  have lt : t < s.heap.objs.size := by obtain ⟨o, ho, _⟩ := ht; exact Heap.lt_size ho
  have hz : (s.heap.push (setO w)).objs.size = s.heap.objs.size + 1 := Heap.size_push ..
  have ht1 : (s.heap.push (setO w)).IsTuple t items := ht.push _
  have hS : (s.heap.push (setO w)).get? s.heap.objs.size = some (setO w) := Heap.get?_push_size _ rfl
  have hmade := F.called_set.made
  have hsub := F.called_set.sub
  obtain ⟨mc, mt, hmro⟩ := F.called_set.mro
  refine wpAny_call (codeAny_of_tree ?_)
  show wpAny _ _ (callAny (.type "set") _) _ _ _
  refine wpAny_pure ⟨Code.quiet_builtin _ (by decide +kernel), codeAny_builtin F.entry_type_call ?_⟩
  rw [Around.under_plain (weight_type_call_type "set" [.ref t] []) rfl]
  have n1 := F.called_set.notType
  have n2 := F.called_set.canCreate
  have n3 := F.typeCall_set_1 (.ref t)
  repeat (any_goals (first | assumption | wp_step))
  refine codeAny_mono (code_set_led1 (.ref t) (E := E) (Q₁ := fun obj s₁ => obj = .ref s.heap.objs.size ∧ s₁ = { s with heap := s.heap.push (setO w) }) ⟨rfl, rfl⟩) fun r s₁ hr => ?_
  match r, hr with
  | .error e, hr => exact hr
  | .ok .next, hr => exact hr.elim
  | .ok .brk, hr => exact hr.elim
  | .ok .cont, hr => exact hr.elim
  | .ok (.ret obj), hr =>
    obtain ⟨rfl, rfl⟩ := hr
    have hT : Shared.TypeIs { s with heap := s.heap.push (setO w) } (.ref s.heap.objs.size) "set" := ⟨_, hS, rfl⟩
    have n4 := F.called_set.init.lookup
    have n5 := F.called_set.init.bind (.ref s.heap.objs.size)
    repeat (any_goals (first | assumption | wp_step))
    refine codeAny_mono (codeAny_call_builtin (R := wants (fun r s₂ => r = .none ∧ SetDone P w s ks s₂) E) F.called_set.init.plain F.entry_set_init (check_set_init_1 hT ?_)) fun r₂ s₂ hr₂ => ?_
    · obtain ⟨⟨oc, od, dt, sl⟩, ho, hc, nt, hd⟩ := ht
      simp only at hc hd
      subst hc hd
      have ho1 : (s.heap.push (setO w)).get? t = some { cls := .type "tuple", dict := od, data := .seq items nt, slots := sl } := Heap.get?_push_of_some _ ho
      have n6 := F.sub_tuple_set
      have n7 := F.sub_tuple_frozenset
      have n8 : (Value.type "tuple" == Value.type "dict") = false := by decide
      unfold Builtin.«set.__init__» noKeywords Builtin.Frozenset.updateFrom
      generalize hI : pyIter = I
      wp_walk
      subst hI
      refine wpAny_pyIter_tuple ht1 (wpAny_bind (wpAny_runValue ?_))
      have ne : t ≠ (s.heap.push (setO w)).objs.size := by rw [hz]; exact Nat.ne_of_lt (Nat.lt_succ_of_lt lt)
      refine set_update_tups ((Walks.tuple (by simp [hh]) _ t ne items).toS) s.heap.objs.size (by
        rw [hz]; simp only [List.mem_cons, List.not_mem_nil, or_false, not_or]; exact ⟨Nat.ne_of_lt (Nat.lt_succ_self _), Nat.ne_of_gt lt⟩) ks hn hfew hv s.heap hk (free_at (Nat.le_refl _)) (fun b hb => free_at (by
        rw [List.mem_singleton.mp hb, hz]; omega)) hu (items.size - 0) 0 _ (by omega) (Nat.zero_le _) ⟨⟨_, Heap.get?_push_size _ rfl, rfl, rfl⟩, ht1.push _⟩ (fun b o e => Heap.get?_push_of_some _ (Heap.get?_push_of_some _ e))
        ⟨[], #[], 0, _, setTR_fresh (Heap.get?_push_of_some _ hS), Got.zero ks⟩ fun s' L es ep tb hm hR g kp => ?_
      rw [hn] at g
      refine wpAny_pure (wpAny_pure ⟨rfl, s'.heap, s'.toks, L, es, ep, tb, ?_, hR, g, kp⟩)
      have e1 := hm.gens
      have e2 := hm.drawn
      have e3 := hm.os
      cases s'
      simp only at e1 e2 e3
      subst e1 e2 e3
      rfl
    · match r₂, hr₂ with
      | .error e, hr₂ => exact hr₂
      | .ok .next, hr₂ => exact hr₂.elim
      | .ok .brk, hr₂ => exact hr₂.elim
      | .ok .cont, hr₂ => exact hr₂.elim
      | .ok (.ret r), hr₂ =>
        obtain ⟨rfl, hq⟩ := hr₂
        repeat (any_goals (first | assumption | wp_step))
        exact h _ hq
end
end DL

namespace DL
open PySem PySem.Spec PyProof.Rows L2
/-- set(xs), xs a list or a tuple of tuples of ints -/
def rSetAny (K : PySem.W.Frag) (P : Program) (w : World) : List V → Hp → VK → Prop := fun xs H Q => ∃ (t : Addr) (ks : List (Addr × List Int)), xs = [V.ref t] ∧ (SqL K H t (ks.map fun p => V.ref p.1) ∨ SqT K H t (ks.map fun p => V.ref p.1)) ∧ (∀ p ∈ ks, SqT K H p.1 (p.2.map V.int)) ∧ ks.length < 64 ∧
  ∀ a L, H a = none → (∀ p ∈ L, p ∈ ks) → (∀ p ∈ ks, p.2 ∈ L.map (·.2)) → Q (.ref a) (upd H a (SetTO P w a L))
theorem cr_setAny {X : Cx} (hc : X.calm = true) (hu : X.A.units + 64 < cLine) : CallR X (.type "set") (rSetAny X.K X.prog X.w) := by
  intro pins s σ H xs us Q I r h
  obtain ⟨t, ks, rfl, ht | ht, hk, hf, q⟩ := h
  · exact cr_setOfT hc hu pins s σ H _ us Q I r ⟨t, ks, rfl, ht, hk, hf, q⟩
  · rw [Vals.ref1 r]
    obtain ⟨its, rv, pl, hz⟩ := I.tuple ht
    refine call_set_tupT (P := X.prog) (w := X.w) ks (I.ok.hd hc) (show s.heap.IsTuple t its.toArray from pl) (by rw [refs_of_vals rv]) (fun p hp => I.isT (hk p hp)) hf (by omega) fun s2 hs => ?_
    obtain ⟨h', tk, L, es, ep, tb, rfl, R, g, kp⟩ := hs
    exact ⟨.ref s.heap.objs.size, _, I.laid (t' := tk) kp (Nat.le_refl _) (setTO_new R.t0), rfl, q _ L (I.hok.fresh (Nat.le_refl _)) (fun p hp => List.mem_of_mem_take (g.sub p hp)) fun p hp => g.all p (by rw [List.take_length]; exact hp)⟩
end DL

namespace DL
open PySem PySem.Spec PyProof.Rows L2
/-! ### sets of nested tuples -/
abbrev Nr := Addr × NestedKey
section
variable {P : Program} {w : World} {A : Around} {E : Value → Shared → Prop} {s : Shared}
abbrev nh (w : World) (r : Nr) : Int := r.2.hash w
/-- the tuple at r.1 is the key r.2 -/
def Lies (h : Heap) (r : Nr) : Prop := NestedIs h r.2 (.ref r.1) ∧ r.2.depth ≤ 8
theorem Lies.obj {h : Heap} {r : Nr} (x : Lies h r) : ∃ ks o vs n, r.2 = .tup ks ∧ h.get? r.1 = some o ∧ o.cls = .type "tuple" ∧ o.data = .seq vs n ∧ NestedAll h ks vs.toList := by
  obtain ⟨a, k⟩ := r
  obtain ⟨x, _⟩ := x
  cases x with
  | tup h1 h2 h3 h4 => exact ⟨_, _, _, _, rfl, h1, h2, h3, h4⟩
theorem Lies.keep {h h' : Heap} {r : Nr} (x : Lies h r) (k : ∀ b o, h.get? b = some o → h'.get? b = some o) : Lies h' r :=
  ⟨NestedIs.at (fun b o _ _ e _ => k b o e) r.2 _ x.1, x.2⟩
/-- a set that changes leaves the tuples -/
theorem Lies.beside {h h' : Heap} {r : Nr} {a : Addr} {o : Obj} {es : Array (Int × Value)} {ep : Nat} {t : SetTable} (x : Lies h r) (ho : h.get? a = some o) (hd : o.data = .set es ep t) (hs : Heap.SameBut a h h') : Lies h' r :=
  ⟨NestedIs.at (fun b ob vs n e q => by
    by_cases c : b = a
    · rw [c, ho] at e
      cases e
      rw [hd] at q
      cases q
    · rw [hs.2 b c]; exact e) r.2 _ x.1, x.2⟩
theorem Lies.same {h : Heap} {q r : Nr} (x : Lies h q) (y : Lies h r) (e : q.1 = r.1) : q = r := by
  have h1 := x.1
  rw [e] at h1
  exact Prod.ext e (NestedIs.inj _ _ _ h1 y.1)
/-- whether the hash is one of values: either -/
theorem hv_key : ∀ (n : Nat) (k : NestedKey) (v : Value) (Q : Bool → Shared → Prop), NestedIs s.heap k v → k.depth ≤ n → (∀ b, Q b s) → wpAny (model P w) A (hashByValue n v) Q E s
  | n, .none, _, Q, x, _, h => by cases x; cases n <;> exact wpAny_pure (h true)
  | n, .num i, _, Q, x, _, h => by cases x <;> cases n <;> exact wpAny_pure (h true)
  | n, .text z, _, Q, x, _, h => by cases x; cases n <;> exact wpAny_pure (h false)
  | 0, .tup ks, _, Q, x, hn, h => by simp [NestedKey.depth] at hn
  | n + 1, .tup ks, _, Q, x, hn, h => by
    cases x with
    | tup ho hc hd hk =>
      unfold hashByValue
      refine wpAny_bind (wpAny_specialOf ⟨_, ho, hc⟩ F.slot_tuple_hash.lookup ?_)
      show wpAny _ _ (seqItems? (.ref _) >>= _) _ _ s
      refine wpAny_bind (wpAny_seqItems ho hd (wpAny_bind ?_))
      show wpAny _ _ (forIn _ _ _) _ _ s
      rw [← Array.forIn_toList]
      refine wpAny_forIn_list _ (fun rest r s1 => s = s1 ∧ r.1 = none ∧ ∃ js, NestedAll s.heap js rest ∧ NestedKey.depthAll js ≤ n) _ ?_ ?_ _ _ ⟨rfl, rfl, ks, hk, by simp only [NestedKey.depth] at hn; omega⟩
      · rintro v rest r s1 ⟨rfl, hr, js, hj, hd⟩
        cases hj with
        | cons h1 h2 =>
          simp only [NestedKey.depthAll] at hd
          refine wpAny_bind (hv_key n _ v _ h1 (by omega) fun b => ?_)
          cases b with
          | true => exact wpAny_bind (wpAny_pure (wpAny_pure ⟨rfl, rfl, _, h2, by omega⟩))
          | false => exact wpAny_pure (wpAny_pure (h false))
      · rintro ⟨r1, r2⟩ s1 ⟨rfl, hr, _⟩
        simp only at hr
        subst hr
        exact wpAny_pure (h true)
/-- no key is of a class that is told -/
theorem oc_key : ∀ (n : Nat) (k : NestedKey) (v : Value) (Q : Bool → Shared → Prop), NestedIs s.heap k v → k.depth ≤ n → Q false s → wpAny (model P w) A (ofAClassStatement n v) Q E s
  | n, .none, _, Q, x, _, h => by cases x; cases n <;> exact wpAny_pure h
  | n, .num i, _, Q, x, _, h => by cases x <;> cases n <;> exact wpAny_pure h
  | n, .text z, _, Q, x, _, h => by cases x; cases n <;> exact wpAny_pure h
  | 0, .tup ks, _, Q, x, hn, h => by simp [NestedKey.depth] at hn
  | n + 1, .tup ks, _, Q, x, hn, h => by
    cases x with
    | tup ho hc hd hk =>
      unfold ofAClassStatement
      refine wpAny_bind (wpAny_typeOf (T := "tuple") ⟨_, ho, hc⟩ ?_)
      have e : (("tuple" : String) == "tuple") = true := rfl
      simp only [e, if_true, Bool.not_true, Bool.false_eq_true, if_false]
      try refine wpAny_bind (wpAny_pure ?_)
      try simp only [Bool.not_true, Bool.false_eq_true, if_false]
      show wpAny _ _ (seqItems? (.ref _) >>= _) _ _ s
      refine wpAny_bind (wpAny_seqItems ho hd (wpAny_bind ?_))
      show wpAny _ _ (forIn _ _ _) _ _ s
      rw [← Array.forIn_toList]
      refine wpAny_forIn_list _ (fun rest r s1 => s = s1 ∧ r.1 = none ∧ ∃ js, NestedAll s.heap js rest ∧ NestedKey.depthAll js ≤ n) _ ?_ ?_ _ _ ⟨rfl, rfl, ks, hk, by simp only [NestedKey.depth] at hn; omega⟩
      · rintro v rest r s1 ⟨rfl, hr, js, hj, hd⟩
        cases hj with
        | cons h1 h2 =>
          simp only [NestedKey.depthAll] at hd
          refine wpAny_bind (oc_key n _ v _ h1 (by omega) ?_)
          exact wpAny_bind (wpAny_pure (wpAny_pure ⟨rfl, rfl, _, h2, by omega⟩))
      · rintro ⟨r1, r2⟩ s1 ⟨rfl, hr, _⟩
        simp only at hr
        subst hr
        exact wpAny_pure h
/-- looking for a key among keys tells nothing -/
theorem quiet_search {r : Nr} {ys : List Value} {Q : Bool → Shared → Prop} (x : Lies s.heap r) (hy : ∀ y ∈ ys, ∃ q : Nr, y = Value.ref q.1 ∧ Lies s.heap q) (h : Q false s) : wpAny (model P w) A (searchCouldBeSeen (.ref r.1) ys) Q E s := by
  unfold searchCouldBeSeen
  refine wpAny_bind (wpAny_forIn_list _ (fun rest b s1 => s1 = s ∧ b.1 = none ∧ ∀ y ∈ rest, y ∈ ys) _ ?_ ?_ _ _ ⟨rfl, rfl, fun y m => m⟩)
  · rintro v rest b s1 ⟨rfl, hb, hr⟩
    obtain ⟨q, rfl, z⟩ := hy v (hr v (.head _))
    have go : ∀ y ∈ rest, y ∈ ys := fun y m => hr y (.tail _ m)
    dsimp only
    by_cases c : (r.1 == q.1 || (carriedByValue (.ref r.1) && carriedByValue (.ref q.1))) = true
    · exact wp_if_pos c (wpAny_pure ⟨rfl, rfl, go⟩)
    · refine wp_if_neg c (wpAny_bind (quiet_key r.2 _ 8 _ x.1 x.2 _ _ _ ?_))
      simp only [Bool.not_true, Bool.false_eq_true, if_false]
      refine wpAny_bind (quiet_key q.2 _ 8 _ z.1 z.2 _ _ _ ?_)
      simp only [Bool.not_true, Bool.false_eq_true, if_false]
      refine wpAny_bind (oc_key 8 r.2 _ _ x.1 x.2 ?_)
      simp only [Bool.false_eq_true, if_false]
      refine wpAny_bind (oc_key 8 q.2 _ _ z.1 z.2 ?_)
      simp only [Bool.false_eq_true, if_false]
      exact wpAny_pure ⟨rfl, rfl, go⟩
  · rintro ⟨b1, b2⟩ s1 ⟨rfl, hb, _⟩
    simp only at hb
    subst hb
    exact wpAny_pure h
end
end DL

namespace DL
open PySem PySem.Spec PyProof.Rows L2
section
variable {P : Program} {w : World} {A : Around} {E : Value → Shared → Prop} {s : Shared}
def ents (w : World) (L : List Nr) : List (Int × Value) := L.map fun r => (nh w r, Value.ref r.1)
structure NSet (w : World) (h : Heap) (a : Addr) (L : List Nr) (es : Array (Int × Value)) (ep : Nat) (t : SetTable) : Prop where
  here : ∃ o, h.get? a = some o ∧ o.ExactSet ∧ o.data = .set es ep t
  held : es.toList = ents w L
  tab : TabOk t (L.map (nh w))
  nd : (L.map (·.2)).Nodup
  lies : ∀ r ∈ L, Lies h r
  led : w.params.followText "set-order" = true ∨ t.led = true
  room : L.length * 5 < t.mask * 3
  few : L.length < 64
theorem ents_size {L : List Nr} {es : Array (Int × Value)} (e : es.toList = ents w L) : es.size = L.length := by
  rw [← Array.length_toList, e]; exact List.length_map ..
theorem ents_get {L : List Nr} {es : Array (Int × Value)} (e : es.toList = ents w L) {i : Nat} {r : Nr} (h : L[i]? = some r) : es[i]? = some (nh w r, Value.ref r.1) := by
  rw [← Array.getElem?_toList, e]
  show (L.map _)[i]? = _
  rw [List.getElem?_map, h]; rfl
theorem fits_of {t : SetTable} {n : Nat} (h1 : t.dummies = #[]) (h2 : t.place.size = n) (h3 : n ≤ t.mask) : t.fits n = true := by
  unfold SetTable.fits SetTable.fill
  rw [h1, h2]
  simpa using h3
variable {a : Addr} {L : List Nr} {es : Array (Int × Value)} {ep : Nat} {t : SetTable}
theorem NSet.place (R : NSet w s.heap a L es ep t) : t.place.toList.length = L.length := by
  rw [Array.length_toList, R.tab.sz, List.length_map]
theorem NSet.fits (R : NSet w s.heap a L es ep t) : t.fits es.size = true := by
  have h1 := R.tab.sz
  rw [List.length_map] at h1
  have h2 := R.room
  exact fits_of R.tab.dm (by rw [h1, ents_size R.held]) (by rw [ents_size R.held]; omega)
theorem NSet.stays (R : NSet w s.heap a L es ep t) : ¬ t.gaveWay = true := by
  have := mask_odd R.tab.mok
  unfold SetTable.gaveWay
  rw [this]
  exact fun h => by cases h
/-- the probe of the c-th step -/
abbrev stp (t : SetTable) (h : Int) (c : Nat) : SetTable.Probe := L2.nth t.mask (runAt t.mask (SetTable.bits h % (t.mask + 1)) (SetTable.bits h)) c
theorem stp_add (t : SetTable) (h : Int) (c q : Nat) : L2.nth t.mask (stp t h c) q = stp t h (c + q) := (nth_add t.mask c _ q).symm
theorem nodum (m : Nat) : ∀ (n : Nat) (p : SetTable.Probe), p.dummy = none → (L2.nth m p n).dummy = none
  | 0, _, h => h
  | n + 1, p, h => nodum m n (adv m p) (by unfold adv; split <;> exact h)
/-- behind a candidate of the same hash -/
theorem cand_at (R : NSet w s.heap a L es ep t) {x r : Nr} (hx : Lies s.heap x) (hu : A.units + 8 < cLine) {f i j : Nat} {nx : SetTable.Probe} (hr : L[i]? = some r) (hi : t.place.toList[i]? = some j) {Q : SetFound → Shared → Prop}
    (yes : r.2 = x.2 → Q (.there none) s) (no : r.2 ≠ x.2 → wpAny (model P w) A (setSearchFrom a (.ref x.1) (nh w x) true f (some nx)) Q E s) :
    wpAny (model P w) A (searchRest a (.ref x.1) (nh w x) true f es t j i nx) Q E s := by
  obtain ⟨o, ho, _, hd⟩ := R.here
  have hl := R.lies r (List.mem_of_getElem? hr)
  have g := ents_get R.held hr
  unfold searchRest
  rw [g]
  dsimp only
  refine wpAny_bind (wpAny_holding ((nestedKind P w).eqBool hu hl hx ?_))
  refine wpAny_bind (wpAny_setState_of ho hd R.fits ?_)
  dsimp only
  by_cases c : r.2 = x.2
  · exact wp_if_pos (by simp [c]) (wpAny_pure (yes c))
  · refine wp_if_neg (by simp [c]) ?_
    try refine wpAny_bind (wpAny_pure ?_)
    rw [sameMem]
    dsimp only
    simp only [if_true, slot_live R.tab.ris hi, g]
    refine wpAny_bind (wpAny_isSame_ref_self (wpAny_bind (wpAny_pure ?_)))
    simp only [if_true]
    exact wp_if_neg (by simp [c]) (no c)
theorem seek_from (R : NSet w s.heap a L es ep t) {x : Nr} (hx : Lies s.heap x) (hu : A.units + 8 < cLine) {K : Nat} (hF : K < 10 * SetTable.turns t.mask)
    (hK : way t.mask (nh w x) K ∉ t.place.toList) (hB : ∀ c, c < K → way t.mask (nh w x) c ∈ t.place.toList) {Q : SetFound → Shared → Prop}
    (yes : x.2 ∈ L.map (·.2) → Q (.there none) s) (no : x.2 ∉ L.map (·.2) → Q (.free (way t.mask (nh w x) K) false) s) :
    ∀ (f c : Nat) (stand : Option SetTable.Probe), stand.getD (t.probeStart (nh w x)) = stp t (nh w x) c → c ≤ K → K - c < f →
      (∀ (i : Nat) r, L[i]? = some r → r.2 = x.2 → ∃ d, c ≤ d ∧ d < K ∧ t.place.toList[i]? = some (way t.mask (nh w x) d)) →
      wpAny (model P w) A (setSearchFrom a (.ref x.1) (nh w x) true f stand) Q E s := by
  intro f
  induction f with
  | zero => intro c stand _ _ hf; exact absurd hf (Nat.not_lt_zero _)
  | succ f ih =>
  intro c stand hst hc hf hre
  obtain ⟨o, ho, hex, hd⟩ := R.here
  rw [setSearchFrom_succ]
  refine wpAny_bind (wpAny_setState_of ho hd R.fits ?_)
  dsimp only
  refine wp_if_neg R.stays ?_
  try refine wpAny_bind (wpAny_pure ?_)
  have hash_at : ∀ (i : Nat) r, L[i]? = some r → (es[i]?.map (·.1)).getD 0 = nh w r := fun i r hr => by rw [ents_get R.held hr]; rfl
  have jat : ∀ q, (L2.nth t.mask (stp t (nh w x) c) q).j = way t.mask (nh w x) (c + q) := fun q => congrArg SetTable.Probe.j (stp_add t _ c q)
  rcases go_spec t R.tab.ris R.tab.dm (fun i => (es[i]?.map (·.1)).getD 0) (nh w x) (10 * SetTable.turns t.mask) (K - c) (stp t (nh w x) c) (nodum _ c _ rfl) (by omega)
      (fun q hq => by rw [jat]; exact hB _ (by omega)) (by rw [jat, Nat.add_sub_of_le hc]; exact hK) with ⟨q, i, hq, hi, hh, hno, hpr⟩ | ⟨hno, hpr⟩
  · have e : t.probe (fun i => (es[i]?.map (·.1)).getD 0) (nh w x) (stand.getD (t.probeStart (nh w x))) = some (.candidate (way t.mask (nh w x) (c + q)) i (stp t (nh w x) (c + (q + 1)))) := by
      rw [hst, ← jat, ← stp_add]; exact hpr
    rw [e]
    dsimp only
    rw [jat] at hi
    have il : i < L.length := by rw [← R.place]; exact (List.getElem?_eq_some_iff.mp hi).1
    obtain ⟨r, hr⟩ : ∃ r, L[i]? = some r := ⟨_, List.getElem?_eq_getElem il⟩
    have rest : wpAny (model P w) A (searchRest a (.ref x.1) (nh w x) true f es t (way t.mask (nh w x) (c + q)) i (stp t (nh w x) (c + (q + 1)))) Q E s := by
      refine cand_at R hx hu hr hi (fun g => yes (List.mem_map.mpr ⟨r, List.mem_of_getElem? hr, g⟩)) fun ne => ?_
      refine ih (c + (q + 1)) _ rfl (by omega) (by omega) fun i0 r0 h0 k0 => ?_
      obtain ⟨d, d1, d2, d3⟩ := hre i0 r0 h0 k0
      refine ⟨d, ?_, d2, d3⟩
      rcases Nat.lt_trichotomy d (c + q) with z | z | z
      · exfalso
        refine hno (d - c) i0 (by omega) (by rw [jat, Nat.add_sub_of_le d1]; exact d3) ((hash_at i0 r0 h0).trans ?_)
        show r0.2.hash w = x.2.hash w
        rw [k0]
      · exfalso
        subst z
        have s1 := slot_live R.tab.ris d3
        rw [slot_live R.tab.ris hi] at s1
        cases s1
        rw [hr] at h0
        cases h0
        exact ne k0
      · omega
    by_cases hl : t.led = true
    · refine wp_if_neg (by simp [hl]) ?_
      try refine wpAny_bind (wpAny_pure ?_)
      exact rest
    · refine wp_if_pos (by simp [hl]) (wpAny_bind (quiet_search hx (fun y hy => ?_) ?_))
      · obtain ⟨p, hp, rfl⟩ := List.mem_map.mp hy
        have hp : p ∈ es := (by simpa using hp : p ∈ es ∧ _).1
        have hp : p ∈ es.toList := by simpa using hp
        rw [R.held] at hp
        obtain ⟨r, hr, rfl⟩ := List.mem_map.mp hp
        exact ⟨r, rfl, R.lies r hr⟩
      · refine wp_if_neg (by decide) ?_
        try refine wpAny_bind (wpAny_pure ?_)
        exact rest
  · have e : t.probe (fun i => (es[i]?.map (·.1)).getD 0) (nh w x) (stand.getD (t.probeStart (nh w x))) = some (.empty (way t.mask (nh w x) K) none) := by
      have := jat (K - c)
      rw [Nat.add_sub_of_le hc] at this
      rw [hst, ← this]; exact hpr
    rw [e]
    dsimp only
    refine wpAny_pure (no fun hm => ?_)
    obtain ⟨r0, h0, k0⟩ := List.mem_map.mp hm
    obtain ⟨i0, g0⟩ := List.getElem?_of_mem h0
    obtain ⟨d, d1, d2, d3⟩ := hre i0 r0 g0 k0
    refine hno (d - c) i0 (by omega) (by rw [jat, Nat.add_sub_of_le d1]; exact d3) ((hash_at i0 r0 g0).trans ?_)
    show r0.2.hash w = x.2.hash w
    rw [k0]
/-- the search that adding asks for -/
theorem seek_at (R : NSet w s.heap a L es ep t) {x : Nr} (hx : Lies s.heap x) (hu : A.units + 8 < cLine) {Q : SetFound → Shared → Prop} (yes : x.2 ∈ L.map (·.2) → Q (.there none) s)
    (no : ∀ K, x.2 ∉ L.map (·.2) → way t.mask (nh w x) K ∉ t.place.toList → (∀ c, c < K → way t.mask (nh w x) c ∈ t.place.toList) → Q (.free (way t.mask (nh w x) K) false) s) :
    wpAny (model P w) A (setSearch a (.ref x.1) (nh w x) true) Q E s := by
  obtain ⟨K, h1, h2, h3⟩ := R.tab.first (by have := R.room; rw [List.length_map]; omega) (nh w x)
  have h4 : SetTable.turns t.mask ≤ 142 := by unfold SetTable.turns; rcases R.tab.mok with e | e | e <;> omega
  unfold setSearch
  refine seek_from R hx hu h1 h2 h3 yes (fun g => no K g h2 h3) 100000 0 none rfl (Nat.zero_le _) (by omega) fun i r hr e => ?_
  have il : i < t.place.toList.length := by rw [R.place]; exact (List.getElem?_eq_some_iff.mp hr).1
  have hj := List.getElem?_eq_getElem il
  obtain ⟨d, d1, d2⟩ := R.tab.before (h := nh w x) h2 (by rw [List.getElem?_map, hr]; show some (r.2.hash w) = some (x.2.hash w); rw [e]) hj
  exact ⟨d, Nat.zero_le _, d1, by rw [hj, d2]⟩
end
end DL

namespace DL
open PySem PySem.Spec PyProof.Rows L2
section
variable {P : Program} {w : World} {A : Around} {E : Value → Shared → Prop} {s : Shared} {a : Addr} {L : List Nr} {es : Array (Int × Value)} {ep : Nat} {t : SetTable}
theorem pick_all {α : Type} (L : List α) : ∀ n, n ≤ L.length → ((List.range n).filterMap fun i => L[i]?) = L.take n
  | 0, _ => rfl
  | n + 1, h => by
    rw [List.range_succ, List.filterMap_append, pick_all L n (by omega), List.take_succ]
    have : L[n]? = some L[n] := List.getElem?_eq_getElem (by omega)
    simp [this]
/-- the rows in the order of a table laid anew -/
theorem relaid_rows {order : Array Nat} (e : es.toList = ents w L) (p : order.toList.Perm (List.range L.length)) :
    ∃ M : List Nr, (order.filterMap (es[·]?)).toList = ents w M ∧ M.Perm L ∧ M.map (nh w) = order.toList.map fun i => (es.map (·.1)).getD i 0 := by
  have at_ : ∀ i : Nat, es[i]? = (L[i]?).map fun r => (nh w r, Value.ref r.1) := fun i => by
    rw [← Array.getElem?_toList, e]; exact List.getElem?_map ..
  refine ⟨order.toList.filterMap fun i => L[i]?, ?_, ?_, ?_⟩
  · have : (order.filterMap (es[·]?)).toList = order.toList.filterMap fun i => es[i]? := by simp
    rw [this]
    unfold ents
    rw [List.map_filterMap]
    congr 1
    funext i
    exact at_ i
  · have := p.filterMap fun i => L[i]?
    rw [pick_all L _ (Nat.le_refl _), List.take_length] at this
    exact this
  · have ok : ∀ i ∈ order.toList, i < L.length := fun i hi => List.mem_range.mp (p.mem_iff.mp hi)
    generalize order.toList = l at ok
    induction l with
    | nil => rfl
    | cons i l ih =>
      obtain ⟨r, hi⟩ : ∃ r, L[i]? = some r := ⟨_, List.getElem?_eq_getElem (ok i (.head _))⟩
      have e2 : (es.map (·.1)).getD i 0 = nh w r := by
        rw [Array.getD_eq_getD_getElem?, Array.getElem?_map, at_ i, hi]; rfl
      rw [List.filterMap_cons_some hi, List.map_cons, List.map_cons, e2, ih fun j hj => ok j (.tail _ hj)]
/-- a set whose table may be too full -/
structure NPre (w : World) (h : Heap) (a : Addr) (L : List Nr) (es : Array (Int × Value)) (ep : Nat) (t : SetTable) : Prop where
  here : ∃ o, h.get? a = some o ∧ o.ExactSet ∧ o.data = .set es ep t
  held : es.toList = ents w L
  tab : TabOk t (L.map (nh w))
  nd : (L.map (·.2)).Nodup
  lies : ∀ r ∈ L, Lies h r
  led : w.params.followText "set-order" = true ∨ t.led = true
  fill : L.length ≤ t.mask
  few : L.length < 64
theorem NPre.full (R : NPre w s.heap a L es ep t) (h : L.length * 5 < t.mask * 3) : NSet w s.heap a L es ep t := ⟨R.here, R.held, R.tab, R.nd, R.lies, R.led, h, R.few⟩
theorem relay_key (R : NPre w s.heap a L es ep t) {wanted M : Nat} (h1 : SetTable.sizeAbove wanted - 1 = M) (h2 : MaskOk M) (h3 : SetTable.sizeAbove wanted ≤ 128) (h4 : L.length * 5 < M * 3) {Q : Unit → Shared → Prop}
    (hQ : ∀ h' L' es' ep' t', Heap.SameBut a s.heap h' → NSet w h' a L' es' ep' t' → L'.Perm L → Q () { s with heap := h' }) : wpAny (model P w) A (setRelay a wanted) Q E s := by
  obtain ⟨o, ho, hex, hd⟩ := R.here
  have sz := ents_size R.held
  have hp : t.place.size = L.length := by have := R.tab.sz; rw [List.length_map] at this; exact this
  obtain ⟨t2, order, e, op, T, m2, l2, _, d2⟩ := relaid_ok t (hs := es.map (·.1)) (wanted := wanted) h1 h2 (by have := R.few; rw [Array.size_map, sz]; omega)
  rw [Array.size_map, sz] at op
  obtain ⟨N, n1, n2, n3⟩ := relaid_rows R.held op
  rw [← n3] at T
  have few := R.few
  have nsz : (order.filterMap (es[·]?)).size = es.size := by rw [ents_size n1, n2.length_eq, sz]
  rw [setRelay_eq]
  refine wpAny_bind (wpAny_setState_of ho hd (fits_of R.tab.dm (by rw [hp, sz]) (by rw [sz]; exact R.fill)) ?_)
  dsimp only
  refine wp_if_neg (by rw [sizeLine_eq]; omega) ?_
  try refine wpAny_bind (wpAny_pure ?_)
  rw [e]
  dsimp only
  refine wpAny_bind (wp_if_neg (by simp [nsz]) ?_)
  try refine wpAny_bind (wpAny_pure ?_)
  refine wpAny_pure ?_
  dsimp only
  refine wpAny_storeSet_of ho hd ?_ (by rw [nsz, sz, sizeLine_eq]; omega)
  have sb : Heap.SameBut a s.heap (s.heap.update a (Obj.putSet (order.filterMap (es[·]?)) t2)) := Heap.SameBut.update ..
  exact hQ _ N _ (ep + 1) t2 sb ⟨⟨_, store_at ho hd, ⟨hex.1, hex.2.1, hex.2.2⟩, rfl⟩, n1, T, (n2.map (·.2)).nodup_iff.mpr R.nd, fun r hr => (R.lies r (n2.mem_iff.mp hr)).beside ho hd sb, by rw [l2]; exact R.led, by rw [n2.length_eq, m2]; exact h4, by rw [n2.length_eq]; exact few⟩ n2
theorem tab_plain {t : SetTable} {hs : List Int} (T : TabOk t hs) : TabOk { t with plain := false } hs := ⟨T.ris, T.dm, T.sz, T.mok, T.bd, T.reach⟩
theorem ins_perm {α : Type} (L : List α) (p : Nat) (x : α) : (L.take p ++ x :: L.drop p).Perm (x :: L) := by
  refine List.perm_middle.trans (.cons _ ?_)
  rw [List.take_append_drop]
/-- what stands there when the row is in -/
theorem add_tail {x : Nr} {t1 : SetTable} {o : Obj} {p : Nat} (R : NSet w s.heap a L es ep t) (hx : Lies s.heap x) (hm : x.2 ∉ L.map (·.2)) (hfew : L.length + 1 < 64) (ho : s.heap.get? a = some o) (hex : o.ExactSet) (hd : o.data = .set es ep t)
    (T : TabOk t1 ((L.take p ++ x :: L.drop p).map (nh w))) (mk : t1.mask = t.mask) (ld : t1.led = t.led) (fl : t1.fill = L.length + 1) {Q : Bool → Shared → Prop}
    (hQ : ∀ b h' L' es' ep' t', Heap.SameBut a s.heap h' → NSet w h' a L' es' ep' t' → L'.Perm (x :: L) → Q b { s with heap := h' }) :
    wpAny (model P w) A (do
      storeSet a (SetTable.insertAt es p (nh w x, .ref x.1)) t1
      if !false && t1.tooFull then setRelay a (SetTable.grown (es.size + 1))
      return true) Q E s := by
  have pm := ins_perm L p x
  have ln : (L.take p ++ x :: L.drop p).length = L.length + 1 := pm.length_eq
  have held : (SetTable.insertAt es p (nh w x, .ref x.1)).toList = ents w (L.take p ++ x :: L.drop p) := by
    rw [SetTable.toList_insertAt, R.held]
    unfold ents
    simp only [List.map_append, List.map_cons, List.map_take, List.map_drop]
  have sz := ents_size held
  have nd : ((L.take p ++ x :: L.drop p).map (·.2)).Nodup := (pm.map (·.2)).nodup_iff.mpr (List.nodup_cons.mpr ⟨hm, R.nd⟩)
  have esz := ents_size R.held
  have room := R.room
  generalize SetTable.insertAt es p (nh w x, Value.ref x.1) = es1 at held sz
  generalize L.take p ++ x :: L.drop p = L1 at pm ln held nd T sz
  refine wpAny_bind (wpAny_storeSet_of ho hd ?_ (by rw [sz, sizeLine_eq]; omega))
  have sb : Heap.SameBut a s.heap (s.heap.update a (Obj.putSet es1 t1)) := Heap.SameBut.update ..
  have ho1 := store_at (es' := es1) (t' := t1) ho hd
  generalize s.heap.update a (Obj.putSet es1 t1) = h1 at sb ho1
  have few1 : L1.length < 64 := by rw [ln]; exact hfew
  have Pr : NPre w ({ s with heap := h1 } : Shared).heap a L1 es1 (ep + 1) t1 := ⟨⟨_, ho1, ⟨hex.1, hex.2.1, hex.2.2⟩, rfl⟩, held, T, nd, fun r hr => by
    rcases List.mem_cons.mp (pm.mem_iff.mp hr) with e | hr
    · rw [e]; exact hx.beside ho hd sb
    · exact (R.lies r hr).beside ho hd sb, by rw [ld]; exact R.led, by rw [ln, mk]; omega, few1⟩
  by_cases hf : t1.tooFull = true
  · have big : (L.length + 1) * 5 ≥ t1.mask * 3 := by
      have h := hf
      unfold SetTable.tooFull at h
      rw [decide_eq_true_eq, fl] at h
      exact h
    have two : L.length = 4 ∨ L.length = 18 := by
      rw [mk] at big
      rcases R.tab.mok with e | e | e <;> rw [e] at big room <;> omega
    rw [esz]
    have go : ∀ M, SetTable.sizeAbove (SetTable.grown (L.length + 1)) - 1 = M → MaskOk M → SetTable.sizeAbove (SetTable.grown (L.length + 1)) ≤ 128 → (L.length + 1) * 5 < M * 3 →
        wpAny (model P w) A (do
          if !false && t1.tooFull then setRelay a (SetTable.grown (L.length + 1))
          return true) Q E { s with heap := h1 } := fun M z1 z2 z3 z4 => by
      have key : wpAny (model P w) A (setRelay a (SetTable.grown (L.length + 1))) (fun _ s' => wpAny (model P w) A (pure true) Q E s') E { s with heap := h1 } :=
        relay_key Pr z1 z2 z3 (by rw [ln]; exact z4) fun h2 L2 es2 ep2 t2 sb2 R2 pm2 => wpAny_pure (hQ true h2 L2 es2 ep2 t2 (sb.trans sb2) R2 (pm2.trans pm))
      first
        | (refine wpAny_bind ?_; exact wp_if_pos (by simp [hf]) key)
        | (refine wp_if_pos (by simp [hf]) ?_; exact wpAny_bind key)
    rcases two with e | e
    · exact go 31 (by rw [e, size_20]) (.inr (.inl rfl)) (by rw [e, size_20]; decide) (by omega)
    · exact go 127 (by rw [e, size_76]) (.inr (.inr rfl)) (by rw [e, size_76]; decide) (by omega)
  · have fin := hQ true h1 L1 es1 (ep + 1) t1 sb (Pr.full (by
      have h := hf
      unfold SetTable.tooFull at h
      rw [decide_eq_true_eq, fl] at h
      rw [ln]; omega)) pm
    first
      | (refine wp_if_neg (by simp [hf]) ?_; exact wpAny_pure fin)
      | (refine wpAny_bind ?_; refine wp_if_neg (by simp [hf]) ?_; exact wpAny_pure (wpAny_pure fin))
/-- a key is added -/
theorem add_key (R : NSet w s.heap a L es ep t) {x : Nr} (hx : Lies s.heap x) (hu : A.units + 8 < cLine) (hfew : L.length + 1 < 64) {Q : Bool → Shared → Prop}
    (hQ : ∀ b h' L' es' ep' t', Heap.SameBut a s.heap h' → NSet w h' a L' es' ep' t' → (x.2 ∈ L.map (·.2) ∧ L' = L ∨ L'.Perm (x :: L)) → Q b { s with heap := h' }) :
    wpAny (model P w) A (setAddHashed a (.ref x.1) (nh w x)) Q E s := by
  obtain ⟨o, ho, hex, hd⟩ := R.here
  unfold setAddHashed
  refine wpAny_holding ?_
  rw [show (100000 : Nat) = 99999 + 1 from rfl, setAddHashedIn_succ]
  refine wpAny_bind (wpAny_setState_of ho hd R.fits ?_)
  dsimp only
  refine wp_if_neg (by simp [byScan, Value.scannable]) ?_
  try refine wpAny_bind (wpAny_pure ?_)
  refine wpAny_bind (seek_at R hx hu (fun hm => ?_) fun K hm hK hb => ?_)
  · dsimp only
    exact wpAny_pure (hQ false s.heap L es ep t (Heap.SameBut.refl a s.heap) R (.inl ⟨hm, rfl⟩))
  dsimp only
  refine wpAny_bind (wpAny_setState_of ho hd R.fits ?_)
  dsimp only
  obtain ⟨q1, q2, q3, q4, q5, _, _, _, q9⟩ := R.tab.put hK hb
  generalize t.put (way t.mask (nh w x) K) = pt at q1 q3 q4 q5 q9
  obtain ⟨t1, p⟩ := pt
  dsimp only at q1 q3 q4 q5 q9 ⊢
  subst q1
  rw [List.length_map] at q9
  generalize SetTable.below t.place (way t.mask (nh w x) K) = p at q2 q3
  have q3 : TabOk t1 ((L.take p ++ x :: L.drop p).map (nh w)) := by
    simp only [List.map_append, List.map_cons, List.map_take, List.map_drop]; exact q3
  have fin : ∀ b : Bool, wpAny (model P w) A (do
      storeSet a (SetTable.insertAt es p (nh w x, .ref x.1)) (if b then t1 else { t1 with plain := false })
      if !false && (if b then t1 else { t1 with plain := false }).tooFull then setRelay a (SetTable.grown (es.size + 1))
      return true) Q E s := fun b => by
    cases b with
    | true => exact add_tail R hx hm hfew ho hex hd q3 q4 q5 q9 fun b h' L' es' ep' t' z1 z2 z3 => hQ b h' L' es' ep' t' z1 z2 (.inr z3)
    | false => exact add_tail R hx hm hfew ho hex hd (tab_plain q3) q4 q5 q9 fun b h' L' es' ep' t' z1 z2 z3 => hQ b h' L' es' ep' t' z1 z2 (.inr z3)
  by_cases pl : t1.plain = true
  · first
      | (refine wpAny_bind ?_; exact wp_if_pos pl (hv_key 8 x.2 _ _ hx.1 hx.2 fin))
      | exact wp_if_pos pl (wpAny_bind (hv_key 8 x.2 _ _ hx.1 hx.2 fin))
  · first
      | (refine wpAny_bind ?_; exact wp_if_neg pl (wpAny_pure (fin true)))
      | exact wp_if_neg pl (wpAny_bind (wpAny_pure (fin true)))
end
end DL

namespace DL
open PySem PySem.Spec PyProof.Rows L2
/-- what the first i of ks have brought -/
structure Met (ks : List Nr) (i : Nat) (L : List Nr) : Prop where
  sub : ∀ r ∈ L, r ∈ ks.take i
  all : ∀ r ∈ ks.take i, r.2 ∈ L.map (·.2)
  len : L.length ≤ i
theorem Met.next {ks L L' : List Nr} {i : Nat} {x : Nr} (g : Met ks i L) (hx : ks[i]? = some x) (c : x.2 ∈ L.map (·.2) ∧ L' = L ∨ L'.Perm (x :: L)) : Met ks (i + 1) L' := by
  have e : ks.take (i + 1) = ks.take i ++ [x] := by rw [List.take_succ, hx]; rfl
  rcases c with ⟨hm, rfl⟩ | pm
  · refine ⟨fun r hr => by rw [e]; exact List.mem_append_left _ (g.sub r hr), fun r hr => ?_, Nat.le_succ_of_le g.len⟩
    rw [e] at hr
    rcases List.mem_append.mp hr with z | z
    · exact g.all r z
    · cases List.mem_singleton.mp z; exact hm
  · refine ⟨fun r hr => ?_, fun r hr => ?_, by rw [pm.length_eq]; exact Nat.succ_le_succ g.len⟩
    · rw [e]
      rcases List.mem_cons.mp (pm.mem_iff.mp hr) with z | z
      · rw [z]; exact List.mem_append_right _ (.head _)
      · exact List.mem_append_left _ (g.sub r z)
    · rw [(pm.map (·.2)).mem_iff]
      rw [e] at hr
      rcases List.mem_append.mp hr with z | z
      · exact .tail _ (g.all r z)
      · cases List.mem_singleton.mp z; exact .head _
section
variable {P : Program} {w : World} {A : Around} {E : Value → Shared → Prop} {s : Shared}
theorem NSet.keep {h h' : Heap} {a : Addr} {L : List Nr} {es : Array (Int × Value)} {ep : Nat} {t : SetTable} (R : NSet w h a L es ep t) (ha : ∀ o, h.get? a = some o → h'.get? a = some o) (ht : ∀ r ∈ L, Lies h' r) : NSet w h' a L es ep t := by
  obtain ⟨o, ho, r⟩ := R.here
  exact ⟨⟨o, ha o ho, r⟩, R.held, R.tab, R.nd, ht, R.led, R.room, R.few⟩
theorem nset_new {h : Heap} {a : Addr} (ho : h.get? a = some (setO w)) : NSet w h a [] #[] 0 (.fresh 0 0 (!w.params.followText "set-order")) where
  here := ⟨_, ho, ⟨rfl, rfl, rfl⟩, rfl⟩
  held := rfl
  tab := ⟨.nil, rfl, rfl, .inl rfl, fun x hx => (by cases hx), fun i h j hi => (by cases hi)⟩
  nd := .nil
  lies := fun r hr => (by cases hr)
  led := by
    show w.params.followText "set-order" = true ∨ (!w.params.followText "set-order") = true
    cases w.params.followText "set-order" <;> simp
  room := (show 0 * 5 < 7 * 3 by decide)
  few := (show 0 < 64 by decide)
theorem fill_loop {I : Addr} {fp wr : List Addr} {G : Array GenState → Array GenState → Prop} {n : Nat} {Pv : Nat → Value → Prop} {St : Nat → Shared → Prop} {Z : Result → Shared → Prop}
    (W : WalksS P w A.in1 I fp wr G n Pv St) (S : Addr) (hS : S ∉ fp) (ks : List Nr) (hn : n = ks.length) (few : ks.length < 64) (hv : ∀ i v, Pv i v → ∃ r, ks[i]? = some r ∧ v = .ref r.1)
    (h0 : Heap) (hk : ∀ r ∈ ks, Lies h0 r) (hS0 : h0.get? S = none) (hw0 : ∀ b ∈ wr, h0.get? b = none) (hu : A.in1.units + 8 < cLine) (k : Nat) :
    ∀ (i : Nat) (s : Shared), n - i = k → i ≤ n → St i s → (∀ b o, h0.get? b = some o → s.heap.get? b = some o) → (∃ L es ep t, NSet w s.heap S L es ep t ∧ Met ks i L) →
      (∀ s' L es ep t, Moved (S :: wr) G s s' → NSet w s'.heap S L es ep t → Met ks n L → (∀ b o, h0.get? b = some o → s'.heap.get? b = some o) → Z (.ok (.ret .none)) s') →
      codeAny (model P w) A (.builtin "set.update.loop" ⟨[.ref S, .ref I], []⟩) Z s := by
  have hSw : S ∉ wr := fun h => hS (W.sub _ h)
  have up : ∀ b ∈ wr, b ∈ S :: wr := fun b hb => .tail _ hb
  have stay : ∀ {s s' : Shared}, Moved wr G s s' → (∀ b o, h0.get? b = some o → s.heap.get? b = some o) → ∀ b o, h0.get? b = some o → s'.heap.get? b = some o := fun m k b o e =>
    m.heap b o (fun hb => by rw [hw0 b hb] at e; cases e) (k b o e)
  have from_ : ∀ {L : List Nr} {i : Nat}, Met ks i L → ∀ r ∈ L, r ∈ ks := fun g r hr => List.mem_of_mem_take (g.sub r hr)
  induction k with
  | zero =>
    intro i s e1 e2 hst kp ⟨L, es, ep, t, R, g⟩ hZ
    obtain rfl : i = n := by omega
    refine codeAny_builtin F.entry_set_update_loop ?_
    rw [Around.under_plainId F.plain_set_update_loop _]
    show wpAny _ A.in1 (pyNext (.ref I) >>= _) _ _ s
    refine wpAny_bind (W.done s _ _ hst fun s2 m => ?_)
    have kp2 := stay m kp
    exact wpAny_pure (hZ s2 L es ep t (m.mono up) (R.keep (fun o e => m.heap S o hSw e) fun r hr => (hk r (from_ g r hr)).keep kp2) g kp2)
  | succ k ih =>
    intro i s e1 e2 hst kp ⟨L, es, ep, t, R, g⟩ hZ
    have lt : i < n := by omega
    refine codeAny_builtin F.entry_set_update_loop ?_
    rw [Around.under_plainId F.plain_set_update_loop _]
    show wpAny _ A.in1 (pyNext (.ref I) >>= _) _ _ s
    refine wpAny_bind (W.item i s _ _ lt hst fun v s2 hP hst2 m => ?_)
    obtain ⟨x, hx, rfl⟩ := hv i v hP
    have kp2 := stay m kp
    have R2 : NSet w s2.heap S L es ep t := R.keep (fun o e => m.heap S o hSw e) fun r hr => (hk r (from_ g r hr)).keep kp2
    have lx : Lies s2.heap x := (hk x (List.mem_of_getElem? hx)).keep kp2
    show wpAny _ A.in1 (holding [Value.ref x.1] (setAdd S (.ref x.1)) >>= _) _ _ s2
    refine wpAny_bind (wpAny_holding ?_)
    unfold setAdd
    refine wpAny_holding (wpAny_bind (pyHash_key x.2 _ _ _ _ lx.1 (by have := lx.2; omega) ?_))
    refine add_key (s := { s2 with toks := s2.toks + x.2.draws }) R2 lx hu (by have := g.len; omega) fun b h3 L3 es3 ep3 t3 sb R3 c => ?_
    have kp3 : ∀ b o, h0.get? b = some o → h3.get? b = some o := fun b o e => (sb.2 b (fun z => by rw [z, hS0] at e; cases e)).trans (kp2 b o e)
    refine wpAny_pure ⟨plainId_quiet F.plain_set_update_loop _, ih (i + 1) _ (by omega) lt (W.frame _ s2 _ _ hst2 (Nat.le_add_right _ _) fun b hb o e => ?_) kp3 ⟨L3, es3, ep3, t3, R3, g.next hx c⟩ fun s4 L4 es4 ep4 t4 m4 R4 g4 kp4 => ?_⟩
    · rw [sb.2 b (fun h : b = S => hS (h ▸ hb))]; exact e
    · refine hZ s4 L4 es4 ep4 t4 (Moved.trans W.gtrans ((m.mono up).then_heap (Nat.le_add_right _ _) fun b o hb e => ?_) m4) R4 g4 kp4
      rw [sb.2 b (fun h : b = S => hb (h ▸ .head _))]; exact e
end
end DL

namespace DL
open PySem PySem.Spec PyProof.Rows L2
section
variable {P : Program} {w : World} {A : Around} {E : Value → Shared → Prop} {s : Shared}
def NDone (w : World) (s : Shared) (ks : List Nr) (s2 : Shared) : Prop := ∃ h' tk L es ep t, s2 = { s with heap := h', toks := tk } ∧ NSet w h' s.heap.objs.size L es ep t ∧ Met ks ks.length L ∧ ∀ b o, s.heap.get? b = some o → h'.get? b = some o
/-- set(xs), xs a list of nested tuples -/
theorem call_set_nest {l : Addr} {items : Array Value} (ks : List Nr) {Q : Value → Shared → Prop} (hh : A.handled = none) (hl : s.heap.IsList l items) (hit : items.toList = ks.map fun r => Value.ref r.1)
    (hk : ∀ r ∈ ks, Lies s.heap r) (few : ks.length < 64) (hu : A.units + 12 < cLine) (h : ∀ s2, NDone w s ks s2 → Q (.ref s.heap.objs.size) s2) :
    wpAny (model P w) A (call (.type "set") [.ref l]) Q E s := by
  have hn : items.size = ks.length := by have := congrArg List.length hit; simpa using this
  have hv : ∀ (i : Nat) (v : Value), items[i]? = some v → ∃ r, ks[i]? = some r ∧ v = .ref r.1 := fun i v e => by
    have q : (ks.map fun r => Value.ref r.1)[i]? = some v := by rw [← hit, Array.getElem?_toList]; exact e
    obtain ⟨r, hr, rfl⟩ := List.getElem?_map .. ▸ q |> Option.map_eq_some_iff.mp
    exact ⟨r, hr, rfl⟩
  have lt : l < s.heap.objs.size := by obtain ⟨o, ho, _⟩ := hl; exact Heap.lt_size ho
  have hz : (s.heap.push (setO w)).objs.size = s.heap.objs.size + 1 := Heap.size_push ..
  have hl1 : (s.heap.push (setO w)).IsList l items := hl.push _
  have hS : (s.heap.push (setO w)).get? s.heap.objs.size = some (setO w) := Heap.get?_push_size _ rfl
  have hmade := F.called_set.made
  have hsub := F.called_set.sub
  obtain ⟨mc, mt, hmro⟩ := F.called_set.mro
  refine wpAny_call (codeAny_of_tree ?_)
  show wpAny _ _ (callAny (.type "set") _) _ _ _
  refine wpAny_pure ⟨Code.quiet_builtin _ (by decide +kernel), codeAny_builtin F.entry_type_call ?_⟩
  rw [Around.under_plain (weight_type_call_type "set" [.ref l] []) rfl]
  have n1 := F.called_set.notType
  have n2 := F.called_set.canCreate
  have n3 := F.typeCall_set_1 (.ref l)
  repeat (any_goals (first | assumption | wp_step))
  refine codeAny_mono (code_set_led1 (.ref l) (E := E) (Q₁ := fun obj s₁ => obj = .ref s.heap.objs.size ∧ s₁ = { s with heap := s.heap.push (setO w) }) ⟨rfl, rfl⟩) fun r s₁ hr => ?_
  match r, hr with
  | .error e, hr => exact hr
  | .ok .next, hr => exact hr.elim
  | .ok .brk, hr => exact hr.elim
  | .ok .cont, hr => exact hr.elim
  | .ok (.ret obj), hr =>
    obtain ⟨rfl, rfl⟩ := hr
    have hT : Shared.TypeIs { s with heap := s.heap.push (setO w) } (.ref s.heap.objs.size) "set" := ⟨_, hS, rfl⟩
    have n4 := F.called_set.init.lookup
    have n5 := F.called_set.init.bind (.ref s.heap.objs.size)
    repeat (any_goals (first | assumption | wp_step))
    refine codeAny_mono (codeAny_call_builtin (R := wants (fun r s₂ => r = .none ∧ NDone w s ks s₂) E) F.called_set.init.plain F.entry_set_init (check_set_init_1 hT ?_)) fun r₂ s₂ hr₂ => ?_
    · obtain ⟨⟨oc, od, dt, sl⟩, ho, hc, nt, hd⟩ := hl
      simp only at hc hd
      subst hc hd
      have ho1 : (s.heap.push (setO w)).get? l = some { cls := .type "list", dict := od, data := .seq items nt, slots := sl } := Heap.get?_push_of_some _ ho
      have n6 := F.sub_list_set
      have n7 := F.sub_list_frozenset
      have n8 : (Value.type "list" == Value.type "dict") = false := by decide
      unfold Builtin.«set.__init__» noKeywords Builtin.Frozenset.updateFrom
      generalize hI : pyIter = I
      wp_walk
      subst hI
      refine wpAny_pyIter_list hl1 (wpAny_bind (wpAny_runValue ?_))
      have ne : l ≠ (s.heap.push (setO w)).objs.size := by rw [hz]; exact Nat.ne_of_lt (Nat.lt_succ_of_lt lt)
      refine fill_loop ((Walks.list (by simp [hh]) _ l ne items).toS) s.heap.objs.size (by
        rw [hz]; simp only [List.mem_cons, List.not_mem_nil, or_false, not_or]; exact ⟨Nat.ne_of_lt (Nat.lt_succ_self _), Nat.ne_of_gt lt⟩) ks hn few hv s.heap hk (free_at (Nat.le_refl _)) (fun b hb => free_at (by
        rw [List.mem_singleton.mp hb, hz]; omega)) (by have e : A.in1.in1.in1.units = A.units + 3 := rfl; omega) (items.size - 0) 0 _ (by omega) (Nat.zero_le _) ⟨⟨_, Heap.get?_push_size _ rfl, rfl, rfl⟩, hl1.push _⟩ (fun b o e => Heap.get?_push_of_some _ (Heap.get?_push_of_some _ e))
        ⟨[], #[], 0, _, nset_new (Heap.get?_push_of_some _ hS), fun r hr => (by cases hr), fun r hr => (by simp at hr), Nat.le_refl _⟩ fun s' L es ep tb hm hR g kp => ?_
      rw [hn] at g
      refine wpAny_pure (wpAny_pure ⟨rfl, s'.heap, s'.toks, L, es, ep, tb, ?_, hR, g, kp⟩)
      have e1 := hm.gens
      have e2 := hm.drawn
      have e3 := hm.os
      cases s'
      simp only at e1 e2 e3
      subst e1 e2 e3
      rfl
    · match r₂, hr₂ with
      | .error e, hr₂ => exact hr₂
      | .ok .next, hr₂ => exact hr₂.elim
      | .ok .brk, hr₂ => exact hr₂.elim
      | .ok .cont, hr₂ => exact hr₂.elim
      | .ok (.ret r), hr₂ =>
        obtain ⟨rfl, hq⟩ := hr₂
        repeat (any_goals (first | assumption | wp_step))
        exact h _ hq
end
end DL

namespace DL
variable [TB]
open PySem PySem.Spec PySem.Calls PyProof.Rows L2
/-! ### sorted(s), s a set of nested tuples -/
theorem perm_map_inv {α β : Type} [DecidableEq α] {f : α → β} : ∀ {vs : List β} {L : List α}, vs.Perm (L.map f) → ∃ M : List α, M.Perm L ∧ vs = M.map f
  | [], L, h => by
    have : L.map f = [] := h.symm.eq_nil
    rw [List.map_eq_nil_iff] at this
    subst this
    exact ⟨[], .refl _, rfl⟩
  | v :: vs, L, h => by
    obtain ⟨x, hx, rfl⟩ := List.mem_map.mp (h.mem_iff.mp (.head _))
    have p1 := List.perm_cons_erase hx
    have p2 : vs.Perm ((L.erase x).map f) := (h.trans (p1.map f)).cons_inv
    obtain ⟨M, m1, rfl⟩ := perm_map_inv p2
    exact ⟨x :: M, (m1.cons x).trans p1.symm, rfl⟩
section
variable {P : Program} {w : World} {A : Around} {E : Value → Shared → Prop} {s : Shared} {a : Addr} {L : List Nr} {es : Array (Int × Value)} {ep : Nat} {t : SetTable}
open PySem.W in
theorem sorted_nset {Q : Value → Shared → Prop} (R : NSet w s.heap a L es ep t) (hh : A.handled = none) (hr : ∀ r ∈ L, ∃ as, Reads s.heap (.ref r.1) r.2.data as) (hu : ∀ r ∈ L, A.units + 2 + r.2.data.depth < cLine)
    (hs : ∀ M : List Nr, M.Perm L → AllAlike (M.map fun r => r.2.data) ∧ Sortable (M.map fun r => r.2.data))
    (hQ : ∀ (M : List Nr) s' p c (out : List Value), M.Perm L → (∀ b o, s.heap.get? b = some o → s'.heap.get? b = some o) → s'.gens = s.gens → s'.os = s.os → s.heap.objs.size ≤ p → s'.heap.get? p = some (seqObj "list" out.toArray c) →
      EachIs (fun v (r : Nr) => v = Value.ref r.1) out (M.mergeSort (dataLe false fun r => r.2.data)) → Q (.ref p) s') :
    wpAny (model P w) A (call (.builtin "sorted") [.ref a]) Q E s := by
  obtain ⟨o, ho, hex, hd⟩ := R.here
  have few := R.few
  have sz := ents_size R.held
  refine Calls.call_function_entry kind_sorted plain_sorted entry_sorted (args_sorted1 _) ?_
  unfold Builtin.«sorted»
  refine wpAny_bind (m := checkCount "sorted" 1 1 _) (wpAny_pure ?_)
  refine wpAny_bind (collect_set (A := A.in1) hh ⟨o, ho, hex.1, hd⟩ R.fits (by unfold scanBound; omega) R.tab.ris R.led fun s1 vs k1 hz g1 o1 pm => ?_)
  have e1 : es.toList.map (·.2) = L.map fun r => Value.ref r.1 := by
    rw [R.held]
    unfold ents
    rw [List.map_map]; rfl
  rw [e1] at pm
  obtain ⟨M, pM, rfl⟩ := perm_map_inv pm
  have lM : M.length < 64 := by rw [pM.length_eq]; exact few
  have lV : (M.map fun r => Value.ref r.1).length ≤ sizeLine := by rw [List.length_map, sizeLine_eq]; omega
  generalize hvs : (M.map fun r => Value.ref r.1) = vs at lV
  refine wpAny_bind (wpAny_newList ?_ lV)
  have at_ : (s1.heap.push (seqObj "list" vs.toArray 0)).get? s1.heap.objs.size = some (seqObj "list" vs.toArray 0) := Heap.get?_push_size _ rfl
  have kp : ∀ b u, s.heap.get? b = some u → (sortingHeap (s1.heap.push (seqObj "list" vs.toArray 0)) s1.heap.objs.size vs).get? b = some u := fun b u e => by
    have q := k1 b u e
    exact sortingHeap_old (Nat.ne_of_lt (Heap.lt_size q)) (Heap.get?_push_of_some _ q)
  have each : EachIs (fun v (r : Nr) => v = Value.ref r.1) vs M := by
    rw [← hvs]
    clear hvs pm pM lM
    induction M with
    | nil => exact .nil
    | cons r M ih => exact .cons rfl ih
  have each2 : EachIs (fun v (r : Nr) => ∃ as, Reads (sortingHeap (s1.heap.push (seqObj "list" vs.toArray 0)) s1.heap.objs.size vs) v r.2.data as) vs M := each_and each fun v r m e => by
    obtain ⟨as, q⟩ := hr r (pM.mem_iff.mp m)
    rw [e]
    exact ⟨as, PyProof.Rows.Reads.keeps (fun _ _ => kp _ _) q⟩
  obtain ⟨hal, hso⟩ := hs M pM
  refine wpAny_bind (wpAny_holding (wpAny_call_entry_kw slot_list_sort ⟨_, at_, rfl⟩ entry_list_sort ?body (args_list_sort _)))
  case body =>
    show wpAny (model P w) A.in1.in1 (Builtin.«list.sort» ⟨[.ref s1.heap.objs.size], []⟩) _ _ _
    refine wpAny_mono (Q := fun f s' => f = PySem.Fin.done (.ret .none) ∧ Q (.ref s1.heap.objs.size) s') (list_sort_vals (s := { s1 with heap := s1.heap.push (seqObj "list" vs.toArray 0) }) at_ (SortsAt.data (s := { s1 with heap := sortingHeap (s1.heap.push (seqObj "list" vs.toArray 0)) s1.heap.objs.size vs }) (each_map (R := fun v d => ∃ as, Reads (sortingHeap (s1.heap.push (seqObj "list" vs.toArray 0)) s1.heap.objs.size vs) v d as) (fun r : Nr => r.2.data) each2) hal hso (bound_map (A := A.in1.in1) fun r m => hu r (pM.mem_iff.mp m))) lV ⟨rfl, ?_⟩) (fun f s' hf => ?_) fun _ _ e => e
    · obtain ⟨c, hc⟩ := sortedHeap_at (out := (sortVals (dataKind (sortingHeap (s1.heap.push (seqObj "list" vs.toArray 0)) s1.heap.objs.size vs) (M.map fun r => r.2.data)) false vs vs).toArray) at_
      refine hQ M _ s1.heap.objs.size c _ pM (fun b u e => ?_) g1 o1 hz hc (sortVals_data false each each2 hal)
      have q := k1 b u e
      have lt := Heap.lt_size q
      show (sortedHeap (s1.heap.push (seqObj "list" vs.toArray 0)) s1.heap.objs.size vs _).get? b = some u
      rw [sortedHeap_old (Nat.ne_of_lt lt) (by rw [size_push']; exact Nat.lt_succ_of_lt lt)]
      exact Heap.get?_push_of_some _ q
    · obtain ⟨rfl, hq⟩ := hf
      exact ⟨_, rfl, wpAny_pure ⟨_, rfl, hq⟩⟩
end
end DL

namespace DL
variable [TB]
open PySem PySem.Spec PySem.Calls PyProof.Rows L2
/-! ### sets of nested tuples in the hand layer -/
structure NSet0 (w : World) (h : Heap) (a : Addr) (L : List Nr) : Prop where
  ex : ∃ (es : Array (Int × Value)) (ep : Nat) (t : SetTable), (∃ o, h.get? a = some o ∧ o.ExactSet ∧ o.data = .set es ep t) ∧ es.toList = ents w L ∧ TabOk t (L.map (nh w)) ∧ (L.map (·.2)).Nodup ∧ (w.params.followText "set-order" = true ∨ t.led = true) ∧ L.length * 5 < t.mask * 3 ∧ L.length < 64
def NO (w : World) (a : Addr) (L : List Nr) : HO := .ext fun h => NSet0 w h a L
section
variable {P : Program} {w : World} {H : Hp} {h : Heap} {a : Addr} {L : List Nr} {es : Array (Int × Value)} {ep : Nat} {t : SetTable}
theorem NSet.weak (R : NSet w h a L es ep t) : NSet0 w h a L := ⟨es, ep, t, R.here, R.held, R.tab, R.nd, R.led, R.room, R.few⟩
theorem NSet0.full (R : NSet0 w h a L) (k : ∀ r ∈ L, Lies h r) : ∃ es ep t, NSet w h a L es ep t := by
  obtain ⟨es, ep, t, h1, h2, h3, h4, h5, h6, h7⟩ := R.ex
  exact ⟨es, ep, t, h1, h2, h3, h4, k, h5, h6, h7⟩
theorem no_new (R : NSet0 w h a L) : ObjOk P w H h a (NO w a L) := by
  have ⟨es, ep, t, ⟨o, ho, r⟩, q⟩ := R.ex
  refine ⟨R, ⟨o, ho⟩, fun h1 h2 p k => ?_⟩
  have ⟨es', ep', t', ⟨o', ho', r'⟩, q'⟩ := NSet0.ex p
  exact ⟨es', ep', t', ⟨o', k o' ho', r'⟩, q'⟩
end
section
variable {X : Cx} {pins : List (Addr × Obj)} {σ : L2.St} {H : Hp} {s : Shared}
mutual
theorem key_of (I : Inv X pins σ H s) : ∀ (k : NestedKey) (v : V) (u : Value), Dp X.K H v k.data → RelV v u → NestedIs s.heap k u
  | .none, _, _, h, r => by cases h; cases r; exact .none
  | .num i, _, _, h, r => by cases h; obtain ⟨t, rfl⟩ := r; exact .int i t
  | .text z, _, _, h, r => by cases h; obtain ⟨t, rfl⟩ := r; exact .text z t
  | .tup ks, _, _, h, r => by
    cases h with
    | tup hs ha =>
      cases r
      obtain ⟨its, rv, ⟨o, ho, hc, n, hd⟩, _⟩ := I.tuple hs
      exact .tup ho hc hd (by simpa using keys_of I ks _ its ha rv)
theorem keys_of (I : Inv X pins σ H s) : ∀ (ks : List NestedKey) (vs : List V) (us : List Value), DpAll X.K H vs (NestedKey.datas ks) → Vals vs us → NestedAll s.heap ks us
  | [], _, _, h, r => by cases h; cases r; exact .nil
  | k :: ks, _, _, h, r => by
    cases h with
    | cons h1 h2 => cases r with | cons r1 r2 => exact .cons (key_of I k _ _ h1 r1) (keys_of I ks _ _ h2 r2)
end
end
/-- the tuple r.2 at r.1 -/
def KeyAt (K : PySem.W.Frag) (H : Hp) (r : Nr) : Prop := Dp K H (.ref r.1) r.2.data ∧ r.2.depth ≤ 8
def nref (r : Nr) : V := .ref r.1
theorem nref_vals : ∀ (ks : List Nr), Vals (ks.map nref) (ks.map fun r => Value.ref r.1)
  | [] => .nil
  | r :: ks => .cons rfl (nref_vals ks)
theorem vals_nref : ∀ {ks : List Nr} {us : List Value}, Vals (ks.map nref) us → us = ks.map fun r => Value.ref r.1
  | [], _, .nil => rfl
  | r :: ks, _, .cons e t => by
    cases e
    rw [vals_nref t, List.map_cons]
def rSetN (K : PySem.W.Frag) (w : World) : List V → Hp → VK → Prop := fun xs H Q => ∃ (l : Addr) (ks : List Nr), xs = [V.ref l] ∧ SqL K H l (ks.map nref) ∧ (∀ r ∈ ks, KeyAt K H r) ∧ ks.length < 64 ∧
  ∀ a L, H a = none → (∀ r ∈ L, r ∈ ks) → (∀ r ∈ ks, r.2 ∈ L.map (·.2)) → Q (.ref a) (upd H a (NO w a L))
theorem cr_setN {X : Cx} (hc : X.calm = true) (hu : X.A.units + 64 < cLine) : CallR X (.type "set") (rSetN X.K X.w) := by
  intro pins s σ H xs us Q I r h
  obtain ⟨l, ks, rfl, hl, hk, hf, q⟩ := h
  rw [Vals.ref1 r]
  obtain ⟨its, rv, pl, hz⟩ := I.list hl
  refine call_set_nest (P := X.prog) (w := X.w) ks (I.ok.hd hc) pl.isList (by rw [← vals_nref rv]) (fun r m => ⟨key_of I r.2 _ _ (hk r m).1 rfl, (hk r m).2⟩) hf (by omega) fun s2 hs => ?_
  obtain ⟨h', tk, L, es, ep, tb, rfl, R, g, kp⟩ := hs
  exact ⟨.ref s.heap.objs.size, _, I.laid (t' := tk) kp (Nat.le_refl _) (no_new R.weak), rfl, q _ L (I.hok.fresh (Nat.le_refl _)) (fun p hp => List.mem_of_mem_take (g.sub p hp)) fun p hp => g.all p (by rw [List.take_length]; exact hp)⟩
def nsort (M : List Nr) : List Nr := M.mergeSort (PySem.W.dataLe false fun r => r.2.data)
def rSortedN (K : PySem.W.Frag) (w : World) : List V → Hp → VK → Prop := fun vs H Q => ∃ (a : Addr) (L : List Nr), vs = [V.ref a] ∧ H a = some (NO w a L) ∧ (∀ r ∈ L, KeyAt K H r ∧ r.2.data.depth ≤ 64) ∧
  ((L.map (·.2)).Nodup → ∀ M : List Nr, M.Perm L → (PySem.W.AllAlike (M.map fun r => r.2.data) ∧ PySem.W.Sortable (M.map fun r => r.2.data)) ∧ ∀ p, H p = none → Q (.ref p) (upd H p (.lst ((nsort M).map nref))))
theorem each_nref {out : List Value} {M : List Nr} (h : PySem.W.EachIs (fun v (r : Nr) => v = Value.ref r.1) out M) : out = M.map fun r => Value.ref r.1 := by
  induction h with
  | nil => rfl
  | cons e _ ih => rw [e, ih, List.map_cons]
theorem cr_sortedN {X : Cx} (hc : X.calm = true) (hu : X.A.units + 66 < cLine) : CallR X (.builtin "sorted") (rSortedN X.K X.w) := by
  intro pins s σ H vs us Q I r h
  obtain ⟨a, L, rfl, ha, hk, q⟩ := h
  have R0 : NSet0 X.w s.heap a L := (I.hok a _ ha).1
  obtain ⟨es, ep, t, R⟩ := R0.full fun r m => ⟨key_of I r.2 _ _ (hk r m).1.1 rfl, (hk r m).1.2⟩
  have q := q R.nd
  rw [Vals.ref1 r]
  refine sorted_nset R (I.ok.hd hc) (fun r m => Dp.reads I _ _ _ (hk r m).1.1 rfl) (fun r m => by have := (hk r m).2; omega) (fun M pm => (q M pm).1) fun M s' p c out pm kp g o hp hg he => ?_
  have hout := each_nref he
  have few : (nsort M).length < 64 := by unfold nsort; rw [List.length_mergeSort, pm.length_eq]; exact R.few
  have hn : H p = none := I.hok.fresh hp
  have hv : Vals ((nsort M).map nref) out := by rw [hout]; exact nref_vals _
  have J : Inv X pins σ (upd H p (.lst ((nsort M).map nref))) { s with heap := s'.heap, gens := s'.gens, drawn := s'.drawn, toks := s'.toks } :=
    I.call (ch := []) (Un.laid kp hp hn) (I.hok.laid kp hp ⟨by rw [List.length_map, sizeLine_eq]; omega, out, c, hv, hg⟩) (by rw [g]; exact I.bare) (fun _ z => nomatch z)
  have e : s' = { s with heap := s'.heap, gens := s'.gens, drawn := s'.drawn, toks := s'.toks } := by
    cases s'
    cases s
    cases o
    rfl
  rw [e]
  exact ⟨.ref p, _, J, rfl, (q M pm).2 p hn⟩
/-- sets of either kind -/
def rSetE (K : PySem.W.Frag) (P : Program) (w : World) : List V → Hp → VK → Prop := fun xs H Q => rSetAny K P w xs H Q ∨ rSetN K w xs H Q
def rSortedE (K : PySem.W.Frag) (P : Program) (w : World) : List V → Hp → VK → Prop := fun xs H Q => rSortedT K P w xs H Q ∨ rSortedN K w xs H Q
theorem cr_setE {X : Cx} (hc : X.calm = true) (hu : X.A.units + 64 < cLine) : CallR X (.type "set") (rSetE X.K X.prog X.w) := by
  intro pins s σ H xs us Q I r h
  rcases h with h | h
  · exact cr_setAny hc hu pins s σ H xs us Q I r h
  · exact cr_setN hc hu pins s σ H xs us Q I r h
theorem cr_sortedE {X : Cx} (hc : X.calm = true) (hu : X.A.units + 66 < cLine) : CallR X (.builtin "sorted") (rSortedE X.K X.prog X.w) := by
  intro pins s σ H xs us Q I r h
  rcases h with h | h
  · exact cr_sortedT hc pins s σ H xs us Q I r h
  · exact cr_sortedN hc hu pins s σ H xs us Q I r h
end DL

namespace DL
variable [TB]
open PySem PySem.Spec PyProof.Rows L2
/-! ### t.count(x), t a tuple that is known to be new -/
def tyF (x : V) (H : Hp) : Prop := ∃ a o vs, x = .ref a ∧ H a = some (.frz o (.tup vs)) ∧ o.dict = none
def tTM (r : V → List V → Hp → VK → Prop) (to : TE) (t : TA) : TE := fun σ H Q => to σ H fun x H1 => tyF x H1 ∧ t σ H1 fun xs H2 => r x xs H2 Q
theorem pe_tm {X : Cx} {o e : Expr} {es : List Expr} {to : TE} {t : TA} {name : Str} {apos cpos : Pos} {id : String} {r : V → List V → Hp → VK → Prop}
    (slot : Slot "tuple" name id) (hty : typeOf (.builtin id) = pure (.type "method_descriptor")) (hm : MtR X id r) (ho : PE X o to) (ha : PA X (e :: es) t) (hb : attributeBase o name X.env (eval o X.env) = eval o X.env)
    (hf : ((backTo cpos (starEach (e :: es) X.env)).all (fun x => !x.1) && (backToKw cpos (keywordEach [] X.env)).all (fun x => x.1.isSome) && decide ((e :: es).length + ([] : List Keyword).length + (if ([] : List Keyword).isEmpty then 0 else 1) < 30)) = true)
    (hl : (apos.endLine == cpos.line) = true) (hs : starEach (e :: es) X.env = (false, eval e X.env) :: starEach es X.env) (hp : (backTo cpos (starEach es X.env)).any (·.1) = false) :
    PE X (.Call (.Attribute o name apos) (e :: es) [] cpos) (tTM r to t) := by
  refine ⟨fun pins s σ H Q I h => ?_⟩
  refine wpAny_Call_method_late hb hf hl rfl (thn (ho.run pins s σ H _ I h) fun v s1 ⟨x, H1, I1, r1, ty, q1⟩ => ?_)
  obtain ⟨a, o', vs, rfl, hH, hd⟩ := ty
  cases r1
  obtain ⟨g1, _, its, _, p⟩ := (show ObjOk X.prog X.w H1 s1.heap a (.frz o' (.tup vs)) from I1.hok a _ hH)
  obtain ⟨o2, g2, hc, _⟩ := p
  rw [g1] at g2
  cases g2
  refine ⟨"tuple", id, PySem.F.plainAttrs_tuple, slot, hty, ⟨o', g1, hc⟩, fun b e => (by cases e; exact ⟨o', g1, hd⟩), ?_⟩
  have hA := ha.run cpos pins s1 σ H1 _ I1 q1
  rw [hs] at hA ⊢
  refine Calls.callWith_builtin (by show (false || (backTo cpos (starEach es X.env)).any (·.1)) = false; rw [hp]; rfl) (Calls.evalArgs_plain ?_)
  exact thn hA fun us s2 ⟨vs2, H2, I2, r2, q2⟩ => hm pins s2 σ H2 (.ref a) vs2 (.ref a) us Q I2 rfl r2 q2
def rTCnt (K : PySem.W.Frag) : V → List V → Hp → VK → Prop := fun x xs H Q => ∃ a y ds d, x = V.ref a ∧ xs = [y] ∧ Dp K H (.ref a) (.tuple ds) ∧ Dp K H y d ∧ (PyData.plainAll ds = true ∧ d.plain = true ∧ PyData.depthAll ds ≤ 60) ∧ Q (.int ((ds.countP fun z => PyData.eqv z d : Nat) : Int)) H
theorem mt_tcount {X : Cx} (hu : X.A.units + 64 < cLine) : MtR X "tuple.count" (rTCnt X.K) := by
  intro pins s σ H x xs v us Q I rx rxs h
  obtain ⟨a, y, ds, d, rfl, rfl, ht, hy, ⟨h1, h2, h3⟩, q⟩ := h
  cases rx
  obtain ⟨u, rfl, ru⟩ := rxs.one
  obtain ⟨bs, r2⟩ := Dp.reads I d y u hy ru
  cases ht with
  | tup hs ha =>
    obtain ⟨its, rv, p, _⟩ := I.tuple hs
    obtain ⟨as, r1⟩ := Dp.readsAll I ds _ its ha rv
    exact PySem.SeqAt.count_tuple_data (show s.heap.IsTuple a its.toArray from p) (by simpa using r1) r2 h1 h2 (by omega) ⟨.int _, H, I.tok _, ⟨_, rfl⟩, q⟩
/-- a method of a new tuple -/
def wTMeth (f : D → BS) (o : DO) (wos : DA) : DE := fun s R => o s fun o1 s1 => (match resO s1 o1 with
  | some (.ftup _) => True
  | _ => False) ∧ wos s1 fun os s2 => match resO s2 o1, resOs s2 os with
  | some d, some ds => f d ds fun r => R r s2
  | _, _ => False
section
variable {K : PySem.W.Frag} {kp : List Nat} {σ : L2.St} {H : Hp} {De : Ends}
theorem lift_tmeth {r : V → List V → Hp → VK → Prop} {f : D → BS} (ok : LMOk K r f) {o : DO} {wos : DA} {Q : VK} (h : lift K (wTMeth f o wos) σ H Q) : tTM r (liftO K o) (liftA K wos) σ H Q := by
  obtain ⟨B, G, s, R, S, hw, k⟩ := h
  refine ⟨B, G, s, _, S, hw, fun o1 s1 G1 H1 v S1 sm1 r1 q1 => ?_⟩
  obtain ⟨q0, q1⟩ := q1
  have ty : tyF v H1 := by
    split at q0
    · rename_i xs e
      obtain ⟨a, vs, rfl, ⟨o', h2, hd⟩, _⟩ := r1.top S1 e
      exact ⟨a, o', vs, rfl, S1.gH _ _ h2, hd⟩
    · exact q0.elim
  refine ⟨ty, B, G1, s1, _, S1, q1, fun os s2 G2 H2 vs S2 sm2 r2 q2 => ?_⟩
  split at q2
  · rename_i d ds e1 e2
    exact ok G2 H2 d v ds vs _ _ S2.gH ((r1.mono sm2).top S2 e1) (r2.tops S2 e2) q2 fun res v G' H' g n q => k res s2 G' H' v (S2.grow g) ((sm1.trans sm2).trans g.g) (S2.res g n) q
  · exact q2.elim
def countD : D → BS
  | .ftup xs, [y], R => (match toPs xs, toP y with
    | some ps, some p => (PyData.plainAll ps = true ∧ p.plain = true ∧ PyData.depthAll ps ≤ 60) ∧ R (.sh (.int ((ps.countP fun z => PyData.eqv z p : Nat) : Int)))
    | _, _ => False)
  | _, _, _ => False
theorem countD_ok : LMOk K (rTCnt K) countD := by
  intro G H d x ds vs R Q sm tx ts h k
  unfold countD at h
  split at h
  · rename_i xs y
    split at h
    · rename_i ps p e1 e2
      obtain ⟨v, rfl, hv⟩ := tops1 ts
      have t2 : Top K G H (.ftup xs) x := tx
      obtain ⟨a, us, rfl, _⟩ := tx
      exact ⟨a, v, ps, p, rfl, rfl, Top.dp sm (d := .ftup xs) (by show (toPs xs).map _ = _; rw [e1]; rfl) t2, Top.dp sm e2 hv, h.1, ret_sh sm k (d := .int _) rfl h.2⟩
    · exact h.elim
  · exact h.elim
/-- name += e, whole numbers -/
def wAug (i : Nat) (w : DE) : DS := fun N s => match s[i]? with
  | some (.sh (.int a)) => w s fun r s1 => (match frz r with
    | .int b => N.nx (s1.set i (.sh (.int (a + b))))
    | _ => False)
  | _ => False
theorem lift_aug {i : Nat} {w : DE} (hi : i ∉ kp) (h : liftS K kp (wAug i w) De σ H) : tAug i (lift K w) (ipI fun i j => i + j) De σ H := by
  obtain ⟨B, G, s, N, pn, S, hp, p, hw, e⟩ := h
  unfold wAug at hw
  split at hw
  · rename_i a q
    obtain ⟨v, h1, h2⟩ := S.sh i _ q
    cases (show v = .int a from h2)
    refine ⟨.int a, h1, B, G, s, _, S, hw, fun r s' G' H' v S' sm rr q => ?_⟩
    obtain ⟨G2, S2, sm2, rep⟩ := rr.freeze S'
    split at q
    · rename_i b eb
      rw [eb] at rep
      cases (show v = .int b from rep)
      refine ⟨a, b, rfl, rfl, ?_⟩
      have rz : RRep K B G2 H' s' σ (.sh (.int (a + b))) (.int (a + b)) := rfl
      refine e.nx _ G2 _ H' (S2.set rz i) (sm.trans sm2) (p.keep fun z hz => ?_) q
      have ne : i ≠ z.1 := fun y => hi (by rw [y]; exact hp z hz)
      exact List.getElem?_set_ne ne
    · exact q.elim
  · exact hw.elim
end
end DL

namespace DL
variable [TB]
open PySem PySem.Spec PyProof.Rows L2
/-! ### comprehensions of two clauses -/
def lc2Go (tg : Tg) (own : List Nat) (tt : DT) (it1 : DI) (tg1 : Tg) (own1 : List Nat) (tt1 : DT) (el : DE) : List D → DSt → (List D → DSt → Prop) → Prop
  | [], s, R => R [] s
  | d :: ds, s, R => match bindTg tg d s with
    | none => False
    | some s1 => tt s1 fun b s2 => if b = true then it1 s2 fun items1 s3 => items1.length ≤ 4096 ∧ lcGo tg1 own1 tt1 el items1 (wipeS s3 own1) fun rs s4 => lc2Go tg own tt it1 tg1 own1 tt1 el ds (wipeS s4 own) fun rest s5 => R (rs ++ rest) s5
      else lc2Go tg own tt it1 tg1 own1 tt1 el ds (wipeS s2 own) R
def wLc2 (it : DI) (tg : Tg) (own : List Nat) (tt : DT) (it1 : DI) (tg1 : Tg) (own1 : List Nat) (tt1 : DT) (el : DE) : DE := fun s R => it s fun items s1 => (items.length ≤ 4096 ∧ noOw s1 own = true) ∧
  lc2Go tg own tt it1 tg1 own1 tt1 el items (wipeS s1 own) fun rs s2 => R (.ow (.lst rs)) (restore own s1 s2)
section
variable {K : PySem.W.Frag}
theorem lift_lc2 {it : DI} {tg : Tg} {own : List Nat} {tt : DT} {it1 : DI} {tg1 : Tg} {own1 : List Nat} {tt1 : DT} {el : DE} (hs : ∀ j ∈ slotsTg tg, j ∈ own) (hs1 : ∀ j ∈ slotsTg tg1, j ∈ own1) (ho : ∀ j ∈ own1, j ∈ own) {σ : L2.St} {H : Hp} {Q : VK}
    (h : lift K (wLc2 it tg own tt it1 tg1 own1 tt1 el) σ H Q) : tLc2 (liftI K it) (gT K tg) (liftT K tt) (liftI K it1) (gT K tg1) (liftT K tt1) (lift K el) own own1 σ H Q := by
  obtain ⟨B, G, s, R, S, hw, k⟩ := h
  refine ⟨B, G, s, _, S, hw, fun items s1 G1 H1 J S1 sm1 ok q1 => ?_⟩
  obtain ⟨⟨hlen, hno⟩, q1⟩ := q1
  intro Da hD
  have bD : B Da = none := free_of S1.bH hD
  have S1w : StRep K (upd B Da (.lst [])) G1 (wipeS s1 own) (wipe σ own) (upd H1 Da (.lst [])) := (S1.wipe own).guard hD
  let goO := lc2Go tg own tt it1 tg1 own1 tt1 el
  let InvO : Nat → Hp → Prop := fun i H' => ∃ (acc : List V) (ad : List D) (s' : DSt) (G' : Hp), StRep K (upd B Da (.lst acc)) G' s' (wipe σ own) H' ∧ Same G1 G' ∧ Reps K G' ad acc ∧ ad.length ≤ i * 4096 ∧
    goO (items.drop i) s' (fun rs s4 => R (.ow (.lst (ad ++ rs))) (DL.restore own s1 s4))
  refine ⟨fun i m H' => m = items.length - i ∧ i ≤ items.length ∧ InvO i H', ⟨items.length, by simp, Nat.zero_le _, [], [], _, G1, S1w, .refl _, rfl, Nat.zero_le _, q1⟩, ?_⟩
  rintro i m H' ⟨rfl, hi, acc, ad, s', G', S', sm', ra, hl, go⟩
  by_cases hlt : i < items.length
  · refine .inr ⟨ok.go i H' (sm'.trans S'.gH) hlt, InvO (i + 1), fun H2 p => ⟨items.length - (i + 1), by omega, rfl, hlt, p⟩, fun x H2 y => ?_⟩
    rw [List.drop_eq_getElem_cons hlt] at go
    obtain ⟨G2, g2, rx⟩ := ok.yl i G' H' x H2 items[i] sm' S'.gH y (List.getElem?_eq_getElem hlt)
    have S2 := S'.grow g2
    change lc2Go tg own tt it1 tg1 own1 tt1 el _ _ _ at go
    unfold lc2Go at go
    split at go
    · exact go.elim
    · rename_i s3 eb
      refine bind_ok tg _ s' s3 _ x _ eb S2 rx fun σ3 S3 l3 f3 => ?_
      have ew : wipe σ3 own = wipe σ own := (wipe_eq l3 fun j hj => f3 j fun z => hj (hs j z)).trans wipe_wipe
      refine ⟨by rw [ew], ?_⟩
      refine ⟨_, G2, s3, _, S3, go, fun b s4 G4 H4 S4 sm4 q4 => ?_⟩
      cases b with
      | false =>
        refine iteF ⟨acc, ad, wipeS s4 own, G4, ?_, (sm'.trans g2.g).trans sm4, Reps.mono (g2.g.trans sm4) _ _ ra, Nat.le_trans hl (Nat.mul_le_mul_right _ (Nat.le_succ i)), ?_⟩
        · rw [← ew]; exact S4.wipe own
        · simpa using q4
      | true =>
        refine iteT ⟨_, G4, s4, _, S4, (by simpa using q4), fun items1 s5 G5 H5 J1 S5 sm5 ok1 q5 => ?_⟩
        obtain ⟨hlen1, q5⟩ := q5
        have sm15 : Same G1 G5 := ((sm'.trans g2.g).trans sm4).trans sm5
        let InvI : Nat → Hp → Prop := fun j H' => ∃ (acc : List V) (ad : List D) (s' : DSt) (G' : Hp), StRep K (upd B Da (.lst acc)) G' s' (wipe σ3 own1) H' ∧ Same G5 G' ∧ Reps K G' ad acc ∧ ad.length ≤ i * 4096 + j ∧
          lcGo tg1 own1 tt1 el (items1.drop j) s' fun rs s4 => goO (items.drop (i + 1)) (wipeS s4 own) fun rest s5 => R (.ow (.lst (ad ++ (rs ++ rest)))) (DL.restore own s1 s5)
        refine ⟨fun j k H' => k = items1.length - j ∧ j ≤ items1.length ∧ InvI j H', ⟨items1.length, by simp, Nat.zero_le _, acc, ad, wipeS s5 own1, G5, S5.wipe own1, .refl _, Reps.mono ((g2.g.trans sm4).trans sm5) _ _ ra, hl, q5⟩, ?_⟩
        rintro j k2 H6 ⟨rfl, hj, acc2, ad2, s6, G6, S6, sm6, ra2, hl2, go2⟩
        by_cases hjt : j < items1.length
        · refine .inr ⟨ok1.go j H6 (sm6.trans S6.gH) hjt, InvI (j + 1), fun H2 p => ⟨items1.length - (j + 1), by omega, rfl, hjt, p⟩, fun x1 H7 y1 => ?_⟩
          rw [List.drop_eq_getElem_cons hjt] at go2
          obtain ⟨G7, g7, rx7⟩ := ok1.yl j G6 H6 x1 H7 items1[j] sm6 S6.gH y1 (List.getElem?_eq_getElem hjt)
          have S7 := S6.grow g7
          unfold lcGo at go2
          split at go2
          · exact go2.elim
          · rename_i s8 eb8
            refine bind_ok tg1 _ s6 s8 _ x1 _ eb8 S7 rx7 fun σ8 S8 l8 f8 => ?_
            have ew8 : wipe σ8 own1 = wipe σ3 own1 := (wipe_eq l8 fun j hj => f8 j fun z => hj (hs1 j z)).trans wipe_wipe
            refine ⟨by rw [ew8], ?_⟩
            refine ⟨_, G7, s8, _, S8, go2, fun b s9 G9 H9 S9 sm9 q9 => ?_⟩
            cases b with
            | false =>
              refine iteF ⟨acc2, ad2, wipeS s9 own1, G9, ?_, (sm6.trans g7.g).trans sm9, Reps.mono (g7.g.trans sm9) _ _ ra2, Nat.le_succ_of_le hl2, ?_⟩
              · rw [← ew8]; exact S9.wipe own1
              · simpa using q9
            | true =>
              refine iteT ⟨_, G9, s9, _, S9, (by simpa using q9), fun r s10 G10 H10 v S10 sm10 r10 q10 => ?_⟩
              obtain ⟨G11, S11, sm11, rep⟩ := r10.freeze S10
              have sm16 : Same G6 G11 := ((g7.g.trans sm9).trans sm10).trans sm11
              have rl : acc2.length = ad2.length := ra2.length
              have hz : acc2.length < sizeLine := by
                have : i * 4096 + j < 4096 * 4096 := by
                  have := Nat.mul_le_mul_right 4096 (show i + 1 ≤ 4096 by omega)
                  rw [Nat.succ_mul] at this
                  omega
                exact Nat.lt_of_lt_of_le (show acc2.length < 4096 * 4096 by omega) (by decide)
              refine ⟨acc2, S10.bH _ _ upd_same, hz, acc2 ++ [v], ad2 ++ [frz r], wipeS s10 own1, G11, ?_, sm6.trans sm16, (Reps.mono sm16 _ _ ra2).append (.cons rep rfl), by rw [List.length_append]; exact Nat.succ_le_succ hl2, ?_⟩
              · rw [← ew8]; exact (S11.bupd (o' := .lst (acc2 ++ [v]))).wipe own1
              · simpa using q10
        · have e : j = items1.length := by omega
          subst e
          refine .inl ⟨ok1.st H6 (sm6.trans S6.gH), ?_⟩
          rw [List.drop_length] at go2
          refine ⟨acc2, ad2, wipeS s6 own, G6, ?_, sm15.trans sm6, ra2, ?_, by simpa [lcGo] using go2⟩
          · have ew2 : wipe (wipe σ3 own1) own = wipe σ own := (wipe_eq (by rw [wipe_length]) fun j hj => wipe_out fun z => hj (ho j z)).trans ew
            rw [← ew2]
            exact S6.wipe own
          · rw [Nat.succ_mul]; omega
  · have e : i = items.length := by omega
    subst e
    refine .inl ⟨ok.st H' (sm'.trans S'.gH), ?_⟩
    rw [List.drop_length] at go
    have Su := S'.unguard bD
    have Sr := S1.restore sm' hno Su
    refine k (.ow (.lst ad)) _ G' H' (.ref Da) Sr (sm1.trans sm') ⟨Da, _, rfl, ?_, bD, S'.bH _ _ upd_same, ⟨Da, acc, rfl, S'.bH _ _ upd_same, ra⟩, rfl, fun j d e => ?_⟩ (by simpa [goO, lc2Go] using go)
    · exact S'.dj Da _ upd_same
    · intro z
      by_cases hj : j ∈ own
      · have hl2 : j < s'.length := by have := getElem?_lt e; rw [restore_len] at this; exact this
        rw [restore_in hj hl2] at e
        have zz := List.all_eq_true.mp hno j hj
        cases q : s1[j]? with
        | none => rw [q] at e; cases e
        | some y => rw [q] at e; rw [q] at zz; cases e; cases zz
      · rw [restore_out hj] at e
        obtain ⟨p, u, h1, h2, h3, _⟩ := S'.ow j d e
        rw [wipe_out hj] at h1
        rw [z] at h1
        cases h1
        rw [upd_same] at h3
        cases h3
/-! ### sorted(set(e)), tuples of ints -/
def tupI (r : List Int) : D := .tup (r.map .int)
def srsR (xs : List D) (R : Sl → Prop) : Prop := ∃ (rows : List (List Int)) (d : Nat) (B : Int), xs = rows.map tupI ∧ rows.length < 64 ∧ 1 ≤ d ∧ (∀ r ∈ rows, r.length = d ∧ TS.Bd B r) ∧
  ∀ out : List (List Int), out.Nodup → (∀ r, r ∈ out ↔ r ∈ rows) → out.Pairwise (fun q r => TS.code B q ≤ TS.code B r) → R (.ow (.lst (out.map tupI)))
def srsS (d : D) (R : Sl → Prop) : Prop := match seqOf d with
  | some xs => srsR xs R
  | none => False
mutual
def nkD : NestedKey → D
  | .none => .non
  | .num i => .int i
  | .text z => .str z
  | .tup ks => .tup (nkDs ks)
def nkDs : List NestedKey → List D
  | [] => []
  | k :: ks => nkD k :: nkDs ks
end
mutual
theorem nkD_toP : ∀ k : NestedKey, toP (nkD k) = some k.data
  | .none => rfl
  | .num _ => rfl
  | .text _ => rfl
  | .tup ks => by
    show (toPs (nkDs ks)).map PyData.tuple = _
    rw [nkDs_toPs ks]; rfl
theorem nkDs_toPs : ∀ ks : List NestedKey, toPs (nkDs ks) = some (NestedKey.datas ks)
  | [] => rfl
  | k :: ks => by
    show (match toP (nkD k), toPs (nkDs ks) with | some p, some ps => some (p :: ps) | _, _ => none) = _
    rw [nkD_toP k, nkDs_toPs ks]; rfl
end
theorem nkD_toPD (k : NestedKey) : toPD (nkD k) = k.data := by unfold toPD; rw [nkD_toP]; rfl
mutual
theorem nk_depth : ∀ k : NestedKey, k.data.depth = k.depth
  | .none => rfl
  | .num _ => rfl
  | .text _ => rfl
  | .tup ks => by
    show PyData.depthAll (NestedKey.datas ks) + 1 = NestedKey.depthAll ks + 1
    rw [nks_depth ks]
theorem nks_depth : ∀ ks : List NestedKey, PyData.depthAll (NestedKey.datas ks) = NestedKey.depthAll ks
  | [] => rfl
  | k :: ks => by
    show max (PyData.depth k.data) (PyData.depthAll (NestedKey.datas ks)) = max k.depth (NestedKey.depthAll ks)
    rw [nk_depth k, nks_depth ks]
end
def srnR (xs : List D) (R : Sl → Prop) : Prop := ∃ (g : NestedKey → D) (ks : List NestedKey), (∀ k, toP (g k) = some k.data) ∧ xs = ks.map g ∧ ks.length < 64 ∧ (∀ k ∈ ks, (∃ ys, g k = .tup ys) ∧ k.depth ≤ 8) ∧
  ∀ out : List NestedKey, out.Nodup → (∀ k, k ∈ out ↔ k ∈ ks) → SrtOk (out.map NestedKey.data) ∧ R (.ow (.lst (sortD (out.map g))))
def srnS (d : D) (R : Sl → Prop) : Prop := match d with
  | .lst xs => srnR xs R
  | _ => False
def wSrs (a : DE) : DE := fun s R => a s fun r s1 => (srsS (frz r) fun r => R r s1) ∨ srnS (frz r) fun r => R r s1
theorem reps_nk {G : Hp} {g : NestedKey → D} : ∀ {ks : List NestedKey} {vs : List V}, (∀ k ∈ ks, ∃ ys, g k = .tup ys) → Reps K G (ks.map g) vs → ∃ rs : List Nr, vs = rs.map nref ∧ rs.map (·.2) = ks ∧ ∀ r ∈ rs, Rep K G (g r.2) (.ref r.1)
  | [], vs, _, h => by rw [show vs = [] from h]; exact ⟨[], rfl, rfl, fun p hp => by cases hp⟩
  | k :: ks, vs, ht, h => by
    obtain ⟨v, rest, rfl, h1, h3⟩ := h
    obtain ⟨rs, rfl, e2, e3⟩ := reps_nk (fun k m => ht k (.tail _ m)) h3
    obtain ⟨ys, e⟩ := ht k (.head _)
    have h1' := h1
    rw [e] at h1
    obtain ⟨a, us, rfl, h4⟩ := h1
    exact ⟨(a, k) :: rs, rfl, by rw [List.map_cons, e2], fun p hp => by
      rcases List.mem_cons.mp hp with rfl | hp
      · exact h1'
      · exact e3 p hp⟩
theorem nk_reps {G : Hp} {g : NestedKey → D} : ∀ (rs : List Nr), (∀ r ∈ rs, Rep K G (g r.2) (.ref r.1)) → Reps K G (rs.map fun r => g r.2) (rs.map nref)
  | [], _ => rfl
  | r :: rs, h => ⟨_, _, rfl, h r (.head _), nk_reps rs fun q m => h q (.tail _ m)⟩
theorem nsort_D {g : NestedKey → D} (hg : ∀ k, toP (g k) = some k.data) (M : List Nr) : sortD ((M.map (·.2)).map g) = (nsort M).map fun r => g r.2 := by
  have e : (fun r : Nr => toPD (g r.2)) = fun r => r.2.data := funext fun r => by unfold toPD; rw [hg]; rfl
  unfold sortD sortBy nsort
  rw [List.map_map, ← e]
  exact (PySem.W.sort_maps (r := PySem.W.dataLe false fun r : Nr => toPD (g r.2)) (s := PySem.W.dataLe false toPD) (fun r : Nr => g r.2) fun a _ b _ => rfl).symm
theorem reps_tupI {G : Hp} : ∀ {rows : List (List Int)} {vs : List V}, Reps K G (rows.map tupI) vs → ∃ ks : List (Addr × List Int), vs = ks.map (fun p => V.ref p.1) ∧ ks.map (·.2) = rows ∧ ∀ p ∈ ks, SqT K G p.1 (p.2.map V.int)
  | [], vs, h => by rw [show vs = [] from h]; exact ⟨[], rfl, rfl, fun p hp => by cases hp⟩
  | r :: rows, vs, h => by
    obtain ⟨v, rest, rfl, ⟨a, us, rfl, h1, h2⟩, h3⟩ := h
    obtain ⟨ks, rfl, e2, e3⟩ := reps_tupI h3
    rw [Reps.ints.mp h2] at h1
    exact ⟨(a, r) :: ks, rfl, by rw [List.map_cons, e2], fun p hp => by
      rcases List.mem_cons.mp hp with rfl | hp
      · exact h1
      · exact e3 p hp⟩
theorem tupI_reps {G : Hp} : ∀ (ks : List (Addr × List Int)), (∀ p ∈ ks, SqT K G p.1 (p.2.map V.int)) → Reps K G ((ks.map (·.2)).map tupI) (ks.map fun p => V.ref p.1)
  | [], _ => rfl
  | p :: ks, h => ⟨_, _, rfl, ⟨p.1, p.2.map V.int, rfl, h p (.head _), Reps.ints.mpr rfl⟩, tupI_reps ks fun q m => h q (.tail _ m)⟩
def tSrs (P : Program) (w : World) (te : TE) : TE := tCB (rSortedE K P w) (tCons (tCB (rSetE K P w) (tCons te tNil)) tNil)
theorem lift_srs {P : Program} {w : World} {a : DE} {σ : L2.St} {H : Hp} {Q : VK} (h : lift K (wSrs a) σ H Q) : tSrs (K := K) P w (lift K a) σ H Q := by
  obtain ⟨B, G, s, R, S, hw, k⟩ := h
  refine ⟨B, G, s, _, S, hw, fun r s1 G1 H1 v S1 sm1 r1 q1 => ?_⟩
  obtain ⟨G2, S2, sm2, rep⟩ := r1.freeze S1
  rcases q1 with q1 | q1
  · unfold srsS at q1
    split at q1
    · rename_i xs e
      obtain ⟨rows, d, B', rfl, hf, hd, hb, hR⟩ := q1
      obtain ⟨l, vs, rfl, y1, y2⟩ := seqOf_ok S2.gH e (Rep.top S2.gH rep)
      obtain ⟨ks, rfl, e2, e3⟩ := reps_tupI y2
      have e4 : ∀ p ∈ ks, SqT K H1 p.1 (p.2.map V.int) := fun p hp => Same.tup S2.gH (e3 p hp)
      refine .inl ⟨l, ks, rfl, y1, e4, by rw [← e2, List.length_map] at hf; exact hf, fun a' L na h1 h2 => ?_⟩
      have up : ∀ {b : Addr} {o : HO}, H1 b = some o → (upd H1 a' (L2.SetTO P w a' L)) b = some o := fun {b o} q => by rw [upd_ne (ne_of_none q na)]; exact q
      refine .inl ⟨a', L, d, B', rfl, upd_same, fun p hp => Same.tup (fun b o q => up q) (e4 p (h1 p hp)), hd, fun p hp => hb p.2 (by rw [← e2]; exact List.mem_map_of_mem (h1 p hp)), fun L' p pm nd hl so hp => ?_⟩
      have hin : ∀ q ∈ L', q ∈ ks := fun q hq => h1 q (pm.mem_iff.mp hq)
      have hp1 : H1 p = none := by
        cases q : H1 p with
        | none => rfl
        | some o => rw [up q] at hp; cases hp
      have g : Gr G2 H1 G2 (upd (upd H1 a' (L2.SetTO P w a' L)) p (.lst (L'.map fun q => V.ref q.1))) :=
        ⟨.refl _, fun b o q => (by rw [upd_ne (ne_of_none q hp1)]; exact up q), fun b o q => (by have := S2.gH b o q; rw [upd_ne (ne_of_none this hp1)]; exact up this), fun b o q => .inl ⟨o, q⟩, fun _ _ q => q⟩
      refine k (.ow (.lst ((L'.map (·.2)).map tupI))) s1 G2 _ (.ref p) (S2.grow g) (sm1.trans sm2) (S2.res g (show NRep K G2 _ H1 (.ow (.lst ((L'.map (·.2)).map tupI))) (.ref p) from ⟨p, _, rfl, hp1, free_of S2.gH hp1, upd_same, ⟨p, _, rfl, upd_same, tupI_reps L' fun q hq => e3 q (hin q hq)⟩, rfl⟩)) ?_
      refine hR _ nd (fun r => ⟨fun hr => ?_, fun hr => ?_⟩) (List.pairwise_map.mpr so)
      · obtain ⟨q, hq, rfl⟩ := List.mem_map.mp hr
        rw [← e2]
        exact List.mem_map_of_mem (hin q hq)
      · rw [← e2] at hr
        obtain ⟨q, hq, rfl⟩ := List.mem_map.mp hr
        obtain ⟨z, hz, e5⟩ := List.mem_map.mp (h2 q hq)
        rw [← e5]
        exact List.mem_map_of_mem (pm.mem_iff.mpr hz)
    · exact q1.elim
  · unfold srnS at q1
    split at q1
    · rename_i xs e
      obtain ⟨g, ks, hg, rfl, hf, hk, hR⟩ := q1
      rw [e] at rep
      obtain ⟨l, vs, rfl, y1, y2⟩ := rep
      obtain ⟨rs, rfl, e2, e3⟩ := reps_nk (fun k m => (hk k m).1) y2
      have e4 : ∀ r ∈ rs, KeyAt K H1 r := fun r m => ⟨Rep.dp S2.gH _ _ _ (hg r.2) (e3 r m), (hk r.2 (by rw [← e2]; exact List.mem_map_of_mem m)).2⟩
      refine .inr ⟨l, rs, rfl, .of (S2.gH _ _ y1), e4, by rw [← e2, List.length_map] at hf; exact hf, fun a' L na h1 h2 => ?_⟩
      have up : ∀ {b : Addr} {o : HO}, H1 b = some o → (upd H1 a' (NO w a' L)) b = some o := fun {b o} q => by rw [upd_ne (ne_of_none q na)]; exact q
      have sm4 : Same G2 (upd H1 a' (NO w a' L)) := fun b o q => up (S2.gH b o q)
      have key : ∀ M : List Nr, M.Perm L → (L.map (·.2)).Nodup → SrtOk ((M.map (·.2)).map NestedKey.data) ∧ R (.ow (.lst (sortD ((M.map (·.2)).map g)))) s1 := fun M pm nd => by
        refine hR _ ((pm.map (·.2)).nodup_iff.mpr nd) fun k => ⟨fun hm => ?_, fun hm => ?_⟩
        · obtain ⟨r, hr, rfl⟩ := List.mem_map.mp hm
          rw [← e2]
          exact List.mem_map_of_mem (h1 r (pm.mem_iff.mp hr))
        · rw [← e2] at hm
          obtain ⟨r, hr, rfl⟩ := List.mem_map.mp hm
          obtain ⟨z, hz, e5⟩ := List.mem_map.mp (h2 r hr)
          rw [← e5]
          exact List.mem_map_of_mem (pm.mem_iff.mpr hz)
      refine .inr ⟨a', L, rfl, upd_same, fun r m => ⟨⟨Rep.dp sm4 _ _ _ (hg r.2) (e3 r (h1 r m)), (e4 r (h1 r m)).2⟩, by have := (e4 r (h1 r m)).2; rw [nk_depth]; omega⟩, fun nd M pm => ?_⟩
      obtain ⟨so, hRM⟩ := key M pm nd
      rw [List.map_map] at so
      refine ⟨⟨so.al, so.so⟩, fun p hp => ?_⟩
      have hp1 : H1 p = none := by
        cases q : H1 p with
        | none => rfl
        | some o => rw [up q] at hp; cases hp
      have gr : Gr G2 H1 G2 (upd (upd H1 a' (NO w a' L)) p (.lst ((nsort M).map nref))) :=
        ⟨.refl _, fun b o q => (by rw [upd_ne (ne_of_none q hp1)]; exact up q), fun b o q => (by have := S2.gH b o q; rw [upd_ne (ne_of_none this hp1)]; exact up this), fun b o q => .inl ⟨o, q⟩, fun _ _ q => q⟩
      have hin : ∀ q ∈ nsort M, q ∈ rs := fun q hq => h1 q (pm.mem_iff.mp ((List.mergeSort_perm _ _).mem_iff.mp hq))
      rw [nsort_D hg] at hRM
      exact k (.ow (.lst ((nsort M).map fun r => g r.2))) s1 G2 _ (.ref p) (S2.grow gr) (sm1.trans sm2) (S2.res gr (show NRep K G2 _ H1 (.ow (.lst ((nsort M).map fun r => g r.2))) (.ref p) from ⟨p, _, rfl, hp1, free_of S2.gH hp1, upd_same, ⟨p, _, rfl, upd_same, nk_reps _ fun q hq => e3 q (hin q hq)⟩, rfl⟩)) hRM
    · exact q1.elim
end
end DL

namespace DL
variable [TB]
open PySem PySem.Spec PyProof.Rows L2
/-! ### a comprehension over an owned list that stays owned -/
section
variable {K : PySem.W.Frag}
theorem StRep.hide {B G H : Hp} {s : DSt} {σ : L2.St} (S : StRep K B G s σ H) {i : Nat} {xs : List D} (h : s[i]? = some (.ow (.lst xs))) :
    ∃ a vs, σ[i]? = some (some (.ref a)) ∧ H a = some (.lst vs) ∧ Reps K G xs vs ∧ B a = none ∧ StRep K (upd B a (.lst vs)) G (s.set i .no) σ H := by
  obtain ⟨a, o, h1, h2, h3, h4, ⟨b, vs, e, h5, h6⟩, _⟩ := S.ow i _ h
  cases e
  rw [h4] at h5
  cases h5
  have off : ∀ {j : Nat} {x : Sl}, (s.set i .no)[j]? = some x → x ≠ .no → i ≠ j ∧ s[j]? = some x := fun {j x} q n => by
    by_cases hj : i = j
    · subst hj
      have hl := getElem?_lt q
      rw [List.length_set] at hl
      rw [List.getElem?_set_self hl] at q
      cases q
      exact absurd rfl n
    · rw [List.getElem?_set_ne hj] at q
      exact ⟨hj, q⟩
  refine ⟨a, vs, h1, h4, h6, h3, fun b u q => ?_, S.gH, fun b u q => ?_, S.tb.putB h4 (fun ps z => by cases z) (fun φ z => by cases z), by rw [List.length_set]; exact S.len, fun j d e => S.sh j d (off e (by intro z; cases z)).2, fun j d e => ?_, fun j k d e a hj hk => S.ap j k d e a (off hj (by intro z; cases z)).2 (off hk (by intro z; cases z)).2⟩
  · by_cases hb : b = a
    · subst hb; rw [upd_same] at q; cases q; exact h4
    · rw [upd_ne hb] at q; exact S.bH b u q
  · by_cases hb : b = a
    · subst hb; exact h2
    · rw [upd_ne hb] at q; exact S.dj b u q
  · obtain ⟨ne, e2⟩ := off e (by intro z; cases z)
    obtain ⟨p, u, y1, y2, y3, y4⟩ := S.ow j d e2
    have np : p ≠ a := fun z => by subst z; exact ne (S.ap i j _ _ _ h e2 h1 y1)
    exact ⟨p, u, y1, y2, by rw [upd_ne np]; exact y3, y4⟩
theorem StRep.unhide {B G H : Hp} {s : DSt} {σ : L2.St} {a : Addr} {vs : List V} {xs : List D} {i : Nat} (S : StRep K (upd B a (.lst vs)) G s σ H) (hb : B a = none) (h : σ[i]? = some (some (.ref a))) (r : Reps K G xs vs) : StRep K B G (s.set i (.ow (.lst xs))) σ H := by
  have S1 := S.unguard hb
  have e : σ.set i (some (.ref a)) = σ := by
    apply List.ext_getElem?
    intro j
    by_cases hj : i = j
    · subst hj; rw [List.getElem?_set_self (getElem?_lt h), h]
    · rw [List.getElem?_set_ne hj]
  have hH : H a = some (.lst vs) := S.bH a _ upd_same
  have := S1.set (r := .ow (.lst xs)) (v := .ref a) ⟨a, .lst vs, rfl, S.dj a _ upd_same, hb, hH, ⟨a, vs, rfl, hH, r⟩, rfl, fun j d hj z => ?_⟩ i
  · rw [e] at this; exact this
  · obtain ⟨p, u, y1, y2, y3, _⟩ := S.ow j d hj
    rw [z] at y1
    cases y1
    rw [upd_same] at y3
    cases y3
theorem StRep.hideP {B G H : Hp} {s : DSt} {σ : L2.St} (S : StRep K B G s σ H) {i : Nat} {xs : List D} {a : Addr} (h : s[i]? = some (.ow (.pin a xs))) :
    ∃ vs, σ[i]? = some (some (.ref a)) ∧ H a = some (.lst vs) ∧ Reps K G xs vs ∧ B a = none ∧ StRep K (upd B a (.lst vs)) G (s.set i .no) σ H := by
  obtain ⟨a9, o, h1, h2, h3, h4, ⟨e, vs, h5, h6⟩, _⟩ := S.ow i _ h
  cases e
  rw [h4] at h5
  cases h5
  have off : ∀ {j : Nat} {x : Sl}, (s.set i .no)[j]? = some x → x ≠ .no → i ≠ j ∧ s[j]? = some x := fun {j x} q n => by
    by_cases hj : i = j
    · subst hj
      have hl := getElem?_lt q
      rw [List.length_set] at hl
      rw [List.getElem?_set_self hl] at q
      cases q
      exact absurd rfl n
    · rw [List.getElem?_set_ne hj] at q
      exact ⟨hj, q⟩
  refine ⟨vs, h1, h4, h6, h3, fun b u q => ?_, S.gH, fun b u q => ?_, S.tb.putB h4 (fun ps z => by cases z) (fun φ z => by cases z), by rw [List.length_set]; exact S.len, fun j d e => S.sh j d (off e (by intro z; cases z)).2, fun j d e => ?_, fun j k d e a hj hk => S.ap j k d e a (off hj (by intro z; cases z)).2 (off hk (by intro z; cases z)).2⟩
  · by_cases hb : b = a
    · subst hb; rw [upd_same] at q; cases q; exact h4
    · rw [upd_ne hb] at q; exact S.bH b u q
  · by_cases hb : b = a
    · subst hb; exact h2
    · rw [upd_ne hb] at q; exact S.dj b u q
  · obtain ⟨ne, e2⟩ := off e (by intro z; cases z)
    obtain ⟨p, u, y1, y2, y3, y4⟩ := S.ow j d e2
    have np : p ≠ a := fun z => by subst z; exact ne (S.ap i j _ _ _ h e2 h1 y1)
    exact ⟨p, u, y1, y2, by rw [upd_ne np]; exact y3, y4⟩
theorem StRep.unhideP {B G H : Hp} {s : DSt} {σ : L2.St} {a : Addr} {vs : List V} {xs : List D} {i : Nat} (S : StRep K (upd B a (.lst vs)) G s σ H) (hb : B a = none) (h : σ[i]? = some (some (.ref a))) (r : Reps K G xs vs) : StRep K B G (s.set i (.ow (.pin a xs))) σ H := by
  have S1 := S.unguard hb
  have e : σ.set i (some (.ref a)) = σ := by
    apply List.ext_getElem?
    intro j
    by_cases hj : i = j
    · subst hj; rw [List.getElem?_set_self (getElem?_lt h), h]
    · rw [List.getElem?_set_ne hj]
  have hH : H a = some (.lst vs) := S.bH a _ upd_same
  have := S1.set (r := .ow (.pin a xs)) (v := .ref a) ⟨a, .lst vs, rfl, S.dj a _ upd_same, hb, hH, ⟨rfl, vs, hH, r⟩, rfl, fun j d hj z => ?_⟩ i
  · rw [e] at this; exact this
  · obtain ⟨p, u, y1, y2, y3, _⟩ := S.ow j d hj
    rw [z] at y1
    cases y1
    rw [upd_same] at y3
    cases y3
theorem RRep.unhide {B G H : Hp} {s : DSt} {σ : L2.St} {a : Addr} {o : HO} {i : Nat} {d : D} {v : V} {x : Sl} (hb : B a = none) (h : σ[i]? = some (some (.ref a))) (r : RRep K (upd B a o) G H s σ (.ow d) v) : RRep K B G H (s.set i x) σ (.ow d) v := by
  obtain ⟨p, u, rfl, y2, y3, y4, y5, y6, y7⟩ := r
  have np : p ≠ a := fun z => by subst z; rw [upd_same] at y3; cases y3
  refine ⟨p, u, rfl, y2, by rw [upd_ne np] at y3; exact y3, y4, y5, y6, fun j e hj z => ?_⟩
  by_cases ij : i = j
  · subst ij; rw [h] at z; cases z; exact np rfl
  · rw [List.getElem?_set_ne ij] at hj; exact y7 j e hj z
def wLcv (i : Nat) (tg : Tg) (own : List Nat) (tt : DT) (el : DE) : DE := fun s R => match s[i]? with
  | some (.ow (.lst xs)) => (xs.length ≤ sizeLine ∧ noOw (s.set i .no) own = true) ∧ lcGo tg own tt el xs (wipeS (s.set i .no) own) fun rs s2 => R (.ow (.lst rs)) ((restore own (s.set i .no) s2).set i (.ow (.lst xs)))
  | some (.sh (.gl a)) => ∃ j xs, s[j]? = some (.ow (.pin a xs)) ∧ (xs.length ≤ sizeLine ∧ noOw (s.set j .no) own = true) ∧ lcGo tg own tt el xs (wipeS (s.set j .no) own) fun rs s2 => R (.ow (.lst rs)) ((restore own (s.set j .no) s2).set j (.ow (.pin a xs)))
  | _ => wLc (wSeq' (wVar i)) tg own tt el s R
theorem lift_lcv {i : Nat} {tg : Tg} {own : List Nat} {tt : DT} {el : DE} (hs : ∀ j ∈ slotsTg tg, j ∈ own) {σ : L2.St} {H : Hp} {Q : VK} (h : lift K (wLcv i tg own tt el) σ H Q) : tLc (iSeq K (tVar i)) (gT K tg) (liftT K tt) (lift K el) own σ H Q := by
  obtain ⟨B0, G1, s0, R, S0, hw, k⟩ := h
  unfold wLcv at hw
  split at hw
  · rename_i items hi
    obtain ⟨⟨hlen, hno⟩, q1⟩ := hw
    obtain ⟨a, vs, v1, hH, rp, ba, S1⟩ := S0.hide hi
    refine ⟨.ref a, v1, .inl ⟨a, vs, rfl, .of hH, ?_⟩⟩
    generalize hB : upd B0 a (.lst vs) = B at S1
    have atB : B a = some (.lst vs) := by rw [← hB]; exact upd_same
    generalize s0.set i .no = s1 at S1 hno q1
    intro Da hD
    have bD : B Da = none := free_of S1.bH hD
    have S1w : StRep K (upd B Da (.lst [])) G1 (wipeS s1 own) (wipe σ own) (upd H Da (.lst [])) := (S1.wipe own).guard hD
    have nDa : a ≠ Da := fun z => by subst z; rw [atB] at bD; cases bD
    have inH : ∀ {acc : List V} {H' : Hp}, Same (upd B Da (.lst acc)) H' → SqL K H' a vs := fun {acc H'} sm => .of (sm a _ (by rw [upd_ne nDa]; exact atB))
    refine ⟨fun i m H' => m = items.length - i ∧ i ≤ items.length ∧ ∃ (acc : List V) (ad : List D) (s' : DSt) (G' : Hp), StRep K (upd B Da (.lst acc)) G' s' (wipe σ own) H' ∧ Same G1 G' ∧ Reps K G' ad acc ∧ ad.length ≤ i ∧
      lcGo tg own tt el (items.drop i) s' (fun rs s4 => R (.ow (.lst (ad ++ rs))) ((DL.restore own s1 s4).set _ (.ow (.lst items)))), ⟨items.length, by simp, Nat.zero_le _, [], [], _, G1, S1w, .refl _, rfl, Nat.le_refl _, q1⟩, ?_⟩
    rintro j m H' ⟨rfl, hi, acc, ad, s', G', S', sm', ra, hl, go⟩
    by_cases hlt : j < items.length
    · obtain ⟨v, ev, rv⟩ := rp.get (List.getElem?_eq_getElem hlt)
      refine .inr ⟨⟨vs, v, inH S'.bH, ev⟩, fun H2 => ∃ (acc : List V) (ad : List D) (s' : DSt) (G' : Hp), StRep K (upd B Da (.lst acc)) G' s' (wipe σ own) H2 ∧ Same G1 G' ∧ Reps K G' ad acc ∧ ad.length ≤ j + 1 ∧
        lcGo tg own tt el (items.drop (j + 1)) s' (fun rs s4 => R (.ow (.lst (ad ++ rs))) ((DL.restore own s1 s4).set _ (.ow (.lst items)))), fun H2 p => ⟨items.length - (j + 1), by omega, rfl, hlt, p⟩, fun x H2 y => ?_⟩
      rw [List.drop_eq_getElem_cons hlt] at go
      obtain ⟨rfl, y⟩ := y
      have ey := y vs (inH S'.bH)
      rw [ev] at ey
      cases ey
      have rx : Rep K G' items[j] v := Rep.mono sm' _ _ rv
      unfold lcGo at go
      split at go
      · exact go.elim
      · rename_i s3 eb
        refine bind_ok tg _ s' s3 _ v _ eb S' rx fun σ3 S3 l3 f3 => ?_
        have ew : wipe σ3 own = wipe σ own := (wipe_eq l3 fun j hj => f3 j fun z => hj (hs j z)).trans wipe_wipe
        refine ⟨by rw [ew], ?_⟩
        refine ⟨_, G', s3, _, S3, go, fun b s4 G4 H4 S4 sm4 q4 => ?_⟩
        cases b with
        | false =>
          refine iteF ⟨acc, ad, wipeS s4 own, G4, ?_, sm'.trans sm4, Reps.mono sm4 _ _ ra, Nat.le_succ_of_le hl, ?_⟩
          · rw [← ew]; exact S4.wipe own
          · simpa using q4
        | true =>
          refine iteT ⟨_, G4, s4, _, S4, (by simpa using q4), fun r s5 G5 H5 v S5 sm5 r5 q5 => ?_⟩
          obtain ⟨G6, S6, sm6, rep⟩ := r5.freeze S5
          have sm16 : Same G' G6 := (sm4.trans sm5).trans sm6
          have rl : acc.length = ad.length := ra.length
          refine ⟨acc, S5.bH _ _ upd_same, by omega, acc ++ [v], ad ++ [frz r], wipeS s5 own, G6, ?_, sm'.trans sm16, (Reps.mono sm16 _ _ ra).append (.cons rep rfl), by rw [List.length_append]; exact Nat.succ_le_succ hl, ?_⟩
          · rw [← ew]; exact (S6.bupd (o' := .lst (acc ++ [v]))).wipe own
          · simpa using q5
    · have e : j = items.length := by omega
      subst e
      refine .inl ⟨⟨vs, inH S'.bH, Nat.le_of_eq rp.length⟩, ?_⟩
      rw [List.drop_length] at go
      have Su := S'.unguard bD
      have Sr := S1.restore sm' hno Su
      rw [← hB] at Sr
      have rr : RRep K (upd B0 a (.lst vs)) G' H' (DL.restore own s1 s') σ (.ow (.lst ad)) (.ref Da) := by
        refine ⟨Da, _, rfl, S'.dj Da _ upd_same, by rw [hB]; exact bD, S'.bH _ _ upd_same, ⟨Da, acc, rfl, S'.bH _ _ upd_same, ra⟩, rfl, fun j d e => ?_⟩
        intro z
        by_cases hj : j ∈ own
        · have hl2 : j < s'.length := by have := getElem?_lt e; rw [restore_len] at this; exact this
          rw [restore_in hj hl2] at e
          have zz := List.all_eq_true.mp hno j hj
          cases q : s1[j]? with
          | none => rw [q] at e; cases e
          | some y => rw [q] at e; rw [q] at zz; cases e; cases zz
        · rw [restore_out hj] at e
          obtain ⟨p, u, h1, h2, h3, _⟩ := S'.ow j d e
          rw [wipe_out hj] at h1
          rw [z] at h1
          cases h1
          rw [upd_same] at h3
          cases h3
      exact k (.ow (.lst ad)) _ G' H' (.ref Da) (Sr.unhide ba v1 (Reps.mono sm' _ _ rp)) sm' (rr.unhide ba v1) (by simpa [lcGo] using go)
  · rename_i a hg
    obtain ⟨i2, items, hi, ⟨hlen, hno⟩, q1⟩ := hw
    obtain ⟨vs, v1, hH, rp, ba, S1⟩ := S0.hideP hi
    obtain ⟨vg, hv0, hvr⟩ := S0.sh i _ hg
    cases (show vg = .ref a from hvr)
    refine ⟨.ref a, hv0, .inl ⟨a, vs, rfl, .of hH, ?_⟩⟩
    generalize hB : upd B0 a (.lst vs) = B at S1
    have atB : B a = some (.lst vs) := by rw [← hB]; exact upd_same
    generalize s0.set i2 .no = s1 at S1 hno q1
    intro Da hD
    have bD : B Da = none := free_of S1.bH hD
    have S1w : StRep K (upd B Da (.lst [])) G1 (wipeS s1 own) (wipe σ own) (upd H Da (.lst [])) := (S1.wipe own).guard hD
    have nDa : a ≠ Da := fun z => by subst z; rw [atB] at bD; cases bD
    have inH : ∀ {acc : List V} {H' : Hp}, Same (upd B Da (.lst acc)) H' → SqL K H' a vs := fun {acc H'} sm => .of (sm a _ (by rw [upd_ne nDa]; exact atB))
    refine ⟨fun i m H' => m = items.length - i ∧ i ≤ items.length ∧ ∃ (acc : List V) (ad : List D) (s' : DSt) (G' : Hp), StRep K (upd B Da (.lst acc)) G' s' (wipe σ own) H' ∧ Same G1 G' ∧ Reps K G' ad acc ∧ ad.length ≤ i ∧
      lcGo tg own tt el (items.drop i) s' (fun rs s4 => R (.ow (.lst (ad ++ rs))) ((DL.restore own s1 s4).set _ (.ow (.pin a items)))), ⟨items.length, by simp, Nat.zero_le _, [], [], _, G1, S1w, .refl _, rfl, Nat.le_refl _, q1⟩, ?_⟩
    rintro j m H' ⟨rfl, hi, acc, ad, s', G', S', sm', ra, hl, go⟩
    by_cases hlt : j < items.length
    · obtain ⟨v, ev, rv⟩ := rp.get (List.getElem?_eq_getElem hlt)
      refine .inr ⟨⟨vs, v, inH S'.bH, ev⟩, fun H2 => ∃ (acc : List V) (ad : List D) (s' : DSt) (G' : Hp), StRep K (upd B Da (.lst acc)) G' s' (wipe σ own) H2 ∧ Same G1 G' ∧ Reps K G' ad acc ∧ ad.length ≤ j + 1 ∧
        lcGo tg own tt el (items.drop (j + 1)) s' (fun rs s4 => R (.ow (.lst (ad ++ rs))) ((DL.restore own s1 s4).set _ (.ow (.pin a items)))), fun H2 p => ⟨items.length - (j + 1), by omega, rfl, hlt, p⟩, fun x H2 y => ?_⟩
      rw [List.drop_eq_getElem_cons hlt] at go
      obtain ⟨rfl, y⟩ := y
      have ey := y vs (inH S'.bH)
      rw [ev] at ey
      cases ey
      have rx : Rep K G' items[j] v := Rep.mono sm' _ _ rv
      unfold lcGo at go
      split at go
      · exact go.elim
      · rename_i s3 eb
        refine bind_ok tg _ s' s3 _ v _ eb S' rx fun σ3 S3 l3 f3 => ?_
        have ew : wipe σ3 own = wipe σ own := (wipe_eq l3 fun j hj => f3 j fun z => hj (hs j z)).trans wipe_wipe
        refine ⟨by rw [ew], ?_⟩
        refine ⟨_, G', s3, _, S3, go, fun b s4 G4 H4 S4 sm4 q4 => ?_⟩
        cases b with
        | false =>
          refine iteF ⟨acc, ad, wipeS s4 own, G4, ?_, sm'.trans sm4, Reps.mono sm4 _ _ ra, Nat.le_succ_of_le hl, ?_⟩
          · rw [← ew]; exact S4.wipe own
          · simpa using q4
        | true =>
          refine iteT ⟨_, G4, s4, _, S4, (by simpa using q4), fun r s5 G5 H5 v S5 sm5 r5 q5 => ?_⟩
          obtain ⟨G6, S6, sm6, rep⟩ := r5.freeze S5
          have sm16 : Same G' G6 := (sm4.trans sm5).trans sm6
          have rl : acc.length = ad.length := ra.length
          refine ⟨acc, S5.bH _ _ upd_same, by omega, acc ++ [v], ad ++ [frz r], wipeS s5 own, G6, ?_, sm'.trans sm16, (Reps.mono sm16 _ _ ra).append (.cons rep rfl), by rw [List.length_append]; exact Nat.succ_le_succ hl, ?_⟩
          · rw [← ew]; exact (S6.bupd (o' := .lst (acc ++ [v]))).wipe own
          · simpa using q5
    · have e : j = items.length := by omega
      subst e
      refine .inl ⟨⟨vs, inH S'.bH, Nat.le_of_eq rp.length⟩, ?_⟩
      rw [List.drop_length] at go
      have Su := S'.unguard bD
      have Sr := S1.restore sm' hno Su
      rw [← hB] at Sr
      have rr : RRep K (upd B0 a (.lst vs)) G' H' (DL.restore own s1 s') σ (.ow (.lst ad)) (.ref Da) := by
        refine ⟨Da, _, rfl, S'.dj Da _ upd_same, by rw [hB]; exact bD, S'.bH _ _ upd_same, ⟨Da, acc, rfl, S'.bH _ _ upd_same, ra⟩, rfl, fun j d e => ?_⟩
        intro z
        by_cases hj : j ∈ own
        · have hl2 : j < s'.length := by have := getElem?_lt e; rw [restore_len] at this; exact this
          rw [restore_in hj hl2] at e
          have zz := List.all_eq_true.mp hno j hj
          cases q : s1[j]? with
          | none => rw [q] at e; cases e
          | some y => rw [q] at e; rw [q] at zz; cases e; cases zz
        · rw [restore_out hj] at e
          obtain ⟨p, u, h1, h2, h3, _⟩ := S'.ow j d e
          rw [wipe_out hj] at h1
          rw [z] at h1
          cases h1
          rw [upd_same] at h3
          cases h3
      exact k (.ow (.lst ad)) _ G' H' (.ref Da) (Sr.unhideP ba v1 (Reps.mono sm' _ _ rp)) sm' (rr.unhide ba v1) (by simpa [lcGo] using go)
  · have h := lift_lc (it := wSeq' (wVar i)) hs (⟨B0, G1, s0, R, S0, hw, k⟩ : lift K (wLc (wSeq' (wVar i)) tg own tt el) σ H Q)
    exact lift_var (lift_seq h)
/-- a name that stands for an owned list as well: the list's place is known from here on -/
def wAls (j : Nat) : DE := fun s R => match s[j]? with
  | some (.ow (.lst xs)) => ∀ a : Addr, R (.sh (.gl a)) (s.set j (.ow (.pin a xs)))
  | some (.ow (.pin a xs)) => R (.sh (.gl a)) s
  | _ => wVar j s R
theorem upd_self {H : Hp} {a : Addr} {o : HO} (h : H a = some o) : upd H a o = H := by
  funext b
  by_cases e : b = a
  · subst e; rw [upd_same, h]
  · rw [upd_ne e]
theorem lift_als {j : Nat} {σ : L2.St} {H : Hp} {Q : VK} (h : lift K (wAls j) σ H Q) : tVar j σ H Q := by
  obtain ⟨B, G, s, R, S, hw, k⟩ := h
  unfold wAls at hw
  split at hw
  · rename_i xs e
    obtain ⟨a, o, h1, h2, h3, h4, ⟨b, vs, e1, h5, h6⟩, _⟩ := S.ow j _ e
    cases e1
    have S2 := S.chg (d' := .pin a xs) (o' := .lst vs) e h1 rfl fun H' q => ⟨rfl, vs, q, h6⟩
    rw [upd_self h5] at S2
    exact ⟨.ref a, h1, k (.sh (.gl a)) _ G H (.ref a) S2 (.refl _) rfl (hw a)⟩
  · rename_i a xs e
    obtain ⟨b, o, h1, h2, h3, h4, ⟨e1, _⟩, _⟩ := S.ow j _ e
    cases e1
    exact ⟨.ref a, h1, k (.sh (.gl a)) _ G H (.ref a) S (.refl _) rfl hw⟩
  · exact lift_var ⟨B, G, s, R, S, hw, k⟩
end
end DL

namespace DL
variable [TB]
open PySem PySem.Spec PyProof.Rows L2
/-! ### the compact form -/
inductive E where
  | bad | non | bl (b : Bool) | int (i : Int) | str (s : Str)
  | var (i : Nat) | con (k : Nat)
  | bin (o : Operator) (a b : E) | neg (a : E) | nt (a : E) | and (a b : E) | or (a b : E)
  | cmp (o : CmpOp) (a b : E) | chn (o p : CmpOp) (a b c : E)
  | ite (t a b : E)
  | lst (es : List E) | tup (es : List E) | dct (ks vs : List E)
  | idx (a i : E) | slc (a lo hi : E)
  | lc (elt : E) (tg : Tg) (it : E) (ifs : List E) (own : List Nat)
  | rng (es : List E) | zip (es : List E) | enm (a : E)
  | call (k : Nat) (es kes : List E) | bor (i : Nat)
  | bi (k : Nat) (es : List E)
  | isi (a : E) (cs : List String)
  | mut (m : Str) (i : Nat) (es : List E)
  | meth (m : Str) (o : E) (es : List E)
  | rgv (t : Bool) (es : List E)
  | rev (a : E) | lmeth (m : Str) (o : E) (es : List E) | tmeth (m : Str) (o : E) (es : List E)
  | cmeth (k : Nat) (m : Str) (o : E) (es kes : List E)
  | attr (o : E) (f : Str)
  | srk (k : Nat) (a : E) | srl (a : E) (js : List Nat) (n : Nat) (body : E) | srs (a : E)
  | lc2 (elt : E) (tg : Tg) (it : E) (ifs : List E) (tg1 : Tg) (it1 : E) (ifs1 : List E) (own own1 : List Nat)
  | lcv (elt : E) (tg : Tg) (i : Nat) (ifs : List E) (own : List Nat)
  | als (j : Nat)
inductive S where
  | bad | pass | expr (e : E) | ret (e : E) | retv (i : Nat) | retN
  | set (i : Nat) (e : E) | aug (i : Nat) (e : E) | unp (t : Tg) (e : E) | par (i j : Nat) (a b : E)
  | sti (i : Nat) (ix e : E) | stf (i : Nat) (f : Str) (e : E)
  | ifs (t : E) (a b : List S) | for (t : Tg) (it : E) (b : List S) | whl (t : E) (b : List S) | brk | cnt
/-! ### its meaning -/
structure Sem where
  fs : Nat → FS
  bs : Nat → BS
  cv : Nat → D
  ms : Nat → Str → Option FS
  at_ : Str → Str → Bool
  kp : List Nat
  ky : Nat → FS := fun _ _ _ => False
def opd (e : E) (w : DE) : DO := match e with
  | .var i => varOp i
  | _ => asOp w
def muD (m : Str) (n : Nat) : MU := if m = "append" then mAppend else if m = "insert" then mInsert else if m = "pop" then (if n = 0 then mPop else mPopAt) else fun _ _ _ => False
def tmD (m : Str) : D → BS := if m = "count" then countD else fun _ _ _ => False
def strsOf : List D → Option (List Str)
  | [] => some []
  | .str b :: ds => (strsOf ds).map (b :: ·)
  | _ :: _ => none
def joinD : D → List D → (Sl → Prop) → Prop
  | .str a, [d], R => (match (seqOf d).bind strsOf with
    | some ys => (ys.map (·.length)).sum + ys.length * a.length ≤ 16777216 ∧ R (.sh (.str (Txt.join a ys)))
    | none => False)
  | _, _, _ => False
def methD (m : Str) : D → List D → (Sl → Prop) → Prop := if m = "join" then joinD else fun _ _ _ => False
def wMeth (m : Str) (o : DE) (wos : DSt → (List D → DSt → Prop) → Prop) : DE := fun s R => o s fun r s1 => match frz r with
  | .str z => wos s1 fun ds s2 => methD m (.str z) ds fun r' => R r' s2
  | _ => False
def wCall2 (n : Nat) (F : FS) (w1 w2 : DAv) : DE := fun s R => w1 s fun as s1 => as.length = n ∧ w2 s1 fun bs s2 => (bors (as ++ bs)).Nodup ∧ F ((as ++ bs).map (resA s2)) fun r args' => R r (wback (as ++ bs) args' s2)
def wCMeth (ms : Str → Option FS) (m : Str) (o : DE) (w1 w2 : DAv) : DE := fun s R => o s fun r s0 => match frz r with
  | .ins C ns vs => (match ms C with
    | some F => fldD m ns vs = none ∧ w1 s0 fun as s1 => w2 s1 fun bs s2 => (bors (as ++ bs)).Nodup ∧ F (.sh (.ins C ns vs) :: (as ++ bs).map (resA s2)) fun r args' => R r (wback (as ++ bs) (args'.drop 1) s2)
    | none => False)
  | _ => False
def wBad : DE := fun _ _ => False
/-- a slice's part -/
def partE (e : E) (w : DO) : DSt → (Option Int → DSt → Prop) → Prop := match e with
  | .bad => fun s R => R none s
  | _ => fun s R => w s fun o s1 => match resO s1 o with
    | some (.int i) => R (some i) s1
    | _ => False
def wSlc (a : DO) (lo hi : DSt → (Option Int → DSt → Prop) → Prop) : DE := fun s R => a s fun o s1 => lo s1 fun l s2 => hi s2 fun u s3 => match resO s3 o with
  | some d => slcD d l u fun r => R r s3
  | none => False
def wChn (f g : B2) (a b c : DO) : DE := fun s R => a s fun o1 s1 => b s1 fun o2 s2 => match resO s2 o1, resO s2 o2 with
  | some d1, some d2 => f d1 d2 fun r => (match r with
    | .sh (.bl k) => if k = true then c s2 fun o3 s3 => (match resO s3 o2, resO s3 o3 with
        | some d2', some d3 => g d2' d3 fun r' => R r' s3
        | _, _ => False) else R (.sh (.bl false)) s2
    | _ => False)
  | _, _ => False
/-- a display's keys and values, pair by pair -/
def keysOf : List D → Option (List Key)
  | [] => some []
  | d :: ds => match keyD d, keysOf ds with
    | some k, some ks => some (k :: ks)
    | _, _ => none
/-- a dict display's values, key by key -/
def pairD : List D → Option (List (Key × D))
  | [] => some []
  | k :: v :: r => (match keyD k, pairD r with
    | some k, some ps => some ((k, v) :: ps)
    | _, _ => none)
  | [_] => none
def wDct (w : DSt → (List D → DSt → Prop) → Prop) : DE := fun s R => w s fun ds s1 => match pairD ds with
  | some ps => (ps.length ≤ 15 ∧ (ps.map (·.1)).Nodup) ∧ R (.ow (.dic (ps.map (·.1)) (ps.map (·.2)))) s1
  | none => False
structure W3 where
  e : DE
  t : DT
  i : DI
def mk3 (x : E) (w : DE) : W3 := ⟨w, wTru (opd x w), wSeq' w⟩
def mkT (w : DE) (t : DT) : W3 := ⟨w, t, wSeq' w⟩
def mkI (i : DI) : W3 := ⟨wBad, fun _ _ => False, i⟩
mutual
def wX (M : Sem) : E → W3
  | .bad => mk3 .bad wBad
  | .non => mk3 .non (wC .non)
  | .bl b => mk3 (.bl b) (wC (.bl b))
  | .int i => mk3 (.int i) (wC (.int i))
  | .str s => mk3 (.str s) (wC (.str s))
  | .var i => mk3 (.var i) (wVar i)
  | .con k => mk3 (.con k) (wC (M.cv k))
  | .bin o a b => mk3 .bad (wOp (binD o) (opd a (wX M a).e) (opd b (wX M b).e))
  | .neg a => mk3 .bad (wUn negD (opd a (wX M a).e))
  | .nt a => mkT (wNotV (wX M a).e) (wNot (wX M a).t)
  | .and a b => mkT (wAndV (wX M a).e (wX M b).e) (wAnd (wX M a).t (wX M b).t)
  | .or a b => mkT (wOrV (wX M a).e (wX M b).e) (wOr (wX M a).t (wX M b).t)
  | .cmp o a b => mkT (wOp (cmpB o) (opd a (wX M a).e) (opd b (wX M b).e)) (wBool (wOp (cmpB o) (opd a (wX M a).e) (opd b (wX M b).e)))
  | .chn o p a b c => mkT (wChn (cmpB o) (cmpB p) (opd a (wX M a).e) (opd b (wX M b).e) (opd c (wX M c).e)) (wBool (wChn (cmpB o) (cmpB p) (opd a (wX M a).e) (opd b (wX M b).e) (opd c (wX M c).e)))
  | .ite t a b => mkT (wIte (wX M t).t (wX M a).e (wX M b).e) (fun _ _ => False)
  | .lst es => mk3 .bad (wLst (wVl M es))
  | .tup es => mk3 .bad (wTup (wVl M es))
  | .dct es _ => mk3 .bad (wDct (wVl M es))
  | .idx a i => mk3 .bad (wOp idxD (opd a (wX M a).e) (opd i (wX M i).e))
  | .slc a lo hi => mk3 .bad (wSlc (opd a (wX M a).e) (partE lo (opd lo (wX M lo).e)) (partE hi (opd hi (wX M hi).e)))
  | .lc elt tg it ifs own => mk3 .bad (match ifs with
    | [] => wLc (wX M it).i tg own (fun s Q => Q true s) (wX M elt).e
    | [c] => wLc (wX M it).i tg own (wX M c).t (wX M elt).e
    | _ => wBad)
  | .rng es => mkI (match es with
    | [a] => wRng1 (wCons (opd a (wX M a).e) wNil)
    | [a, b] => wRng2 (wCons (opd a (wX M a).e) (wCons (opd b (wX M b).e) wNil))
    | _ => fun _ _ => False)
  | .zip es => mkI (wZip (wVl M es))
  | .enm a => mkI (wEnm (wX M a).e)
  | .rgv t es => mk3 .bad (match es with
    | [a] => wUn (rg1D t) (opd a (wX M a).e)
    | [a, b] => wOp (rg2D t) (opd a (wX M a).e) (opd b (wX M b).e)
    | _ => wBad)
  | .rev a => mk3 .bad (wUn revD (opd a (wX M a).e))
  | .lmeth m o es => mk3 .bad (wLMeth (lmD m) (opd o (wX M o).e) (wOl M es))
  | .tmeth m o es => mk3 .bad (wTMeth (tmD m) (opd o (wX M o).e) (wOl M es))
  | .call k es kes => mk3 .bad (wCall2 es.length (M.fs k) (wAv M es) (wAv M kes))
  | .bor _ => mk3 .bad wBad
  | .bi k es => mk3 .bad (wFn (M.bs k) (wOl M es))
  | .isi a cs => mk3 .bad (wUn (isiD cs) (opd a (wX M a).e))
  | .mut m i es => mk3 .bad (wMut i (muD m es.length) (wVl M es))
  | .meth m o es => mk3 .bad (wMeth m (wX M o).e (wVl M es))
  | .cmeth k m o es kes => mk3 .bad (wCMeth (M.ms k) m (wX M o).e (wAv M es) (wAv M kes))
  | .attr o f => mk3 .bad (wUn (attrD M.at_ f) (opd o (wX M o).e))
  | .srk k a => mk3 .bad (wSrk (M.ky k) (opd a (wX M a).e))
  | .srl a js n body => mk3 .bad (wSrl (opd a (wX M a).e) js n (wX M body).e)
  | .srs a => mk3 .bad (wSrs (wX M a).e)
  | .lc2 elt tg it ifs tg1 it1 ifs1 own own1 => mk3 .bad (wLc2 (wX M it).i tg own (wTs M ifs) (wX M it1).i tg1 own1 (wTs M ifs1) (wX M elt).e)
  | .lcv elt tg i ifs own => mk3 .bad (wLcv i tg own (wTs M ifs) (wX M elt).e)
  | .als j => mk3 .bad (wAls j)
def wTs (M : Sem) : List E → DT
  | [] => fun s Q => Q true s
  | [c] => (wX M c).t
  | _ => fun _ _ => False
def wVl (M : Sem) : List E → DSt → (List D → DSt → Prop) → Prop
  | [] => wVNil
  | e :: es => wVCons (wX M e).e (wVl M es)
def wOl (M : Sem) : List E → DA
  | [] => wNil
  | e :: es => wCons (opd e (wX M e).e) (wOl M es)
def wAv (M : Sem) : List E → DAv
  | [] => wAvNil
  | e :: es => (match e with
    | .bor i => wAvBor i (wAv M es)
    | _ => wAvVal (wX M e).e (wAv M es))
end
abbrev wE (M : Sem) (e : E) : DE := (wX M e).e
abbrev wT (M : Sem) (e : E) : DT := (wX M e).t
abbrev wI (M : Sem) (e : E) : DI := (wX M e).i
example (M : Sem) (a b : E) : wE M (.lst [a, .int 3]) = wLst (wVCons (wE M a) (wVCons (wC (.int 3)) wVNil)) := rfl
mutual
def wS (M : Sem) : S → DS
  | .bad => fun _ _ => False
  | .pass => wNext
  | .expr e => wDrop (wE M e)
  | .ret e => wRet (wE M e)
  | .retv i => wRetV M.kp i
  | .retN => wRetN
  | .set i e => wSet i (wE M e)
  | .aug i e => wAug i (wE M e)
  | .unp t e => wUnp t (wE M e)
  | .par i j a b => wPar i j (wE M a) (wE M b)
  | .sti i ix e => wSti i (opd ix (wE M ix)) (wE M e)
  | .stf i f e => wStf M.at_ i f (wE M e)
  | .ifs t a b => wIf (wT M t) (wSs M a) (wSs M b)
  | .for t it b => wFor (wI M it) t (wSs M b)
  | .whl t b => wWhile (wT M t) (wSs M b)
  | .brk => wBrk
  | .cnt => wCnt
def wSs (M : Sem) : List S → DS
  | [] => wNext
  | st :: sts => wSq (wS M st) (wSs M sts)
end
end DL

namespace DL
variable [TB]
open PySem PySem.Spec PyProof.Rows L2
/-! ### the conversion -/
structure CC where
  N : List Str
  sc : Scope
  fsc : Option Scope := none
  lv : Nat
  kp : List Nat := []
  brw : List Nat := []
  calls : List (Str × Nat × List Str) := []
  bis : List (Str × Nat) := []
  cons : List Str := []
  meths : List (Str × Nat × List Str) := []
  keys : List Str := []
  lam : Bool := false
  ali : List Nat := []
  fr : List Str := []
def ixP {α : Type} (p : α → Bool) : List α → Option Nat
  | [] => none
  | x :: xs => if p x then some 0 else (ixP p xs).map (· + 1)
theorem ixP_ok {α : Type} {p : α → Bool} : ∀ {l : List α} {i : Nat}, ixP p l = some i → ∃ x, l[i]? = some x ∧ p x = true
  | [], i, h => by cases h
  | x :: xs, i, h => by
    unfold ixP at h
    by_cases c : p x = true
    · rw [if_pos c] at h; cases h; exact ⟨x, rfl, c⟩
    · rw [if_neg c] at h
      obtain ⟨j, e, rfl⟩ := map_some h
      obtain ⟨y, h1, h2⟩ := ixP_ok e
      exact ⟨y, by simpa using h1, h2⟩
def notStar : Expr → Bool
  | .Starred _ _ => false
  | _ => true
def isComp : Expr → Bool
  | .ListComp _ _ _ _ => true
  | .SetComp _ _ _ _ => true
  | .DictComp _ _ _ _ _ => true
  | _ => false
def isLC : Expr → Bool
  | .ListComp _ [⟨_, _, _, 0⟩] _ _ => true
  | _ => false
def isSet : Expr → Bool
  | .Set _ _ _ => true
  | _ => false
def isSlice : Expr → Bool
  | .Slice _ _ _ _ => true
  | _ => false
def baseOk : Expr → Bool
  | .Call (.Name id _) [] [] _ => !(id == ("super" : Str))
  | _ => true
def okName (x : Str) : Bool := !(x == ("__debug__" : Str)) && !(x == ("__classdict__" : Str)) && !(x == ("__name__" : Str))
def visB (sc : Scope) (x : Str) : Bool := match sc.names.lookup x with
  | some .local => true
  | some .cell => true
  | some .free => true
  | _ => false
def locB (sc : Scope) (x : Str) : Bool := match sc.names.lookup x with
  | some .local => true
  | some .cell => true
  | _ => false
def slot (C : CC) (x : Str) : Option Nat := if visB C.sc x && okName x then ixP (fun y => decide (y = x)) C.N else none
def glB (C : CC) (x : Str) : Bool := decide (C.sc.names.lookup x = some .globalImplicit) && okName x
def canSt (C : CC) (x : Str) : Bool := locB C.sc x && (match C.fsc with
  | none => true
  | some s => decide (s.names.lookup x = some .cell) || decide (C.sc.names.lookup x = some .local))
def slotSt (C : CC) (x : Str) : Option Nat := if canSt C x then ixP (fun y => decide (y = x)) C.N else none
def cConst : Const → E
  | .none => .non
  | .bool b => .bl b
  | .int i => .int i
  | .str s => .str s
  | _ => .bad
def cName (C : CC) (x : Str) : E := match slot C x with
  | some i => .var i
  | none => if glB C x then (match ixP (fun y => decide (y = x)) C.cons with
    | some k => .con k
    | none => .bad) else .bad
def andE : List E → E
  | [] => .bad
  | [a] => a
  | a :: as => .and a (andE as)
def orE : List E → E
  | [] => .bad
  | [a] => a
  | a :: as => .or a (orE as)
def isBad : E → Bool
  | .bad => true
  | _ => false
def slcE (a : E) (lo hi : Option E) : E := match lo, hi with
  | none, none => .slc a .bad .bad
  | some l, none => if isBad l then .bad else .slc a l .bad
  | none, some h => if isBad h then .bad else .slc a .bad h
  | some l, some h => if isBad l || isBad h then .bad else .slc a l h
/-- names of built-in types -/
def tyName (C : CC) : Expr → Option String
  | .Name x _ => if glB C x && decide (x ∈ C.fr) then (if x = "list" then some "list" else if x = "tuple" then some "tuple" else if x = "dict" then some "dict" else if x = "int" then some "int" else if x = "bool" then some "bool" else if x = "str" then some "str" else none) else none
  | _ => none
def tyNames (C : CC) : List Expr → Option (List String)
  | [] => some []
  | e :: es => match tyName C e, tyNames C es with
    | some t, some ts => some (t :: ts)
    | _, _ => none
def tyArg (C : CC) : Expr → Option (List String)
  | .Tuple es _ _ => if decide (es.length ≤ 1000) then tyNames C es else none
  | e => (tyName C e).map fun t => [t]
mutual
def cTg (C : CC) : Expr → Option Tg
  | .Name x _ => (slotSt C x).map .nm
  | .Tuple es _ _ => (cTgs C es).map .tp
  | _ => none
def cTgs (C : CC) : List Expr → Option (List Tg)
  | [] => some []
  | e :: es => match cTg C e, cTgs C es with
    | some t, some ts => some (t :: ts)
    | _, _ => none
end
def ownOf (N : List Str) (scope : Scope) : List (Str × Nat) := scope.names.filterMap fun y => match y.2 with
  | .local => (ixP (fun z => decide (z = y.1)) N).map fun i => (y.1, i)
  | .cell => (ixP (fun z => decide (z = y.1)) N).map fun i => (y.1, i)
  | _ => none
def isTup : Expr → Bool
  | .Tuple _ _ _ => true
  | _ => false
/-- the context of a comprehension's block -/
def CC.blk (C : CC) (scope : Scope) : CC := { C with sc := relS scope C.sc, fsc := some scope, lam := false }
def muName (m : Str) (n : Nat) : Bool := (decide (m = "append") && decide (n = 1)) || (decide (m = "insert") && decide (n = 2)) || (decide (m = "pop") && decide (n ≤ 1))
def kwNames (kws : List Keyword) : Option (List Str) := match kws with
  | [] => some []
  | k :: ks => match k.arg, kwNames ks with
    | some x, some xs => some (x :: xs)
    | _, _ => none
def lineOk (apos pos : Pos) : Bool := apos.endLine == pos.line
def cArg (r : Expr → E) (C : CC) (e : Expr) : E := match e with
  | .Name x p => (match slot C x with
    | some i => if decide (i ∈ C.brw) then .bor i else r (.Name x p)
    | none => r (.Name x p))
  | e => r e
def cIt (r : Expr → E) (C : CC) (tup : Bool) (e : Expr) : E := match e with
  | .Call (.Name x p) args [] pos => if glB C x && (decide (x ∈ C.fr) && args.all notStar) then (if x = "range" then (if decide (args.length = 1) || decide (args.length = 2) then .rng (args.map r) else .bad)
      else if x = "zip" then (if tup && decide (args.length = 2) then .zip (args.map r) else .bad)
      else if x = "enumerate" then (match tup, args with
        | true, [a] => .enm (r a)
        | _, _ => .bad)
      else r (.Call (.Name x p) args [] pos)) else r (.Call (.Name x p) args [] pos)
  | e => r e
def cMeth (r : Expr → E) (m : Str) (o : Expr) (args : List Expr) : E := match args with
  | [a] => if m = "join" then .meth m (r o) [r a] else if m = "index" then .lmeth m (r o) [r a] else if m = "count" then .tmeth m (r o) [r a] else .bad
  | _ => .bad
/-- list(range(..)), tuple(range(..)) -/
def rgQ (C : CC) (x : Str) (args : List Expr) (ks : List Str) : Bool := match args, ks with
  | [.Call (.Name y _) as [] _], [] => (glB C y && decide (y = "range") && (decide (y ∈ C.fr) && as.all notStar)) && ((decide (as.length = 1) || decide (as.length = 2)) && (decide (x ∈ C.fr) && (decide (x = "list") || decide (x = "tuple"))))
  | _, _ => false
def rgE (r : Expr → E) (x : Str) (args : List Expr) : E := match args with
  | [.Call _ as _ _] => .rgv (decide (x = "tuple")) (as.map r)
  | _ => .bad
def dctE (r : Expr → E) : List (Option Expr) → List Expr → Option (List E)
  | [], [] => some []
  | some k :: ks, v :: vs => (dctE r ks vs).map fun l => r k :: r v :: l
  | _, _ => none
/-- a lambda of one parameter: its name, the names that it takes from its def, their slots -/
def lamX (C : CC) (ps : Arguments) (sc : Scope) : Option (Str × List Str × List Nat) := match ps with
  | ⟨[], [⟨y, none, _⟩], none, [], [], none, []⟩ =>
    let fr := sc.names.filterMap fun z => if z.2 = .free then some z.1 else none
    let js := fr.filterMap fun z => ixP (fun x => decide (x = z)) C.N
    if (C.lam && NdefX.nscB (y :: fr) [y] fr sc) && (NdefX.ndefB C.sc sc fr && (decide (js.map (fun j => C.N[j]?) = fr.map some) && decide (2 ≤ C.lv))) then some (y, fr, js) else none
  | _ => none
def CC.lamC (C : CC) (y : Str) (fr : List Str) (sc : Scope) : CC := { C with N := y :: fr, sc := sc, fsc := none, lv := 0, brw := [], calls := [], meths := [], keys := [], lam := false }
/-- more constructs -/
def xE (r : CC → Expr → E) (C : CC) : Expr → Option E
  | .Call (.Name x _) [a] [⟨some kn, fe, _⟩] _ => if ((glB C x && decide (x = "sorted")) && (decide (x ∈ C.fr) && decide (kn = "key"))) && notStar a then (match fe with
      | .Name g _ => if glB C g then (ixP (fun y => decide (y = g)) C.keys).map fun k => .srk k (r C a) else none
      | .Lambda ps body sc _ => (lamX C ps sc).map fun q => .srl (r C a) q.2.2 (1 + q.2.1.length) (r (C.lamC q.1 q.2.1 sc) body)
      | _ => none) else none
  | .Call (.Name x _) [.Call (.Name y _) [a] [] _] [] _ => if ((glB C x && decide (x = "sorted")) && (decide (x ∈ C.fr) && glB C y)) && ((decide (y = "set") && decide (y ∈ C.fr)) && notStar a) then some (.srs (r C a)) else none
  | .IfExp t a (.Name y _) _ => (match slot C y with
    | some j => if decide (j ∈ C.ali) then some (.ite (r C t) (r C a) (.als j)) else none
    | none => none)
  | .ListComp elt [⟨tg, .Name x np, ifs, 0⟩] scope _ => (match cTg (C.blk scope) tg, slot C x with
    | some t, some i => if decide (i ∈ C.brw) && ((blkC C.N C.sc scope (ownOf C.N scope) && (slotsTg t).all fun j => decide (j ∈ (ownOf C.N scope).map (·.2))) && (!isSet (.Name x np) && decide (ifs.length ≤ 1))) then
        some (.lcv (r (C.blk scope) elt) t i (ifs.map (r (C.blk scope))) ((ownOf C.N scope).map (·.2))) else none
    | _, _ => none)
  | .ListComp elt [⟨tg, it, ifs, 0⟩, ⟨tg1, it1, ifs1, 0⟩] scope _ => (match cTg (C.blk scope) tg, cTg (C.blk scope) tg1 with
    | some t, some t1 => if ((blkC C.N C.sc scope (ownOf C.N scope) && (slotsTg t).all fun j => decide (j ∈ (ownOf C.N scope).map (·.2))) && ((slotsTg t1).all fun j => decide (j ∈ (ownOf C.N scope).map (·.2)))) && ((!isSet it && !isSet it1) && (decide (ifs.length ≤ 1) && decide (ifs1.length ≤ 1))) then
        some (.lc2 (r (C.blk scope) elt) t (cIt (r C) C (isTup tg) it) (ifs.map (r (C.blk scope))) t1 (cIt (r (C.blk scope)) (C.blk scope) (isTup tg1) it1) (ifs1.map (r (C.blk scope))) ((ownOf C.N scope).map (·.2)) (slotsTg t1)) else none
    | _, _ => none)
  | _ => none
def cEo (r : CC → Expr → E) (C : CC) (e : Expr) : E := match e with
    | .Constant c _ _ => cConst c
    | .Name x _ => cName C x
    | .BinOp a o b _ => .bin o (r C a) (r C b)
    | .UnaryOp .USub a _ => .neg (r C a)
    | .UnaryOp .Not a _ => .nt (r C a)
    | .BoolOp .And (a :: b :: es) _ => .and (r C a) (andE ((b :: es).map (r C)))
    | .BoolOp .Or (a :: b :: es) _ => .or (r C a) (orE ((b :: es).map (r C)))
    | .IfExp t a b _ => .ite (r C t) (r C a) (r C b)
    | .Compare a [o] [b] _ => if behindInMarks o b then .bad else .cmp o (r C a) (r C b)
    | .Compare a [o, p] [b, c] _ => if behindInMarks p c then .bad else .chn o p (r C a) (r C b) (r C c)
    | .List es _ => if es.all notStar then .lst (es.map (r C)) else .bad
    | .Tuple es _ _ => if es.all notStar then .tup (es.map (r C)) else .bad
    | .Dict ks vs _ => (match dctE (r C) ks vs with
      | some es => if decide (ks.length ≤ 15) then .dct es [] else .bad
      | none => .bad)
    | .Subscript a i _ => (match i with
      | .Slice lo hi none _ => slcE (r C a) (lo.map (r C)) (hi.map (r C))
      | .Slice none none (some (.UnaryOp .USub (.Constant (.int 1) _ _) _)) _ => .rev (r C a)
      | .Slice _ _ _ _ => .bad
      | i => .idx (r C a) (r C i))
    | .ListComp elt [⟨tg, it, ifs, 0⟩] scope _ => (match cTg (C.blk scope) tg with
      | some t => if (blkC C.N C.sc scope (ownOf C.N scope) && (slotsTg t).all fun j => decide (j ∈ (ownOf C.N scope).map (·.2))) && (!isSet it && decide (ifs.length ≤ 1)) then
          .lc (r (C.blk scope) elt) t (cIt (r C) C (isTup tg) it) (ifs.map (r (C.blk scope))) ((ownOf C.N scope).map (·.2)) else .bad
      | none => .bad)
    | .Call f args kws pos => if args.all notStar then (match f with
      | .Name x _ => if glB C x then (match kwNames kws with
          | some ks => if rgQ C x args ks then rgE (r C) x args else if x = "isinstance" then (match args, ks with
              | [a, t], [] => if decide (x ∈ C.fr) then (match tyArg C t with
                | some ts => .isi (r C a) ts
                | none => .bad) else .bad
              | _, _ => .bad)
            else (match ixP (fun y => decide (y = (x, args.length, ks))) C.calls with
            | some k => .call k (args.map (cArg (r C) C)) (kws.map fun kw => cArg (r C) C kw.value)
            | none => (match args, ks, ixP (fun y => decide (y = (x, args.length))) C.bis with
              | a :: as, [], some k => .bi k ((a :: as).map (r C))
              | _, _, _ => .bad))
          | none => .bad) else .bad
      | .Attribute o m apos => if baseOk o && lineOk apos pos then (match kwNames kws with
          | some ks => (match ixP (fun y => decide (y = (m, args.length, ks))) C.meths with
            | some k => if decide (args.length + kws.length < 25) then .cmeth k m (r C o) (args.map (cArg (r C) C)) (kws.map fun kw => cArg (r C) C kw.value) else .bad
            | none => if ks = [] then (match o with
                | .Name x _ => (match slot C x with
                  | some i => if muName m args.length then .mut m i (args.map (r C)) else cMeth (r C) m o args
                  | none => cMeth (r C) m o args)
                | _ => cMeth (r C) m o args) else .bad)
          | none => .bad) else .bad
      | _ => .bad) else .bad
    | .Attribute o f _ => if baseOk o then .attr (r C o) f else .bad
    | _ => .bad
def cE : Nat → CC → Expr → E
  | 0, _, _ => .bad
  | n + 1, C, e => match xE (cE n) C e with
    | some c => c
    | none => cEo (cE n) C e
/-! statements -/
def disj (l k : List Nat) : Bool := l.all fun j => decide (j ∉ k)
/-- the names that are stored from the right -/
def swapQ (sc : Scope) (ts vs : List Expr) : Option (Option (List Str)) :=
  if !(ts.length == 2 || ts.length == 3) || vs.length != ts.length then some none
  else if vs.any (fun | .Starred .. => true | _ => false) then some none
  else
    let line := (ts.head?.map (·.pos.line)).getD 0
    let names := ts.filterMap fun
      | .Name id pos => if sc.names.lookup id == some .local && pos.line == line then some id else none
      | _ => none
    if names.length != ts.length || names.eraseDups.length != names.length then some none
    else if vs.all (foldedForSure 8) then some none
    else if vs.all (constantsAlone 8) then none
    else some (some names)
def cS : Nat → CC → Stmt → S
  | 0, _, _ => .bad
  | n + 1, C, st => match st with
    | .Expr e _ => (match e with
      | .Constant (.str _) _ _ => .pass
      | e => if isComp e then .bad else .expr (cE n C e))
    | .Return (some e) _ => (match cE n C e with
      | .var i => .retv i
      | c => .ret c)
    | .Return none _ => .retN
    | .Pass _ => .pass
    | .Break _ => .brk
    | .Continue _ => .cnt
    | .If c a b _ => .ifs (cE n C c) (a.map (cS n C)) (b.map (cS n C))
    | .For tg it body [] _ => (match cTg C tg with
      | some t => if disj (slotsTg t) C.kp && !isSet it then .for t (cIt (cE n C) C (isTup tg) it) (body.map (cS n C)) else .bad
      | none => .bad)
    | .While c body [] _ => .whl (cE n C c) (body.map (cS n C))
    | .Assign [tg] v _ => (match tg with
      | .Name x _ => (match slotSt C x with
        | some i => if disj [i] C.kp && (!isComp v || isLC v) then .set i (cE n C v) else .bad
        | none => .bad)
      | .Tuple ts k p => (match v with
        | .Tuple vs _ _ => (match swapQ C.sc ts vs with
          | some none => (match cTg C (.Tuple ts k p) with
            | some t => if disj (slotsTg t) C.kp then .unp t (cE n C v) else .bad
            | none => .bad)
          | some (some ns) => (match ts, vs with
            | [.Name x _, .Name y _], [a, b] => (match slotSt C x, slotSt C y with
              | some i, some j => if (disj [i, j] C.kp && decide (i ≠ j)) && ((notStar a && notStar b) && (decide (ns = [x, y]) && (decide (C.sc.names.lookup x = some .local) && decide (C.sc.names.lookup y = some .local)))) then .par i j (cE n C a) (cE n C b) else .bad
              | _, _ => .bad)
            | _, _ => .bad)
          | none => .bad)
        | v => (match cTg C (.Tuple ts k p) with
          | some t => if disj (slotsTg t) C.kp then .unp t (cE n C v) else .bad
          | none => .bad))
      | .Subscript (.Name x _) i _ => (match slot C x with
        | some j => if !isSlice i then .sti j (cE n C i) (cE n C v) else .bad
        | none => .bad)
      | .Attribute (.Name x _) f _ => (match slot C x with
        | some j => .stf j f (cE n C v)
        | none => .bad)
      | _ => .bad)
    | .AugAssign (.Name x _) .Add v _ => (match slotSt C x with
      | some i => if disj [i] C.kp then .aug i (cE n C v) else .bad
      | none => .bad)
    | _ => .bad
end DL

namespace DL
variable [TB]
open PySem PySem.Spec PyProof.Rows L2
/-! ### what a context promises -/
def CallJ (P : Program) (w : World) (K : PySem.W.Frag) (mg : Str → Option Value) (base : Heap) (lv : Nat) (x : Str) (n : Nat) (ks : List Str) (F : FS) : Prop :=
  ∀ X : Cx, X.prog = P → X.w = w → X.K = K → X.mg = mg → X.base = base → X.calm = true → Room lv X.A → Gl X x → okName x = true → ∀ (es : List Expr) (kws : List Keyword) (p pos : Pos) (w1 w2 : DAv), es.length = n → kwNames kws = some ks → es.all notStar = true →
    (es = [] → w1 = wAvNil) → (kws = [] → w2 = wAvNil) → PA X es (liftAv K w1) → PK X kws (liftAv K w2) → PE X (.Call (.Name x p) es kws pos) (lift K (wCall2 n F w1 w2))
def BiJ (P : Program) (w : World) (K : PySem.W.Frag) (mg : Str → Option Value) (base : Heap) (lv : Nat) (x : Str) (n : Nat) (f : BS) : Prop :=
  ∃ r, BOk K r f ∧ ∀ X : Cx, X.prog = P → X.w = w → X.K = K → X.mg = mg → X.base = base → X.calm = true → Room 0 X.A → Gl X x → ∀ (e : Expr) (es : List Expr) (p pos : Pos) (t : TA), (e :: es).length = n → (e :: es).all notStar = true →
    PA X (e :: es) t → PE X (.Call (.Name x p) (e :: es) [] pos) (tCB r t)
def MethJ (P : Program) (w : World) (K : PySem.W.Frag) (mg : Str → Option Value) (base : Heap) (lv : Nat) (m : Str) (n : Nat) (ks : List Str) (ms : Str → Option FS) : Prop :=
  ∀ X : Cx, X.prog = P → X.w = w → X.K = K → X.mg = mg → X.base = base → X.calm = true → Room lv X.A → ∀ (o : Expr) (es : List Expr) (kws : List Keyword) (apos pos : Pos) (wo : DE) (w1 w2 : DAv), baseOk o = true → lineOk apos pos = true → es.length = n → kwNames kws = some ks →
    es.length + kws.length < 25 → es.all notStar = true → (es = [] → w1 = wAvNil) → (kws = [] → w2 = wAvNil) → PE X o (lift K wo) → PA X es (liftAv K w1) → PK X kws (liftAv K w2) →
    PE X (.Call (.Attribute o m apos) es kws pos) (lift K (wCMeth ms m wo w1 w2))
/-- a def of the module as the key of a sort -/
def KeyJ (P : Program) (w : World) (K : PySem.W.Frag) (mg : Str → Option Value) (base : Heap) (lv : Nat) (x : Str) (F : FS) : Prop :=
  ∀ X : Cx, X.prog = P → X.w = w → X.K = K → X.mg = mg → X.base = base → Room lv X.A → Gl X x → okName x = true → ∀ p : Pos, KeyE X (.Name x p) fun _ H N => N (fun v H2 Q2 => spOf K F [v] H2 Q2 E0) H
structure Tab (P : Program) (w : World) (K : PySem.W.Frag) (mg : Str → Option Value) (base : Heap) (C : CC) (M : Sem) : Prop where
  call : ∀ k x n ks, C.calls[k]? = some (x, n, ks) → CallJ P w K mg base C.lv x n ks (M.fs k)
  bi : ∀ k x n, C.bis[k]? = some (x, n) → BiJ P w K mg base C.lv x n (M.bs k)
  con : ∀ k x, C.cons[k]? = some x → ∃ u v, mg x = some u ∧ RelV v u ∧ ∀ G, Rep K G (M.cv k) v
  meth : ∀ k m n ks, C.meths[k]? = some (m, n, ks) → MethJ P w K mg base C.lv m n ks (M.ms k)
  attr : AttrOk K M.at_
  key : ∀ k x, C.keys[k]? = some x → KeyJ P w K mg base C.lv x (M.ky k)
  fr : ∀ x ∈ C.fr, mg x = none
structure XOk (C : CC) (M : Sem) (X : Cx) : Prop where
  sc : X.env.scope = C.sc
  N : X.N = C.N
  nd : C.N.Nodup
  calm : X.calm = true
  xe : X.xe = fun _ _ => False
  room : Room C.lv X.A
  fn : ∀ x, canSt C x = true → X.fn x = true ∨ X.env.scope.names.lookup x = some .local
  tab : Tab X.prog X.w X.K X.mg X.base C M
  kp : M.kp = C.kp
  fk : C.sc.kind = .function
  lam : C.lam = true → ∃ c P, X.env.code = .ref c ∧ LamX.TabB X.base X.mg c P ∧ (P, X.env.qual ++ "<lambda>") ∈ TB.tabs X.K ∧ ∀ p ∈ TB.tabs X.K, p.1 = P → p.2 = X.env.qual ++ "<lambda>"
/-! ### small facts -/
theorem starEach_cons {e : Expr} {es : List Expr} {env : Env} (h : notStar e = true) : starEach (e :: es) env = (false, eval e env) :: starEach es env := by
  cases e <;> first | rfl | cases h
theorem assignEach_cons {e : Expr} {es : List Expr} {env : Env} (h : notStar e = true) : assignEach (e :: es) env = (false, assign e env) :: assignEach es env := by
  cases e <;> first | rfl | cases h
theorem starEach_none {env : Env} {pos : Pos} : ∀ {es : List Expr}, es.all notStar = true → (backTo pos (starEach es env)).any (·.1) = false
  | [], _ => rfl
  | e :: es, h => by
    rw [List.all_cons, Bool.and_eq_true] at h
    rw [starEach_cons h.1]
    show (false || (backTo pos (starEach es env)).any (·.1)) = false
    rw [Bool.false_or]
    exact starEach_none h.2
theorem starEach_len {env : Env} : ∀ {es : List Expr}, es.all notStar = true → (starEach es env).length = es.length
  | [], _ => rfl
  | e :: es, h => by
    rw [List.all_cons, Bool.and_eq_true] at h
    rw [starEach_cons h.1]
    exact congrArg Nat.succ (starEach_len h.2)
theorem base_ok {o : Expr} {f : Str} {env : Env} (h : baseOk o = true) : attributeBase o f env (eval o env) = eval o env := by
  have st : ∀ id pos, baseOk (.Call (.Name id pos) [] [] pos) = !(id == ("super" : Str)) := fun _ _ => rfl
  cases o with
  | Call g args kws pos =>
    cases g with
    | Name id p =>
      cases args with
      | nil =>
        cases kws with
        | nil =>
          have h1 : (!(id == ("super" : Str))) = true := h
          have h2 : (id == ("super" : Str)) = false := by simpa using h1
          unfold attributeBase
          show (if (id != ("super" : Str) || f == ("__class__" : Str) || env.kindOf "super" != some .globalImplicit || env.kindOf "__class__" != some .free) = true then _ else _) = _
          have h3 : (id != ("super" : Str)) = true := by simp [bne, h2]
          rw [h3, Bool.true_or, Bool.true_or, Bool.true_or, if_pos rfl]
        | cons k ks => rfl
      | cons a as => rfl
    | _ => rfl
  | _ => rfl

theorem okName_ok {x : Str} (h : okName x = true) : (x == ("__debug__" : Str)) = false ∧ (x == ("__classdict__" : Str)) = false ∧ x ≠ ("__name__" : Str) := by
  unfold okName at h
  rw [Bool.and_eq_true, Bool.and_eq_true] at h
  obtain ⟨⟨h1, h2⟩, h3⟩ := h
  refine ⟨by simpa using h1, by simpa using h2, fun e => ?_⟩
  have h4 : (x == ("__name__" : Str)) = false := by simpa using h3
  rw [e] at h4
  simp at h4
theorem vis_of {sc : Scope} {x : Str} (h : visB sc x = true) : Vis sc x := by
  unfold visB at h
  split at h
  · rename_i e; exact .inl e
  · rename_i e; exact .inr (.inl e)
  · rename_i e; exact .inr (.inr e)
  · cases h
theorem loc_of {sc : Scope} {x : Str} (h : locB sc x = true) : Loc sc x := by
  unfold locB at h
  split at h
  · rename_i e; exact .inl e
  · rename_i e; exact .inr e
  · cases h
section
variable {C : CC} {M : Sem} {X : Cx}
theorem XOk.slot (ok : XOk C M X) {x : Str} {i : Nat} (h : DL.slot C x = some i) : X.N[i]? = some x ∧ Vis X.env.scope x ∧ okName x = true := by
  unfold DL.slot at h
  by_cases c : (visB C.sc x && okName x) = true
  · rw [if_pos c] at h
    rw [Bool.and_eq_true] at c
    obtain ⟨y, e1, e2⟩ := ixP_ok h
    have e3 : y = x := of_decide_eq_true e2
    subst e3
    exact ⟨by rw [ok.N]; exact e1, by rw [ok.sc]; exact vis_of c.1, c.2⟩
  · rw [if_neg c] at h; cases h
theorem pe_slot (ok : XOk C M X) {x : Str} {i : Nat} {p : Pos} (h : slot C x = some i) : PE X (.Name x p) (tVar i) := by
  obtain ⟨h1, h2, h3⟩ := ok.slot h
  obtain ⟨n1, n2, _⟩ := okName_ok h3
  exact pe_var h1 h2 n1 n2
theorem XOk.gl (ok : XOk C M X) {x : Str} (h : glB C x = true) : Gl X x ∧ okName x = true := by
  unfold glB at h
  rw [Bool.and_eq_true] at h
  refine ⟨?_, h.2⟩
  show X.env.scope.names.lookup x = some .globalImplicit
  rw [ok.sc]
  exact of_decide_eq_true h.1
theorem XOk.slotSt (ok : XOk C M X) {x : Str} {i : Nat} (h : DL.slotSt C x = some i) : X.N[i]? = some x ∧ Loc X.env.scope x ∧ (X.fn x = true ∨ X.env.scope.names.lookup x = some .local) := by
  unfold DL.slotSt at h
  by_cases c : canSt C x = true
  · rw [if_pos c] at h
    obtain ⟨y, e1, e2⟩ := ixP_ok h
    have e3 : y = x := of_decide_eq_true e2
    subst e3
    refine ⟨by rw [ok.N]; exact e1, ?_, ok.fn y c⟩
    unfold canSt at c
    rw [Bool.and_eq_true] at c
    rw [ok.sc]
    exact loc_of c.1
  · rw [if_neg c] at h; cases h
theorem XOk.nd' (ok : XOk C M X) : X.N.Nodup := by rw [ok.N]; exact ok.nd
theorem XOk.units (ok : XOk C M X) : X.A.units + 65 < cLine := by have := ok.room.un; omega
theorem XOk.own (ok : XOk C M X) : PassesOwn (model X.prog X.w) X.A X.env X.xe := by rw [ok.xe]; exact PassesOwn.never
end
/-! ### heads -/
theorem slcE_head (a : E) (lo hi : Option E) : (∀ i, slcE a lo hi ≠ .bor i) ∧ ∀ i, slcE a lo hi ≠ .var i := by
  unfold slcE
  split
  · exact ⟨(fun i h => (nomatch h)), (fun i h => (nomatch h))⟩
  all_goals (split <;> exact ⟨(fun i h => (nomatch h)), (fun i h => (nomatch h))⟩)
theorem cMeth_head (r : Expr → E) (m : Str) (o : Expr) (args : List Expr) : (∀ i, cMeth r m o args ≠ .bor i) ∧ ∀ i, cMeth r m o args ≠ .var i := by
  unfold cMeth
  repeat' split
  all_goals exact ⟨(fun i h => (nomatch h)), (fun i h => (nomatch h))⟩
theorem cConst_head (c : Const) : (∀ i, cConst c ≠ .bor i) ∧ ∀ i, cConst c ≠ .var i := by
  cases c <;> exact ⟨(fun i h => (nomatch h)), (fun i h => (nomatch h))⟩
theorem cName_head (C : CC) (x : Str) : (∀ i, cName C x ≠ .bor i) ∧ ∀ i, cName C x = .var i → slot C x = some i := by
  unfold cName
  split
  · rename_i i e
    exact ⟨(fun i h => (nomatch h)), (fun j h => by cases h; exact e)⟩
  · refine ⟨fun i h => ?_, fun i h => ?_⟩ <;> (repeat' (split at h)) <;> cases h
theorem rgE_head (r : Expr → E) (x : Str) (args : List Expr) : (∀ i, rgE r x args ≠ .bor i) ∧ (∀ i, rgE r x args ≠ .var i) := by
  unfold rgE
  split <;> exact ⟨(fun i h => (nomatch h)), (fun i h => (nomatch h))⟩
theorem xE_head {r : CC → Expr → E} {C : CC} {e : Expr} {c : E} (h : xE r C e = some c) : (∀ i, c ≠ .bor i) ∧ ∀ i, c ≠ .var i := by
  unfold xE at h
  split at h
  · split at h
    · split at h
      · split at h
        · obtain ⟨k, _, rfl⟩ := Option.map_eq_some_iff.mp h
          exact ⟨(fun i z => nomatch z), fun i z => nomatch z⟩
        · cases h
      · obtain ⟨k, _, rfl⟩ := Option.map_eq_some_iff.mp h
        exact ⟨(fun i z => nomatch z), fun i z => nomatch z⟩
      · cases h
    · cases h
  · split at h
    · cases h; exact ⟨(fun i z => nomatch z), fun i z => nomatch z⟩
    · cases h
  · split at h
    · split at h
      · cases h; exact ⟨(fun i z => nomatch z), fun i z => nomatch z⟩
      · cases h
    · cases h
  · split at h
    · split at h
      · cases h; exact ⟨(fun i z => nomatch z), fun i z => nomatch z⟩
      · cases h
    · cases h
  · split at h
    · split at h
      · cases h; exact ⟨(fun i z => nomatch z), fun i z => nomatch z⟩
      · cases h
    · cases h
  · cases h
theorem cE_head : ∀ (n : Nat) (C : CC) (e : Expr), (∀ i, cE n C e ≠ .bor i) ∧ ∀ i, cE n C e = .var i → ∃ x p, e = .Name x p ∧ slot C x = some i
  | 0, C, e => ⟨(fun i h => (nomatch h)), (fun i h => (nomatch h))⟩
  | n + 1, C, e => by
    have bad : ∀ {z : E}, (∀ i, z ≠ .bor i) → (∀ i, z ≠ .var i) → (∀ i, z ≠ .bor i) ∧ ∀ i, z = .var i → ∃ x p, e = .Name x p ∧ slot C x = some i := fun a b => ⟨a, fun i h => absurd h (b i)⟩
    show (∀ i, (match xE (cE n) C e with | some c => c | none => cEo (cE n) C e) ≠ .bor i) ∧ ∀ i, (match xE (cE n) C e with | some c => c | none => cEo (cE n) C e) = .var i → ∃ x p, e = .Name x p ∧ slot C x = some i
    split
    · rename_i c hx
      exact bad (xE_head hx).1 (xE_head hx).2
    cases e with
    | Constant c k p => exact bad (cConst_head c).1 (cConst_head c).2
    | Name x p => exact ⟨(cName_head C x).1, fun i h => ⟨x, p, rfl, (cName_head C x).2 i h⟩⟩
    | _ =>
      unfold cEo
      refine bad (fun i h => ?_) (fun i h => ?_)
      all_goals (simp only at h)
      all_goals (repeat' (split at h))
      all_goals first
        | cases h
        | exact absurd h ((slcE_head _ _ _).1 _)
        | exact absurd h ((slcE_head _ _ _).2 _)
        | exact absurd h ((cMeth_head _ _ _ _).1 _)
        | exact absurd h ((cMeth_head _ _ _ _).2 _)
        | exact absurd h ((rgE_head _ _ _).1 _)
        | exact absurd h ((rgE_head _ _ _).2 _)
        | exact absurd h ((cConst_head _).1 _)
        | exact absurd h ((cConst_head _).2 _)
        | contradiction
def isIt : E → Bool
  | .rng _ => true
  | .zip _ => true
  | .enm _ => true
  | _ => false
theorem cConst_it (c : Const) : isIt (cConst c) = false := by cases c <;> rfl
theorem cName_it (C : CC) (x : Str) : isIt (cName C x) = false := by
  unfold cName
  repeat' split
  all_goals rfl
theorem slcE_it (a : E) (lo hi : Option E) : isIt (slcE a lo hi) = false := by
  unfold slcE
  repeat' split
  all_goals rfl
theorem cMeth_it (r : Expr → E) (m : Str) (o : Expr) (args : List Expr) : isIt (cMeth r m o args) = false := by
  unfold cMeth
  repeat' split
  all_goals rfl
theorem rgE_it (r : Expr → E) (x : Str) (args : List Expr) : isIt (rgE r x args) = false := by
  unfold rgE
  split <;> rfl
theorem xE_it {r : CC → Expr → E} {C : CC} {e : Expr} {c : E} (h : xE r C e = some c) : isIt c = false := by
  unfold xE at h
  split at h
  · split at h
    · split at h
      · split at h
        · obtain ⟨k, _, rfl⟩ := Option.map_eq_some_iff.mp h; rfl
        · cases h
      · obtain ⟨k, _, rfl⟩ := Option.map_eq_some_iff.mp h; rfl
      · cases h
    · cases h
  · split at h
    · cases h; rfl
    · cases h
  · split at h
    · split at h
      · cases h; rfl
      · cases h
    · cases h
  · split at h
    · split at h
      · cases h; rfl
      · cases h
    · cases h
  · split at h
    · split at h
      · cases h; rfl
      · cases h
    · cases h
  · cases h
theorem cE_it : ∀ (n : Nat) (C : CC) (e : Expr), isIt (cE n C e) = false
  | 0, C, e => rfl
  | n + 1, C, e => by
    show isIt (match xE (cE n) C e with | some c => c | none => cEo (cE n) C e) = false
    split
    · rename_i c hx
      exact xE_it hx
    cases e with
    | Constant c k p => exact cConst_it c
    | Name x p => exact cName_it C x
    | _ =>
      unfold cEo
      try simp only
      repeat' split
      all_goals first
        | rfl
        | exact slcE_it _ _ _
        | exact rgE_it _ _ _
        | exact cMeth_it _ _ _ _
        | exact cConst_it _
        | exact cName_it _ _
        | contradiction
end DL

namespace DL
variable [TB]
open PySem PySem.Spec PyProof.Rows L2
/-! ### an expression and its compact form -/
section
variable {X : Cx} {M : Sem}
theorem pe_no {e : Expr} {t : TE} (h : ∀ σ H Q, ¬ t σ H Q) : PE X e t := ⟨fun pins s σ H Q I q => absurd q (h σ H Q)⟩
theorem pt_no {e : Expr} {t : TT} (h : ∀ σ H Q, ¬ t σ H Q) : PT X e t := ⟨fun pins s σ H Q I q => absurd q (h σ H Q)⟩
theorem pi_no {tg e : Expr} {t : TI} (h : ∀ σ H Q, ¬ t σ H Q) : PI X tg e t := ⟨fun pins s σ H Q I q => absurd q (h σ H Q)⟩
theorem pw_no {e : Expr} {t : TT} (h : ∀ σ H Q, ¬ t σ H Q) : PW X e t := ⟨fun wh pins s σ H Q I q => absurd q (h σ H Q)⟩
theorem lift_noE {K : PySem.W.Frag} {w : DE} (h : ∀ s R, ¬ w s R) : ∀ σ H Q, ¬ lift K w σ H Q := fun σ H Q ⟨B, G, s, R, S, a, k⟩ => h s R a
theorem lift_noT {K : PySem.W.Frag} {w : DT} (h : ∀ s R, ¬ w s R) : ∀ σ H Q, ¬ liftT K w σ H Q := fun σ H Q ⟨B, G, s, R, S, a, k⟩ => h s R a
theorem lift_noI {K : PySem.W.Frag} {w : DI} (h : ∀ s R, ¬ w s R) : ∀ σ H Q, ¬ liftI K w σ H Q := fun σ H Q ⟨B, G, s, R, S, a, k⟩ => h s R a
structure GE (X : Cx) (M : Sem) (e : Expr) (c : E) : Prop where
  v : PE X e (lift X.K (wX M c).e)
  t : PT X e (liftT X.K (wX M c).t)
theorem ge_bad {e : Expr} : GE X M e .bad := ⟨pe_no (lift_noE fun _ _ h => h), pt_no (lift_noT fun _ _ h => h)⟩
/-- what a truth test of a value asks -/
abbrev Plain (X : Cx) (e : Expr) : Prop := ∀ whole, isTrue e X.env whole = (do let v ← whole; standAt e.pos; holding [v] (truthy v))
theorem ge_val {e : Expr} {c : E} {w : DE} (hc : wX M c = ⟨w, wTru (asOp w), wSeq' w⟩) (h : PE X e (lift X.K w)) (ht : Plain X e) : GE X M e c := by
  refine ⟨by rw [hc]; exact h, ?_⟩
  rw [hc]
  exact pt_mono (pt_truth (pe_mono (t' := liftO X.K (asOp w)) h fun σ H Q => lift_asOp) ht) fun σ H Q l => lift_tru l
theorem ge_op {n : Nat} {C : CC} (ok : XOk C M X) {e : Expr} (h : GE X M e (cE n C e)) : PE X e (liftO X.K (opd (cE n C e) (wX M (cE n C e)).e)) := by
  by_cases v : ∃ i, cE n C e = .var i
  · obtain ⟨i, v⟩ := v
    obtain ⟨x, p, rfl, hs⟩ := (cE_head n C e).2 i v
    rw [v]
    exact pe_mono (pe_slot ok hs) fun σ H Q => lift_varOp
  · have eq : ∀ c : E, (∀ i, c ≠ .var i) → opd c (wX M c).e = asOp (wX M c).e := fun c hc => by
      cases c <;> first | rfl | exact absurd rfl (hc _)
    rw [eq _ fun i hi => v ⟨i, hi⟩]
    exact pe_mono h.v fun σ H Q => lift_asOp
theorem ge_const {n : Nat} {C : CC} {c : Const} {k : Nat} {p : Pos} : GE X M (.Constant c k p) (cConst c) := by
  cases c with
  | none => exact ge_val rfl (pe_mono pe_non fun σ H Q => lift_c (d := .non) (v := .non) fun G => rfl) fun _ => rfl
  | bool b => exact ge_val rfl (pe_mono pe_bl fun σ H Q => lift_c (d := .bl b) (v := .bl b) fun G => rfl) fun _ => rfl
  | int b => exact ge_val rfl (pe_mono pe_int fun σ H Q => lift_c (d := .int b) (v := .int b) fun G => rfl) fun _ => rfl
  | str b => exact ge_val rfl (pe_mono pe_str fun σ H Q => lift_c (d := .str b) (v := .str b) fun G => rfl) fun _ => rfl
  | _ => exact ge_bad
theorem ge_name {C : CC} (ok : XOk C M X) {x : Str} {p : Pos} : GE X M (.Name x p) (cName C x) := by
  unfold cName
  cases hs : slot C x with
  | some i =>
    have h := pe_slot (p := p) ok hs
    refine ⟨pe_mono h fun σ H Q => lift_var, ?_⟩
    exact pt_mono (pt_truth (pe_mono (t' := liftO X.K (varOp i)) h fun σ H Q => lift_varOp) fun _ => rfl) fun σ H Q l => lift_tru l
  | none =>
    show GE X M _ (if glB C x then _ else E.bad)
    split
    · rename_i g
      obtain ⟨hg, hn⟩ := ok.gl g
      split
      · rename_i k hk
        obtain ⟨y, h1, h2⟩ := ixP_ok hk
        have e3 : y = x := of_decide_eq_true h2
        subst e3
        obtain ⟨u, v, hm, r, hv⟩ := ok.tab.con k y h1
        exact ge_val (w := wC (M.cv k)) rfl (pe_mono (pe_glob hg hm r (okName_ok hn).1) fun σ H Q => lift_c hv) fun _ => rfl
      · exact ge_bad
    · exact ge_bad
theorem ge_bin {a b : Expr} {ca cb : E} {o : Operator} {p : Pos} (ha : PE X a (liftO X.K (opd ca (wX M ca).e))) (hb : PE X b (liftO X.K (opd cb (wX M cb).e))) : GE X M (.BinOp a o b p) (.bin o ca cb) := by
  obtain ⟨r, h1, h2⟩ := binD_ok X o
  exact ge_val rfl (pe_mono (pe_op h1 ha hb) fun σ H Q => lift_op h2) fun _ => rfl
theorem ge_neg {a : Expr} {ca : E} {p : Pos} (ha : PE X a (liftO X.K (opd ca (wX M ca).e))) : GE X M (.UnaryOp .USub a p) (.neg ca) :=
  ge_val rfl (pe_mono (pe_un un_neg ha) fun σ H Q => lift_un negD_ok) fun _ => rfl
theorem ge_nt {a : Expr} {ca : E} {p : Pos} (ha : GE X M a ca) : GE X M (.UnaryOp .Not a p) (.nt ca) :=
  ⟨pe_mono (pe_notT ha.v) fun σ H Q => lift_notV, pt_mono (pt_not ha.t) fun σ H Q => lift_not⟩
/-! ### chains of and, or -/
theorem ge_ands {p : Pos} {f : Expr → E} : ∀ (b : Expr) (es : List Expr), (∀ e ∈ b :: es, GE X M e (f e)) → PE X (.BoolOp .And (b :: es) p) (lift X.K (wX M (andE ((b :: es).map f))).e) ∧ PW X (.BoolOp .And (b :: es) p) (liftT X.K (wX M (andE ((b :: es).map f))).t)
  | b, [], h => ⟨pe_one (h b (.head _)).v, pw_and1 (h b (.head _)).t⟩
  | b, c :: es, h => by
    have ih := ge_ands (p := p) c es fun e m => h e (.tail _ m)
    exact ⟨pe_mono (pe_andT (h b (.head _)).v ih.1) fun σ H Q => lift_andV, pw_mono (pw_and (h b (.head _)).t ih.2) fun σ H Q => lift_and⟩
theorem ge_ors {p : Pos} {f : Expr → E} : ∀ (b : Expr) (es : List Expr), (∀ e ∈ b :: es, GE X M e (f e)) → PE X (.BoolOp .Or (b :: es) p) (lift X.K (wX M (orE ((b :: es).map f))).e) ∧ PW X (.BoolOp .Or (b :: es) p) (liftT X.K (wX M (orE ((b :: es).map f))).t)
  | b, [], h => ⟨pe_one (h b (.head _)).v, pw_or1 (h b (.head _)).t⟩
  | b, c :: es, h => by
    have ih := ge_ors (p := p) c es fun e m => h e (.tail _ m)
    exact ⟨pe_mono (pe_orT (h b (.head _)).v ih.1) fun σ H Q => lift_orV, pw_mono (pw_or (h b (.head _)).t ih.2) fun σ H Q => lift_or⟩
theorem ge_and {p : Pos} {f : Expr → E} {a b : Expr} {es : List Expr} (h : ∀ e, GE X M e (f e)) : GE X M (.BoolOp .And (a :: b :: es) p) (.and (f a) (andE ((b :: es).map f))) := by
  have ih := ge_ands (p := p) b es fun e _ => h e
  exact ⟨pe_mono (pe_andT (h a).v ih.1) fun σ H Q => lift_andV, pt_mono (pw_and (h a).t ih.2).pt fun σ H Q => lift_and⟩
theorem ge_or {p : Pos} {f : Expr → E} {a b : Expr} {es : List Expr} (h : ∀ e, GE X M e (f e)) : GE X M (.BoolOp .Or (a :: b :: es) p) (.or (f a) (orE ((b :: es).map f))) := by
  have ih := ge_ors (p := p) b es fun e _ => h e
  exact ⟨pe_mono (pe_orT (h a).v ih.1) fun σ H Q => lift_orV, pt_mono (pw_or (h a).t ih.2).pt fun σ H Q => lift_or⟩
theorem ge_ite {t a b : Expr} {ct ca cb : E} {p : Pos} (ht : GE X M t ct) (ha : GE X M a ca) (hb : GE X M b cb) : GE X M (.IfExp t a b p) (.ite ct ca cb) :=
  ⟨pe_mono (pe_ifExp ht.t ha.v hb.v) fun σ H Q => lift_ite, pt_no (lift_noT fun _ _ h => h)⟩
/-! ### comparisons -/
theorem tTest_bool {K : PySem.W.Frag} {w : DE} {t : TE} (h : ∀ σ H Q, lift K w σ H Q → t σ H Q) : ∀ σ H Q, liftT K (wBool w) σ H Q → tTest t σ H Q := fun σ H Q l => h _ _ _ (by
  obtain ⟨B, G, s, R, S, a, k⟩ := l
  refine ⟨B, G, s, _, S, a, fun r s' G' H' v S' e n q => ?_⟩
  cases r with
  | sh d =>
    cases d with
    | bl b =>
      have hv : v = .bl b := n
      exact ⟨b, hv, k b s' G' H' S' e q⟩
    | _ => cases q
  | _ => cases q)
theorem ge_cmp {a b : Expr} {ca cb : E} {o : CmpOp} {p : Pos} (hu : X.A.units + 65 < cLine) (ha : PE X a (liftO X.K (opd ca (wX M ca).e))) (hb : PE X b (liftO X.K (opd cb (wX M cb).e))) (hm : behindInMarks o b = false) : GE X M (.Compare a [o] [b] p) (.cmp o ca cb) := by
  obtain ⟨r, h1, h2⟩ := cmpD_ok X hu o
  exact ⟨pe_mono (pe_cmpR h1 ha hb hm) fun σ H Q => lift_op h2.op, pt_mono (pt_cmpR h1 ha hb hm) (tTest_bool fun σ H Q => lift_op h2.op)⟩
theorem lift_chn {K : PySem.W.Frag} {r r' : R2} {f g : D → D → (Bool → Prop) → Prop} (hf : BlOk K r f) (hg : BlOk K r' g) {a b c : DO} {σ : L2.St} {H : Hp} {Q : VK}
    (h : lift K (wChn (fun d e R => f d e fun b => R (.sh (.bl b))) (fun d e R => g d e fun b => R (.sh (.bl b))) a b c) σ H Q) : tChain r r' (liftO K a) (liftO K b) (liftO K c) σ H Q := by
  obtain ⟨B, G, s, R, S, w, k⟩ := h
  refine ⟨B, G, s, _, S, w, fun o1 s1 G1 H1 x S1 e1 r1 w1 => ?_⟩
  refine ⟨B, G1, s1, _, S1, w1, fun o2 s2 G2 H2 y S2 e2 r2 w2 => ?_⟩
  split at w2
  · rename_i d1 d2 q1 q2
    refine hf G2 H2 d1 d2 x y _ _ S2.gH ((r1.mono e2).top S2 q1) (r2.top S2 q2) w2 fun b hb => ⟨b, rfl, ?_⟩
    cases b with
    | true =>
      rw [if_pos rfl]
      have hb' : c s2 _ := hb
      refine ⟨B, G2, s2, _, S2, hb', fun o3 s3 G3 H3 z S3 e3 r3 w3 => ?_⟩
      split at w3
      · rename_i d2' d3 q3 q4
        exact hg G3 H3 d2' d3 y z _ _ S3.gH ((r2.mono e3).top S3 q3) (r3.top S3 q4) w3 fun b hb => k (.sh (.bl b)) s3 G3 H3 (.bl b) S3 ((e1.trans e2).trans e3) rfl hb
      · cases w3
    | false =>
      rw [if_neg (fun h => by cases h)]
      exact k (.sh (.bl false)) s2 G2 H2 (.bl false) S2 (e1.trans e2) rfl hb
  · cases w2
theorem ge_chn {a b c : Expr} {ca cb cc : E} {o o2 : CmpOp} {p : Pos} (hu : X.A.units + 65 < cLine) (ha : PE X a (liftO X.K (opd ca (wX M ca).e))) (hb : PE X b (liftO X.K (opd cb (wX M cb).e))) (hc : PE X c (liftO X.K (opd cc (wX M cc).e))) (hm : behindInMarks o2 c = false) : GE X M (.Compare a [o, o2] [b, c] p) (.chn o o2 ca cb cc) := by
  obtain ⟨r, h1, h2⟩ := cmpD_ok X hu o
  obtain ⟨r', h1', h2'⟩ := cmpD_ok X hu o2
  exact ⟨pe_mono (pe_chain h1 h1' ha hb hc hm) fun σ H Q => lift_chn h2 h2', pt_mono (pt_chain h1 h1' ha hb hc hm) (tTest_bool fun σ H Q => lift_chn h2 h2')⟩
/-! ### lists of expressions -/
theorem ga_vl {f : Expr → E} (h : ∀ e, GE X M e (f e)) : ∀ (es : List Expr), es.all notStar = true → PA X es (liftV X.K (wVl M (es.map f)))
  | [], _ => pa_mono pa_nil fun σ H Q => lift_vnil
  | e :: es, hs => by
    rw [List.all_cons, Bool.and_eq_true] at hs
    exact pa_mono (pa_cons (h e).v (ga_vl h es hs.2) (starEach_cons hs.1)) fun σ H Q => lift_vcons
theorem ga_ol {n : Nat} {C : CC} (ok : XOk C M X) (h : ∀ e, GE X M e (cE n C e)) : ∀ (es : List Expr), es.all notStar = true → PA X es (liftA X.K (wOl M (es.map (cE n C))))
  | [], _ => pa_mono pa_nil fun σ H Q => lift_nil
  | e :: es, hs => by
    rw [List.all_cons, Bool.and_eq_true] at hs
    exact pa_mono (pa_cons (ge_op ok (h e)) (ga_ol ok h es hs.2) (starEach_cons hs.1)) fun σ H Q => lift_cons
theorem cArg_cases {n : Nat} {C : CC} (e : Expr) : cArg (cE n C) C e = cE n C e ∨ ∃ x p i, e = .Name x p ∧ slot C x = some i ∧ cArg (cE n C) C e = .bor i := by
  cases e with
  | Name x p =>
    show (match slot C x with
    | some i => if decide (i ∈ C.brw) then E.bor i else cE n C (.Name x p)
    | none => cE n C (.Name x p)) = _ ∨ ∃ y q i, _ ∧ _ ∧ (match slot C x with
    | some i => if decide (i ∈ C.brw) then E.bor i else cE n C (.Name x p)
    | none => cE n C (.Name x p)) = _
    cases hs : slot C x with
    | none => exact .inl rfl
    | some i =>
      by_cases hb : decide (i ∈ C.brw) = true
      · exact .inr ⟨x, p, i, rfl, hs, by show (if _ then _ else _) = _; rw [if_pos hb]⟩
      · exact .inl (by show (if _ then _ else _) = _; rw [if_neg hb])
  | _ => exact .inl rfl
theorem ga_av1 {n : Nat} {C : CC} (ok : XOk C M X) (h : ∀ e, GE X M e (cE n C e)) (e : Expr) (es : List E) : ∃ te, PE X e te ∧ ∀ σ H Q, liftAv X.K (wAv M (cArg (cE n C) C e :: es)) σ H Q → tCons te (liftAv X.K (wAv M es)) σ H Q := by
  rcases cArg_cases (n := n) (C := C) e with q | ⟨x, p, i, rfl, hs, q⟩
  · rw [q]
    have eq : ∀ c : E, (∀ i, c ≠ .bor i) → wAv M (c :: es) = wAvVal (wX M c).e (wAv M es) := fun c hc => by
      cases c <;> first | rfl | exact absurd rfl (hc _)
    refine ⟨_, (h e).v, fun σ H Q w => ?_⟩
    rw [eq _ (cE_head n C e).1] at w
    exact lift_avVal w
  · rw [q]
    exact ⟨_, pe_slot ok hs, fun σ H Q w => lift_avBor w⟩
theorem ga_av {n : Nat} {C : CC} (ok : XOk C M X) (h : ∀ e, GE X M e (cE n C e)) : ∀ (es : List Expr), es.all notStar = true → PA X es (liftAv X.K (wAv M (es.map (cArg (cE n C) C))))
  | [], _ => pa_mono pa_nil fun σ H Q => lift_avNil
  | e :: es, hs => by
    rw [List.all_cons, Bool.and_eq_true] at hs
    obtain ⟨te, h1, h2⟩ := ga_av1 ok h e (es.map (cArg (cE n C) C))
    exact pa_mono (pa_cons h1 (ga_av ok h es hs.2) (starEach_cons hs.1)) h2
theorem gk_av {n : Nat} {C : CC} (ok : XOk C M X) (h : ∀ e, GE X M e (cE n C e)) : ∀ (kws : List Keyword), PK X kws (liftAv X.K (wAv M (kws.map fun kw => cArg (cE n C) C kw.value)))
  | [] => pk_mono pk_nil fun σ H Q => lift_avNil
  | ⟨nm, e, kp⟩ :: es => by
    obtain ⟨te, h1, h2⟩ := ga_av1 ok h e (es.map fun kw => cArg (cE n C) C kw.value)
    exact pk_mono (pk_cons h1 (gk_av ok h es)) h2
theorem ge_list {f : Expr → E} (h : ∀ e, GE X M e (f e)) {es : List Expr} {p : Pos} (hs : es.all notStar = true) : GE X M (.List es p) (.lst (es.map f)) :=
  ge_val rfl (pe_mono (pe_lst (ga_vl h es hs)) fun σ H Q => lift_lst) fun _ => rfl
theorem ge_tuple {f : Expr → E} (h : ∀ e, GE X M e (f e)) {es : List Expr} {k : Nat} {p : Pos} (hs : es.all notStar = true) : GE X M (.Tuple es k p) (.tup (es.map f)) :=
  ge_val rfl (pe_mono (pe_tup (ga_vl h es hs)) fun σ H Q => lift_tup) fun _ => rfl
/-! ### items and slices -/
theorem ge_idx {a b : Expr} {ca cb : E} {p : Pos} (ha : PE X a (liftO X.K (opd ca (wX M ca).e))) (hb : PE X b (liftO X.K (opd cb (wX M cb).e))) (hp : PlainIx b) : GE X M (.Subscript a b p) (.idx ca cb) :=
  ge_val rfl (pe_mono (pe_ix ix_seq ha hb hp) fun σ H Q => lift_op idxD_ok) fun _ => rfl
def liftP (K : PySem.W.Frag) (w : DSt → (Option Int → DSt → Prop) → Prop) : TO := fun σ H Q => ∃ B G s R, StRep K B G s σ H ∧ w s R ∧ ∀ o s' G' H', StRep K B G' s' σ H' → Same G G' → R o s' → Q o H'
theorem lift_part {K : PySem.W.Frag} {w : DO} {σ : L2.St} {H : Hp} {Q : Option Int → Hp → Prop} (h : liftP K (fun s R => w s fun o s1 => match resO s1 o with
    | some (.int i) => R (some i) s1
    | _ => False) σ H Q) : tPart (liftO K w) σ H Q := by
  obtain ⟨B, G, s, R, S, w, k⟩ := h
  refine ⟨B, G, s, _, S, w, fun o s1 G1 H1 x S1 e1 r1 w1 => ?_⟩
  split at w1
  · rename_i i q
    have t : x = .int i := r1.top S1 q
    exact ⟨i, t, k _ s1 G1 H1 S1 e1 w1⟩
  · cases w1
theorem po_bad {w : DO} : PO X none (liftP X.K (partE .bad w)) := po_mono po_none fun σ H Q ⟨B, G, s, R, S, a, k⟩ => k none s G H S (Same.refl _) a
theorem po_e {e : Expr} {c : E} (hb : c ≠ .bad) (he : PE X e (liftO X.K (opd c (wX M c).e))) : PO X (some e) (liftP X.K (partE c (opd c (wX M c).e))) := by
  have eq : ∀ c : E, c ≠ .bad → ∀ w, partE c w = fun s R => w s fun o s1 => match resO s1 o with
    | some (.int i) => R (some i) s1
    | _ => False := fun c hc w => by
      cases c <;> first | rfl | exact absurd rfl hc
  rw [eq c hb]
  exact po_mono (po_some he) fun σ H Q => lift_part
theorem lift_slc {K : PySem.W.Frag} {a : DO} {lo hi : DSt → (Option Int → DSt → Prop) → Prop} {σ : L2.St} {H : Hp} {Q : VK} (h : lift K (wSlc a lo hi) σ H Q) : tSl (rSlAll K) (liftO K a) (liftP K lo) (liftP K hi) σ H Q := by
  obtain ⟨B, G, s, R, S, w, k⟩ := h
  refine ⟨B, G, s, _, S, w, fun o s1 G1 H1 x S1 e1 r1 w1 => ?_⟩
  refine ⟨B, G1, s1, _, S1, w1, fun l s2 G2 H2 S2 e2 w2 => ?_⟩
  refine ⟨B, G2, s2, _, S2, w2, fun u s3 G3 H3 S3 e3 w3 => ?_⟩
  split at w3
  · rename_i d q
    refine slcD_ok S3.gH ((r1.mono (e2.trans e3)).top S3 q) w3 fun res v G' H' gr nr q => ?_
    exact k res s3 G' H' v (S3.grow gr) ((e1.trans e2).trans (e3.trans gr.g)) (S3.res gr nr) q
  · cases w3
theorem ge_slc {n : Nat} {C : CC} (ok : XOk C M X) (h : ∀ e, GE X M e (cE n C e)) {a : Expr} {lo hi : Option Expr} {p p2 : Pos} : GE X M (.Subscript a (.Slice lo hi none p2) p) (slcE (cE n C a) (lo.map (cE n C)) (hi.map (cE n C))) := by
  have nb : ∀ c : E, isBad c = false → c ≠ .bad := fun c hc e => by rw [e] at hc; cases hc
  have go : ∀ (cl ch : E), PO X lo (liftP X.K (partE cl (opd cl (wX M cl).e))) → PO X hi (liftP X.K (partE ch (opd ch (wX M ch).e))) → GE X M (.Subscript a (.Slice lo hi none p2) p) (.slc (cE n C a) cl ch) := fun cl ch hl hh =>
    ge_val rfl (pe_mono (pe_slice sl_all (ge_op ok (h a)) hl hh) fun σ H Q => lift_slc) fun _ => rfl
  cases lo with
  | none =>
    cases hi with
    | none => exact go .bad .bad po_bad po_bad
    | some u =>
      show GE X M _ (if isBad (cE n C u) then .bad else _)
      split
      · exact ge_bad
      · rename_i q
        exact go _ _ po_bad (po_e (nb _ (by simpa using q)) (ge_op ok (h u)))
  | some l =>
    cases hi with
    | none =>
      show GE X M _ (if isBad (cE n C l) then .bad else _)
      split
      · exact ge_bad
      · rename_i q
        exact go _ _ (po_e (nb _ (by simpa using q)) (ge_op ok (h l))) po_bad
    | some u =>
      show GE X M _ (if isBad (cE n C l) || isBad (cE n C u) then .bad else _)
      split
      · exact ge_bad
      · rename_i q
        rw [Bool.not_eq_true, Bool.or_eq_false_iff] at q
        exact go _ _ (po_e (nb _ q.1) (ge_op ok (h l))) (po_e (nb _ q.2) (ge_op ok (h u)))
end
end DL

namespace DL
variable [TB]
open PySem PySem.Spec PyProof.Rows L2
section
variable {K : PySem.W.Frag}
theorem AReps.app {G : Hp} {σ : L2.St} : ∀ {as bs : List Av} {vs us : List V}, AReps K G σ as vs → AReps K G σ bs us → AReps K G σ (as ++ bs) (vs ++ us)
  | [], bs, vs, us, h, h2 => by rw [show vs = [] from h]; exact h2
  | a :: as, bs, vs, us, h, h2 => by
    obtain ⟨v, r, rfl, h3, h4⟩ := h
    exact ⟨v, r ++ us, rfl, h3, AReps.app h4 h2⟩
theorem lift_call2 {n : Nat} {F : FS} {w1 w2 : DAv} {σ : L2.St} {H : Hp} {Q : VK} (h : lift K (wCall2 n F w1 w2) σ H Q) : (fun (σ : L2.St) (H : Hp) (Q : VK) => liftAv K w1 σ H fun vs H1 => vs.length = n ∧ liftAv K w2 σ H1 fun zs H2 => spOf K F (vs ++ zs) H2 Q E0) σ H Q := by
  obtain ⟨B, G, s, R, S, hw, k⟩ := h
  refine ⟨B, G, s, _, S, hw, fun as s1 G1 H1 vs S1 sm1 r1 q1 => ?_⟩
  refine ⟨by rw [r1.length]; exact q1.1, B, G1, s1, _, S1, q1.2, fun bs s2 G2 H2 us S2 sm2 r2 q2 => ?_⟩
  exact call_sp S2 ((r1.mono sm2).app r2) q2.1 q2.2 fun r args' G' H' v S' sm rr q => k r _ G' H' v S' ((sm1.trans sm2).trans sm) rr q
theorem fld_none {f : Str} : ∀ {ns : List Str} {ds : List D} {fs : List (Str × V)} {G : Hp}, fs.map (·.1) = ns → Reps K G ds (fs.map (·.2)) → fldD f ns ds = none → fs.lookup f = none
  | [], ds, fs, G, e, r, h => by
    cases fs with
    | nil => rfl
    | cons q fs => cases e
  | n :: ns, [], fs, G, e, r, h => by
    cases fs with
    | nil => rfl
    | cons q fs => cases r
  | n :: ns, x :: ds, fs, G, e, r, h => by
    cases fs with
    | nil => rfl
    | cons q fs =>
      obtain ⟨m, v⟩ := q
      obtain ⟨v', r', e1, r1, r2⟩ := r
      cases e1
      have e1 : m = n := (List.cons.inj e).1
      have e2 : fs.map (·.1) = ns := (List.cons.inj e).2
      subst e1
      unfold fldD at h
      by_cases c : f = m
      · rw [if_pos c] at h; cases h
      · rw [if_neg c] at h
        have ih := fld_none e2 r2 h
        rw [List.lookup_cons]
        have : (f == m) = false := by simpa using c
        rw [this]
        exact ih
theorem lift_cmeth {ms : Str → Option FS} {m : Str} {o : DE} {w1 w2 : DAv} {σ : L2.St} {H : Hp} {Q : VK} (h : lift K (wCMeth ms m o w1 w2) σ H Q) :
    (fun (σ : L2.St) (H : Hp) (Q : VK) => lift K o σ H fun x H0 => ∃ C a dx fs F, x = .ref a ∧ H0 a = some (.ins (He.ga K C) dx fs) ∧ fs.lookup m = none ∧ ms C = some F ∧ liftAv K w1 σ H0 fun vs H1 => liftAv K w2 σ H1 fun zs H2 => spOf K F (x :: (vs ++ zs)) H2 Q E0) σ H Q := by
  obtain ⟨B, G, s, R, S, hw, k⟩ := h
  refine ⟨B, G, s, _, S, hw, fun r s0 G0 H0 x S0 sm0 r0 q0 => ?_⟩
  obtain ⟨G0', S0', smf, rf⟩ := RRep.freeze S0 r0
  split at q0
  · rename_i C ns vs hr
    rw [hr] at rf
    split at q0
    · rename_i F hF
      obtain ⟨a, dx, fs, e1, e2, e3, e4⟩ := rf
      refine ⟨C, a, dx, fs, F, e1, S0'.gH _ _ e2, fld_none e3 e4 q0.1, hF, ?_⟩
      refine ⟨B, G0', s0, _, S0', q0.2, fun as s1 G1 H1 vs S1 sm1 r1 q1 => ?_⟩
      refine ⟨B, G1, s1, _, S1, q1, fun bs s2 G2 H2 us S2 sm2 r2 q2 => ?_⟩
      have rx : Rep K G2 (.ins C ns _) x := Rep.mono (sm1.trans sm2) _ _ (show Rep K G0' (.ins C ns _) x from ⟨a, dx, fs, e1, e2, e3, e4⟩)
      refine call_sp (as := .val (.ins C ns _) :: (as ++ bs)) S2 ⟨x, vs ++ us, rfl, rx, (r1.mono sm2).app r2⟩ q2.1 q2.2 fun r args' G' H' v S' sm rr q => ?_
      rw [wback_val] at S' rr
      exact k r _ G' H' v S' (((sm0.trans smf).trans (sm1.trans sm2)).trans sm) rr q
    · cases q0
  · cases q0
theorem strsOf_ok : ∀ {ds : List D} {bs : List Str}, strsOf ds = some bs → ds = bs.map .str
  | [], bs, h => by cases h; rfl
  | d :: ds, bs, h => by
    cases d with
    | str b =>
      obtain ⟨ys, e, rfl⟩ := map_some (show (strsOf ds).map (b :: ·) = some bs from h)
      rw [strsOf_ok e]
      rfl
    | _ => cases h
theorem strsOf_map : ∀ (bs : List Str), strsOf (bs.map .str) = some bs
  | [] => rfl
  | b :: bs => by show (strsOf (bs.map .str)).map (b :: ·) = _; rw [strsOf_map bs]; rfl
theorem lift_join {o a : DE} {σ : L2.St} {H : Hp} {Q : VK} (h : lift K (wMeth "join" o (wVCons a wVNil)) σ H Q) : tM1 (fun x xs H Q => ∃ a p ys, x = V.str a ∧ xs = [V.ref p] ∧ (SqL K H p (List.map V.str ys) ∨ SqT K H p (List.map V.str ys)) ∧ List.sum (List.map (fun x => Str.length x) ys) + List.length ys * Str.length a ≤ 16777216 ∧ Q (V.str (Txt.join a ys)) H) (lift K o) (lift K a) σ H Q := by
  obtain ⟨B, G, s, R, S, hw, k⟩ := h
  refine ⟨B, G, s, _, S, hw, fun r s0 G0 H0 x S0 sm0 r0 q0 => ?_⟩
  obtain ⟨G0', S0', smf, rf⟩ := RRep.freeze S0 r0
  split at q0
  · rename_i z hr
    rw [hr] at rf
    refine ⟨⟨z, rf⟩, B, G0', s0, _, S0', q0, fun r1 s1 G1 H1 y S1 sm1 rr1 q1 => ?_⟩
    obtain ⟨G1', S1', smf1, rf1⟩ := RRep.freeze S1 rr1
    have q2 : (match (seqOf (frz r1)).bind strsOf with
      | some ys => (ys.map (·.length)).sum + ys.length * z.length ≤ 16777216 ∧ R (.sh (.str (Txt.join z ys))) s1
      | none => False) := q1
    split at q2
    · rename_i ys hys
      rw [Option.bind_eq_some_iff] at hys
      obtain ⟨ds, e1, e2⟩ := hys
      obtain ⟨p, vs, e3, e4, e5⟩ := seqOf_ok S1'.gH e1 (Rep.top S1'.gH rf1)
      rw [strsOf_ok e2] at e5
      have e6 : vs = ys.map V.str := by
        have : ∀ {ys : List Str} {vs : List V}, Reps K G1' (ys.map D.str) vs → vs = ys.map V.str := fun {ys} => by
          induction ys with
          | nil => intro vs h; exact h
          | cons y ys ih => intro vs h; obtain ⟨v, r, rfl, h1, h2⟩ := h; rw [ih h2, show v = V.str y from h1]; rfl
        exact this e5
      refine ⟨z, p, ys, rf, by rw [e3], by rw [← e6]; exact e4, q2.1, ?_⟩
      exact k (.sh (.str (Txt.join z ys))) s1 G1' H1 _ S1' ((sm0.trans smf).trans (sm1.trans smf1)) (show Rep K G1' (.str (Txt.join z ys)) _ from rfl) q2.2
    · cases q2
  · cases q0
end
section
variable {X : Cx} {M : Sem}
/-! ### method calls on a list, on a text, on an object -/
theorem liftO_mono {K : PySem.W.Frag} {w : DO} {σ : L2.St} {H : Hp} {Q Q' : VK} (h : liftO K w σ H Q) (m : ∀ v H, Q v H → Q' v H) : liftO K w σ H Q' := by
  obtain ⟨B, G, s, R, S, a, k⟩ := h
  exact ⟨B, G, s, R, S, a, fun o s' G' H' v S' e r q => m _ _ (k o s' G' H' v S' e r q)⟩
theorem any_nil {env : Env} {pos : Pos} {es : List Expr} (h : es.all notStar = true) : (backTo pos (starEach es env)).any (·.1) = false := starEach_none h
theorem all_not {env : Env} {pos : Pos} : ∀ {es : List Expr}, es.all notStar = true → (backTo pos (starEach es env)).all (fun x => !x.1) = true
  | [], _ => rfl
  | e :: es, h => by
    rw [List.all_cons, Bool.and_eq_true] at h
    rw [starEach_cons h.1]
    show (true && (backTo pos (starEach es env)).all (fun x => !x.1)) = true
    rw [Bool.true_and]
    exact all_not h.2
theorem few_ok {env : Env} {pos : Pos} {e : Expr} {es : List Expr} (h : (e :: es).all notStar = true) (hl : es.length < 20) : ((((backTo pos (starEach (e :: es) env)).all fun x => !x.1) && (backToKw pos (keywordEach [] env)).all fun x => x.1.isSome) && decide ((e :: es).length + ([] : List Keyword).length + (if ([] : List Keyword).isEmpty = true then 0 else 1) < 30)) = true := by
  rw [all_not h]
  show (true && true && decide ((e :: es).length + 0 + 0 < 30)) = true
  rw [List.length_cons]
  have : es.length + 1 + 0 + 0 < 30 := by omega
  simp [this]
theorem bm0_of {K : PySem.W.Frag} {T : String} {r : V → List V → Hp → VK → Prop} {to : TE} (hto : ∀ σ H (Q Q' : VK), (∀ v H, Q v H → Q' v H) → to σ H Q → to σ H Q') {σ : L2.St} {H : Hp} {Q : VK} (h : tBM K T r to (liftV K wVNil) σ H Q) : tBM0 K T r to σ H Q :=
  hto _ _ _ _ (fun v H h => ⟨h.1, by have := lift_vnil h.2; exact this⟩) h
theorem ge_mutL {C : CC} (ok : XOk C M X) {f : Expr → E} (h : ∀ e, GE X M e (f e)) {x m : Str} {i : Nat} {p apos pos : Pos} {es : List Expr} (hs : slot C x = some i) (hl : lineOk apos pos = true) (hm : muName m es.length = true) (hn : es.all notStar = true) : GE X M (.Call (.Attribute (.Name x p) m apos) es [] pos) (.mut m i (es.map f)) := by
  refine ge_val rfl ?_ fun _ => rfl
  have hx := pe_slot (p := p) ok hs
  rw [List.length_map]
  have hv := ga_vl h es hn
  have c : (m = "append" ∧ es.length = 1) ∨ ((m = "insert" ∧ es.length = 2) ∨ (m = "pop" ∧ es.length ≤ 1)) := by
    unfold muName at hm
    rw [Bool.or_eq_true, Bool.or_eq_true, Bool.and_eq_true, Bool.and_eq_true, Bool.and_eq_true] at hm
    simp only [decide_eq_true_eq] at hm
    exact or_assoc.mp hm
  rcases c with ⟨rfl, hc⟩ | ⟨rfl, hc⟩ | ⟨rfl, hc⟩
  · match es, hc with
    | [e], _ => exact pe_mono (pe_bm F.plainAttrs_list F.slot_list_append F.type_list_append mt_append hx hv rfl (few_ok hn (by show 0 < 20; decide)) hl (starEach_cons (by rw [List.all_cons, Bool.and_eq_true] at hn; exact hn.1)) rfl) fun σ H Q => lift_mut mAppend_ok
  · match es, hc with
    | [e, e2], _ =>
      have hn' := hn
      rw [List.all_cons, Bool.and_eq_true] at hn'
      exact pe_mono (pe_bm F.plainAttrs_list F.slot_list_insert F.type_list_insert mt_insert hx hv rfl (few_ok hn (by show 1 < 20; decide)) hl (starEach_cons hn'.1) (any_nil hn'.2)) fun σ H Q => lift_mut mInsert_ok
  · match es, hc with
    | [], _ => exact pe_mono (pe_bm0 F.plainAttrs_list F.slot_list_pop F.type_list_pop mt_pop hx rfl hl) fun σ H Q l => bm0_of (fun σ H Q Q' m ⟨v, e, q⟩ => ⟨v, e, m _ _ q⟩) (lift_mut mPop_ok l)
    | [e], _ => exact pe_mono (pe_bm F.plainAttrs_list F.slot_list_pop F.type_list_pop mt_popAt hx hv rfl (few_ok hn (by show 0 < 20; decide)) hl (starEach_cons (by rw [List.all_cons, Bool.and_eq_true] at hn; exact hn.1)) rfl) fun σ H Q => lift_mut mPopAt_ok
theorem ge_cMeth {n : Nat} {C : CC} (ok : XOk C M X) (h : ∀ e, GE X M e (cE n C e)) {o : Expr} {m : Str} {apos pos : Pos} {es : List Expr} (hb : baseOk o = true) (hl : lineOk apos pos = true) (hn : es.all notStar = true) : GE X M (.Call (.Attribute o m apos) es [] pos) (cMeth (cE n C) m o es) := by
  unfold cMeth
  split
  · rename_i a
    split
    · rename_i e
      subst e
      rw [List.all_cons, Bool.and_eq_true] at hn
      exact ge_val rfl (pe_mono (pe_join (h o).v (h a).v (starEach_cons hn.1) (base_ok hb) hl) fun σ H Q => lift_join) fun _ => rfl
    · split
      · rename_i e
        subst e
        have hn' := hn
        rw [List.all_cons, Bool.and_eq_true] at hn'
        refine ge_val rfl (pe_mono (pe_bm F.plainAttrs_list F.slot_list_index F.type_list_index mt_index (ge_op ok (h o)) (ga_ol ok h [a] hn) (base_ok hb) (few_ok hn (by show 0 < 20; decide)) hl (starEach_cons hn'.1) rfl) fun σ H Q => lift_lmeth indexD_ok) fun _ => rfl
      · split
        · rename_i e
          subst e
          have hn' := hn
          rw [List.all_cons, Bool.and_eq_true] at hn'
          refine ge_val rfl (pe_mono (pe_tm F.slot_tuple_count F.type_tuple_count (mt_tcount (by have := ok.room.un; omega)) (ge_op ok (h o)) (ga_ol ok h [a] hn) (base_ok hb) (few_ok hn (by show 0 < 20; decide)) hl (starEach_cons hn'.1) rfl) fun σ H Q => lift_tmeth countD_ok) fun _ => rfl
        · exact ge_bad
  · exact ge_bad
/-! ### type names -/
theorem ty_pe {C : CC} (ok : XOk C M X) {e : Expr} {b : String} (h : tyName C e = some b) : PE X e (tC (.ty b)) ∧ tyKnown b = true ∧ notStar e = true ∧ ∃ x p, e = .Name x p := by
  cases e with
  | Name x p =>
    change (if (glB C x && decide (x ∈ C.fr)) = true then _ else none) = some b at h
    by_cases c : (glB C x && decide (x ∈ C.fr)) = true
    · rw [if_pos c] at h
      rw [Bool.and_eq_true] at c
      obtain ⟨hg, hn⟩ := ok.gl c.1
      have hm : X.mg x = none := ok.tab.fr x (of_decide_eq_true c.2)
      have go : ∀ {n : String}, bootBuiltins x = some (.type n) → PE X (.Name x p) (tC (.ty n)) := fun hv => pe_bltn hg hm hv rfl (okName_ok hn).2.2 (okName_ok hn).1
      by_cases c1 : x = "list"
      · subst c1; rw [if_pos rfl] at h; cases h; exact ⟨go rfl, rfl, rfl, _, _, rfl⟩
      rw [if_neg c1] at h
      by_cases c1 : x = "tuple"
      · subst c1; rw [if_pos rfl] at h; cases h; exact ⟨go rfl, rfl, rfl, _, _, rfl⟩
      rw [if_neg c1] at h
      by_cases c1 : x = "dict"
      · subst c1; rw [if_pos rfl] at h; cases h; exact ⟨go rfl, rfl, rfl, _, _, rfl⟩
      rw [if_neg c1] at h
      by_cases c1 : x = "int"
      · subst c1; rw [if_pos rfl] at h; cases h; exact ⟨go rfl, rfl, rfl, _, _, rfl⟩
      rw [if_neg c1] at h
      by_cases c1 : x = "bool"
      · subst c1; rw [if_pos rfl] at h; cases h; exact ⟨go rfl, rfl, rfl, _, _, rfl⟩
      rw [if_neg c1] at h
      by_cases c1 : x = "str"
      · subst c1; rw [if_pos rfl] at h; cases h; exact ⟨go rfl, rfl, rfl, _, _, rfl⟩
      rw [if_neg c1] at h
      cases h
    · rw [if_neg c] at h; cases h
  | _ => cases h
def tTys : List String → TA
  | [] => tNil
  | b :: bs => tCons (tC (.ty b)) (tTys bs)
theorem tTys_eq : ∀ (bs : List String) (σ : L2.St) (H : Hp) (Q : List V → Hp → Prop), Q (bs.map V.ty) H → tTys bs σ H Q
  | [], σ, H, Q, q => q
  | b :: bs, σ, H, Q, q => tTys_eq bs σ H (fun vs H2 => Q (V.ty b :: vs) H2) q
theorem tys_pa {C : CC} (ok : XOk C M X) : ∀ {es : List Expr} {bs : List String}, tyNames C es = some bs → PA X es (tTys bs) ∧ bs.all tyKnown = true
  | [], bs, h => by cases h; exact ⟨pa_nil, rfl⟩
  | e :: es, bs, h => by
    unfold tyNames at h
    split at h
    · rename_i t ts h1 h2
      cases h
      obtain ⟨a1, a2, a3, _⟩ := ty_pe ok h1
      obtain ⟨b1, b2⟩ := tys_pa ok h2
      exact ⟨pa_cons a1 b1 (starEach_cons a3), by rw [List.all_cons, a2, b2]; rfl⟩
    · cases h
theorem tys_len {C : CC} : ∀ {es : List Expr} {bs : List String}, tyNames C es = some bs → es.length = bs.length
  | [], bs, h => by cases h; rfl
  | e :: es, bs, h => by
    unfold tyNames at h
    split at h
    · rename_i t ts h1 h2
      cases h
      exact congrArg Nat.succ (tys_len h2)
    · cases h
theorem ge_isi {C : CC} (ok : XOk C M X) {a t : Expr} {ca : E} {ts : List String} {p pos : Pos} (hg : Gl X "isinstance") (hm : X.mg "isinstance" = none) (ha : PE X a (liftO X.K (opd ca (wX M ca).e))) (hn : [a, t].all notStar = true) (ht : tyArg C t = some ts) : GE X M (.Call (.Name "isinstance" p) [a, t] [] pos) (.isi ca ts) := by
  have hn' := hn
  rw [List.all_cons, Bool.and_eq_true] at hn'
  have hn2 := hn'.2
  rw [List.all_cons, Bool.and_eq_true] at hn2
  refine ge_val rfl ?_ fun _ => rfl
  have one : ∀ {b : String}, tyName C t = some b → PE X (.Call (.Name "isinstance" p) [a, t] [] pos) (lift X.K (wUn (isiD [b]) (opd ca (wX M ca).e))) := fun hb => by
    obtain ⟨b1, b2, _⟩ := ty_pe ok hb
    refine pe_mono (pe_callB call_isi hg hm rfl (pa_cons ha (pa_cons b1 pa_nil (starEach_cons hn2.1)) (starEach_cons hn'.1)) (by decide) (by decide) (starEach_cons hn'.1) (any_nil hn'.2)) fun σ H Q l => ?_
    exact lift_un (isiD_ok1 b2) l
  cases t with
  | Tuple es k tp =>
    have ht' : (if decide (es.length ≤ 1000) = true then tyNames C es else none) = some ts := ht
    by_cases hle : decide (es.length ≤ 1000) = true
    rotate_left
    · rw [if_neg hle] at ht'; cases ht'
    rw [if_pos hle] at ht'
    have hl : ts.length ≤ 1000 := by rw [← tys_len ht']; exact of_decide_eq_true hle
    obtain ⟨b1, b2⟩ := tys_pa ok ht'
    refine pe_mono (pe_callB call_isiT hg hm rfl (pa_cons ha (pa_cons (pe_tup b1) pa_nil (starEach_cons hn2.1)) (starEach_cons hn'.1)) (by decide) (by decide) (starEach_cons hn'.1) (any_nil hn'.2)) fun σ H Q l => ?_
    have sl : ts.length ≤ sizeLine := by have : (1000 : Nat) ≤ sizeLine := by decide
                                         omega
    have l2 := lift_un (isiD_okT b2 sl) l
    exact liftO_mono l2 fun x H1 h => tTys_eq ts σ H1 _ ⟨h.1, fun q n => h.2 q n⟩
  | Name x q =>
    obtain ⟨b, e, rfl⟩ := map_some (show (tyName C (.Name x q)).map (fun t => [t]) = some ts from ht)
    exact one e
  | _ => cases ht
end
end DL

namespace DL
variable [TB]
open PySem PySem.Spec PyProof.Rows L2
section
variable {X : Cx} {M : Sem} {C : CC}
/-! ### targets -/
theorem assign_len {env : Env} : ∀ {es : List Expr}, es.all notStar = true → (assignEach es env).length = es.length
  | [], _ => rfl
  | e :: es, h => by
    rw [List.all_cons, Bool.and_eq_true] at h
    rw [assignEach_cons h.1]
    exact congrArg Nat.succ (assign_len h.2)
theorem assign_find {env : Env} : ∀ {es : List Expr}, es.all notStar = true → (assignEach es env).findIdx? (·.1) = none
  | [], _ => rfl
  | e :: es, h => by
    rw [List.all_cons, Bool.and_eq_true] at h
    rw [assignEach_cons h.1, List.findIdx?_cons]
    show (if false = true then _ else _) = _
    rw [if_neg (fun h => by cases h), assign_find h.2]
    rfl
theorem assign_map {env : Env} {e : Expr} {es : List Expr} (h : notStar e = true) : (assignEach (e :: es) env).map (·.2) = assign e env :: (assignEach es env).map (·.2) := by
  rw [assignEach_cons h]
  rfl
theorem tg_ok (ok : XOk C M X) : ∀ (n : Nat) (e : Expr) (t : Tg), sizeOf e < n → cTg C e = some t → PG X e (gT X.K t) ∧ notStar e = true
  | 0, e, t, hs, h => absurd hs (Nat.not_lt_zero _)
  | n + 1, e, t, hs, h => by
    have tgs : ∀ (es : List Expr) (ts : List Tg), sizeOf es < n → cTgs C es = some ts → PGs X es (gTs X.K ts) ∧ es.all notStar = true ∧ es.length = ts.length := fun es => by
      induction es with
      | nil => intro ts _ h; cases h; exact ⟨pgs_nil, rfl, rfl⟩
      | cons e es ih =>
        intro ts hs h
        have hs' : 1 + sizeOf e + sizeOf es < n := hs
        change (match cTg C e, cTgs C es with
          | some t, some ts => some (t :: ts)
          | _, _ => none) = some ts at h
        split at h
        · rename_i t ts' h1 h2
          cases h
          obtain ⟨a1, a2⟩ := tg_ok ok n e t (by omega) h1
          obtain ⟨b1, b2, b3⟩ := ih ts' (by omega) h2
          exact ⟨pgs_cons a1 b1 (assign_map a2), by rw [List.all_cons, a2, b2]; rfl, congrArg Nat.succ b3⟩
        · cases h
    cases e with
    | Name x p =>
      obtain ⟨i, e1, rfl⟩ := map_some (show (slotSt C x).map Tg.nm = some t from h)
      obtain ⟨h1, h2, h3⟩ := ok.slotSt e1
      exact ⟨pg_name ok.nd' h1 h2 h3, rfl⟩
    | Tuple es k p =>
      obtain ⟨ts, e1, rfl⟩ := map_some (show (cTgs C es).map Tg.tp = some t from h)
      have hs' := hs
      simp only [Expr.Tuple.sizeOf_spec] at hs'
      obtain ⟨b1, b2, b3⟩ := tgs es ts (by omega) e1
      exact ⟨pg_seq (n := ts.length) ok.calm b1 (by rw [assign_len b2, b3]) (assign_find b2), rfl⟩
    | _ => cases h
theorem pg_tg (ok : XOk C M X) {e : Expr} {t : Tg} (h : cTg C e = some t) : PG X e (gT X.K t) := (tg_ok ok _ e t (Nat.lt_succ_self _) h).1
/-! ### what is iterated -/
theorem rgv_eq {t : Bool} {es : List E} : wX M (.rgv t es) = ⟨(wX M (.rgv t es)).e, wTru (asOp (wX M (.rgv t es)).e), wSeq' (wX M (.rgv t es)).e⟩ := by
  match es with
  | [] => rfl
  | [a] => rfl
  | [a, b] => rfl
  | a :: b :: c :: l => rfl
theorem it_seq {c : E} (h : isIt c = false) : (wX M c).i = wSeq' (wX M c).e := by
  cases c with
  | lc elt tg it ifs own =>
    match ifs with
    | [] => rfl
    | [c] => rfl
    | a :: b :: l => rfl
  | rgv t es => rw [rgv_eq]
  | rng es => cases h
  | zip es => cases h
  | enm es => cases h
  | _ => rfl
theorem lc_eq {elt it : E} {tg : Tg} {ifs : List E} {own : List Nat} : wX M (.lc elt tg it ifs own) = ⟨(wX M (.lc elt tg it ifs own)).e, wTru (asOp (wX M (.lc elt tg it ifs own)).e), wSeq' (wX M (.lc elt tg it ifs own)).e⟩ := by
  match ifs with
  | [] => rfl
  | [c] => rfl
  | a :: b :: l => rfl
theorem gi_ok {n : Nat} (ok : XOk C M X) (h : ∀ e, GE X M e (cE n C e)) {tg : Expr} (e : Expr) : PI X tg e (liftI X.K (wX M (cIt (cE n C) C (isTup tg) e)).i) := by
  have seq : ∀ e, PI X tg e (liftI X.K (wX M (cE n C e)).i) := fun e => by
    rw [it_seq (cE_it n C e)]
    exact pi_mono (pi_seq (h e).v) fun σ H Q => lift_seq
  have no : PI X tg e (liftI X.K (wX M .bad).i) := pi_no (lift_noI fun s R w => w)
  unfold cIt
  split
  · rename_i x p args pos
    split
    · rename_i c
      rw [Bool.and_eq_true, Bool.and_eq_true] at c
      obtain ⟨hg, hn⟩ := ok.gl c.1
      have hm : X.mg x = none := ok.tab.fr x (of_decide_eq_true c.2.1)
      split
      · rename_i ex
        subst ex
        split
        · rename_i cl
          match args, c.2.2, cl with
          | [], _, cl => cases cl
          | [a], hs, _ =>
            exact pi_mono (pi_range1 hg hm (ga_ol ok h [a] hs) (starEach_cons (by rw [List.all_cons, Bool.and_eq_true] at hs; exact hs.1))) fun σ H Q l => lift_rng1 (wos := wOl M (List.map (cE n C) [a])) l
          | [a, b], hs, _ =>
            have hs' := hs
            rw [List.all_cons, Bool.and_eq_true] at hs'
            have hs2 := hs'.2
            rw [List.all_cons, Bool.and_eq_true] at hs2
            exact pi_mono (pi_range2 hg hm (ga_ol ok h [a, b] hs) (by rw [starEach_cons hs'.1, starEach_cons hs2.1]; rfl) (starEach_cons hs2.1)) fun σ H Q l => lift_rng2 (wos := wOl M (List.map (cE n C) [a, b])) l
          | a :: b :: d :: es, _, cl =>
            have : ¬ ((decide ((a :: b :: d :: es).length = 1) || decide ((a :: b :: d :: es).length = 2)) = true) := by simp
            exact absurd cl this
        · exact no
      · split
        · rename_i ex
          subst ex
          split
          · rename_i cl
            rw [Bool.and_eq_true] at cl
            have l2 : args.length = 2 := of_decide_eq_true cl.2
            match args, c.2.2, l2 with
            | [a, b], hs, _ =>
              have hs' := hs
              rw [List.all_cons, Bool.and_eq_true] at hs'
              cases tg with
              | Tuple es k tp => exact pi_mono (RZ.pi_zipA hg hm (ga_vl h [a, b] hs) (starEach_cons hs'.1) (any_nil hs'.2)) fun σ H Q l => lift_zip (w := wVl M (List.map (cE n C) [a, b])) l
              | _ => cases cl.1
          · exact no
        · split
          · rename_i ex
            subst ex
            split
            · rename_i a ht
              have hs := c.2.2
              rw [List.all_cons, Bool.and_eq_true] at hs
              cases tg with
              | Tuple es k tp => exact pi_mono (pi_enumA hg hm (pa_cons (h a).v pa_nil (starEach_cons hs.1)) (starEach_cons hs.1)) fun σ H Q l => lift_enm (w := (wX M (cE n C a)).e) l
              | _ => cases ht
            · exact no
          · exact seq _
    · exact seq _
  · exact seq _
/-! ### comprehensions -/
theorem fold_ok {e : Expr} {env : Env} (h : isSet e = false) : ∀ x, foldedSetIterable e env x = pure x := by
  cases e <;> first | (intro x; rfl) | cases h
theorem relabel_eq (scope : Scope) (env : Env) : relabel scope env = relS scope env.scope := rfl
theorem blk_ok (ok : XOk C M X) {scope : Scope} {own : List (Str × Nat)} (hk : BlkOk C.N C.sc scope own) (s : Shared) (H : Hp) (Cc : Addr) (cl : List (Str × Addr)) (fp : List Addr) : XOk (C.blk scope) M (X.blk s H scope (compEnvC scope cl Cc X.env) fp) where
  sc := by
    show relabel scope X.env = relS scope C.sc
    rw [relabel_eq, ok.sc]
  N := ok.N
  nd := ok.nd
  calm := ok.calm
  xe := rfl
  room := ok.room
  fn := fun x h => by
    unfold canSt at h
    rw [Bool.and_eq_true] at h
    have h2 : (decide (scope.names.lookup x = some .cell) || decide ((relS scope C.sc).names.lookup x = some .local)) = true := h.2
    rw [Bool.or_eq_true] at h2
    rcases h2 with h2 | h2
    · left
      show (scope.names.lookup x == some .cell) = true
      rw [of_decide_eq_true h2]
      rfl
    · right
      show (relabel scope X.env).names.lookup x = some .local
      rw [relabel_eq, ok.sc]
      exact of_decide_eq_true h2
  tab := ⟨ok.tab.call, ok.tab.bi, ok.tab.con, ok.tab.meth, ok.tab.attr, ok.tab.key, ok.tab.fr⟩
  kp := ok.kp
  fk := hk.kind
  lam := fun h => (by cases h)
theorem pts_mono {es : List Expr} {t t' : TT} (h : PTs X es t) (m : ∀ σ H Q, t' σ H Q → t σ H Q) : PTs X es t' := ⟨fun pins s σ H Q I q => h.run pins s σ H Q I (m σ H Q q)⟩
structure LcOk (n : Nat) (C : CC) (M : Sem) (X : Cx) (elt tg it : Expr) (ifs : List Expr) (scope : Scope) (t : Tg) (tt : DT) : Prop where
  pi : PI X tg it (liftI X.K (wX M (cIt (cE n C) C (isTup tg) it)).i)
  blk : BlkOk X.N X.env.scope scope (ownOf C.N scope)
  pg : ∀ (s : Shared) (H : Hp) (Cc : Addr) (cl : List (Str × Addr)) (fp : List Addr), PG (X.blk s H scope (compEnvC scope cl Cc X.env) fp) tg (gT X.K t)
  pt : ∀ (s : Shared) (H : Hp) (Cc : Addr) (cl : List (Str × Addr)) (fp : List Addr), PTs (X.blk s H scope (compEnvC scope cl Cc X.env) fp) ifs (liftT X.K tt)
  pe : ∀ (s : Shared) (H : Hp) (Cc : Addr) (cl : List (Str × Addr)) (fp : List Addr), PE (X.blk s H scope (compEnvC scope cl Cc X.env) fp) elt (lift X.K (wX M (cE n (C.blk scope) elt)).e)
  fold : ∀ x, foldedSetIterable it X.env x = pure x
  own : ∀ j ∈ slotsTg t, j ∈ (ownOf C.N scope).map (·.2)
  eq : (wX M (.lc (cE n (C.blk scope) elt) t (cIt (cE n C) C (isTup tg) it) (ifs.map (cE n (C.blk scope))) ((ownOf C.N scope).map (·.2)))).e = wLc (wX M (cIt (cE n C) C (isTup tg) it)).i t ((ownOf C.N scope).map (·.2)) tt (wX M (cE n (C.blk scope) elt)).e
theorem lc_ok {n : Nat} (ih : ∀ C M X, XOk C M X → ∀ e, GE X M e (cE n C e)) (ok : XOk C M X) {elt tg it : Expr} {ifs : List Expr} {scope : Scope} {t : Tg} (ht : cTg (C.blk scope) tg = some t)
    (hc : ((blkC C.N C.sc scope (ownOf C.N scope) && (slotsTg t).all fun j => decide (j ∈ (ownOf C.N scope).map (·.2))) && (!isSet it && decide (ifs.length ≤ 1))) = true) : ∃ tt, LcOk n C M X elt tg it ifs scope t tt := by
  rw [Bool.and_eq_true, Bool.and_eq_true, Bool.and_eq_true] at hc
  obtain ⟨⟨hb, hsl⟩, hset, hl⟩ := hc
  have hl := of_decide_eq_true hl
  have bo : BlkOk C.N C.sc scope (ownOf C.N scope) := blkOk_by hb
  have bx : ∀ (s : Shared) (H : Hp) (Cc : Addr) (cl : List (Str × Addr)) (fp : List Addr), XOk (C.blk scope) M (X.blk s H scope (compEnvC scope cl Cc X.env) fp) := fun s H Cc cl fp => blk_ok ok bo s H Cc cl fp
  have base : ∀ tt, (∀ (s : Shared) (H : Hp) (Cc : Addr) (cl : List (Str × Addr)) (fp : List Addr), PTs (X.blk s H scope (compEnvC scope cl Cc X.env) fp) ifs (liftT X.K tt)) → (wX M (.lc (cE n (C.blk scope) elt) t (cIt (cE n C) C (isTup tg) it) (ifs.map (cE n (C.blk scope))) ((ownOf C.N scope).map (·.2)))).e = wLc (wX M (cIt (cE n C) C (isTup tg) it)).i t ((ownOf C.N scope).map (·.2)) tt (wX M (cE n (C.blk scope) elt)).e → LcOk n C M X elt tg it ifs scope t tt := fun tt hpt heq =>
    { pi := gi_ok ok (ih C M X ok) it, blk := by rw [ok.N, ok.sc]; exact bo, pg := fun s H Cc cl fp => pg_tg (bx s H Cc cl fp) ht, pt := hpt, pe := fun s H Cc cl fp => (ih _ M _ (bx s H Cc cl fp) elt).v
      fold := fold_ok (by simpa using hset)
      own := fun j hj => of_decide_eq_true (List.all_eq_true.mp hsl j hj)
      eq := heq }
  match ifs, hl, base with
  | [], _, base => exact ⟨_, base (fun s Q => Q true s) (fun s H Cc cl fp => pts_mono pts_nil fun σ H Q ⟨B, G, s, R, S, a, k⟩ => k true s G H S (.refl _) a) rfl⟩
  | [c], _, base => exact ⟨_, base _ (fun s H Cc cl fp => pts_one (ih _ M _ (bx s H Cc cl fp) c).t) rfl⟩
  | a :: b :: l, hl, _ => exact absurd hl (by simp)
theorem LcOk.pe' {n : Nat} (ok : XOk C M X) {elt tg it : Expr} {ifs : List Expr} {scope : Scope} {t : Tg} {tt : DT} {p : Pos} (h : LcOk n C M X elt tg it ifs scope t tt) : PE X (.ListComp elt [⟨tg, it, ifs, 0⟩] scope p) (lift X.K (wX M (.lc (cE n (C.blk scope) elt) t (cIt (cE n C) C (isTup tg) it) (ifs.map (cE n (C.blk scope))) ((ownOf C.N scope).map (·.2)))).e) := by
  rw [h.eq]
  exact pe_mono (pe_lc ok.calm ok.nd' h.pi h.blk h.pg h.pt h.pe h.fold) fun σ H Q => lift_lc h.own
/-! ### calls -/
theorem ge_call {n : Nat} (ok : XOk C M X) (h : ∀ e, GE X M e (cE n C e)) {x : Str} {k : Nat} {p pos : Pos} {es : List Expr} {kws : List Keyword} {ks : List Str} (hg : Gl X x) (hok : okName x = true) (hn : es.all notStar = true) (hks : kwNames kws = some ks)
    (hk : C.calls[k]? = some (x, es.length, ks)) : GE X M (.Call (.Name x p) es kws pos) (.call k (es.map (cArg (cE n C) C)) (kws.map fun kw => cArg (cE n C) C kw.value)) :=
  ge_val (w := wCall2 (es.map (cArg (cE n C) C)).length (M.fs k) (wAv M (es.map (cArg (cE n C) C))) (wAv M (kws.map fun kw => cArg (cE n C) C kw.value))) rfl (by rw [List.length_map]; exact ok.tab.call k x _ ks hk X rfl rfl rfl rfl rfl ok.calm ok.room hg hok es kws p pos _ _ rfl hks hn (fun e => by rw [e]; rfl) (fun e => by rw [e]; rfl) (ga_av ok h es hn) (gk_av ok h kws)) fun _ => rfl
theorem ge_bi {n : Nat} (ok : XOk C M X) (h : ∀ e, GE X M e (cE n C e)) {x : Str} {k : Nat} {p pos : Pos} {e : Expr} {es : List Expr} (hg : Gl X x) (hn : (e :: es).all notStar = true)
    (hk : C.bis[k]? = some (x, (e :: es).length)) : GE X M (.Call (.Name x p) (e :: es) [] pos) (.bi k ((e :: es).map (cE n C))) := by
  obtain ⟨r, h1, h2⟩ := ok.tab.bi k x _ hk
  exact ge_val rfl (pe_mono (h2 X rfl rfl rfl rfl rfl ok.calm (ok.room.mono (Nat.zero_le _)) hg e es p pos _ rfl hn (ga_ol ok h (e :: es) hn)) fun σ H Q => lift_fn h1) fun _ => rfl
theorem ge_cm {n : Nat} (ok : XOk C M X) (h : ∀ e, GE X M e (cE n C e)) {m : Str} {k : Nat} {apos pos : Pos} {o : Expr} {es : List Expr} {kws : List Keyword} {ks : List Str} (hb : baseOk o = true) (hl : lineOk apos pos = true) (hn : es.all notStar = true) (hks : kwNames kws = some ks)
    (hk : C.meths[k]? = some (m, es.length, ks)) (hf : es.length + kws.length < 25) : GE X M (.Call (.Attribute o m apos) es kws pos) (.cmeth k m (cE n C o) (es.map (cArg (cE n C) C)) (kws.map fun kw => cArg (cE n C) C kw.value)) :=
  ge_val rfl (ok.tab.meth k m _ ks hk X rfl rfl rfl rfl rfl ok.calm ok.room o es kws apos pos _ _ _ hb hl rfl hks hf hn (fun e => by rw [e]; rfl) (fun e => by rw [e]; rfl) (h o).v (ga_av ok h es hn) (gk_av ok h kws)) fun _ => rfl
theorem ge_attr {o : Expr} {co : E} {f : Str} {p : Pos} (ok : XOk C M X) (hb : baseOk o = true) (ho : PE X o (liftO X.K (opd co (wX M co).e))) : GE X M (.Attribute o f p) (.attr co f) :=
  ge_val rfl (pe_mono (pe_fld ho (base_ok hb)) fun σ H Q => lift_un (attrD_ok ok.tab.attr f)) fun _ => rfl
theorem kw_nil0 {kws : List Keyword} (h : kwNames kws = some []) : kws = [] := by
  cases kws with
  | nil => rfl
  | cons k ks =>
    unfold kwNames at h
    split at h <;> cases h
theorem ge_rgv {n : Nat} (ok : XOk C M X) (h : ∀ e, GE X M e (cE n C e)) {x : Str} {p pos : Pos} {args : List Expr} {kws : List Keyword} {ks : List Str} (hg : Gl X x) (hks : kwNames kws = some ks) (hn : args.all notStar = true) (hq : rgQ C x args ks = true) : GE X M (.Call (.Name x p) args kws pos) (rgE (cE n C) x args) := by
  unfold rgQ at hq
  split at hq
  · rename_i y yp as ap
    have hk0 := kw_nil0 hks
    subst hk0
    simp only [Bool.and_eq_true, Bool.or_eq_true, decide_eq_true_eq] at hq
    obtain ⟨⟨⟨gy, ey⟩, fy, ns⟩, hl, fx, hx⟩ := hq
    subst ey
    obtain ⟨hgy, _⟩ := ok.gl gy
    have hmy := ok.tab.fr _ fy
    have hmx := ok.tab.fr _ fx
    have na := starEach_cons (es := []) (env := X.env) (e := .Call (.Name "range" yp) as [] ap) rfl
    have h1 : ∀ (a : Expr), notStar a = true → starEach [a] X.env = (false, eval a X.env) :: starEach [] X.env := fun a ha => starEach_cons ha
    refine ge_val rgv_eq ?_ fun _ => rfl
    match as, hl, ns with
    | [], hl, _ => rcases hl with hl | hl <;> cases hl
    | [a], _, ns =>
      rw [List.all_cons, Bool.and_eq_true] at ns
      rcases hx with rfl | rfl
      · exact pe_mono (pe_listRg ok.calm hg hmx (prg_1 hgy hmy (ge_op ok (h a)) (h1 a ns.1)) na) fun σ H Q l => lift_un rg1L_ok l
      · exact pe_mono (pe_tupRg ok.calm hg hmx (prg_1 hgy hmy (ge_op ok (h a)) (h1 a ns.1)) na) fun σ H Q l => lift_un rg1T_ok l
    | [a, b], _, ns =>
      have ns' := ns
      rw [List.all_cons, Bool.and_eq_true] at ns'
      have ns2 := ns'.2
      rw [List.all_cons, Bool.and_eq_true] at ns2
      rcases hx with rfl | rfl
      · exact pe_mono (pe_listRg ok.calm hg hmx (prg_2 hgy hmy (ge_op ok (h a)) (ge_op ok (h b)) (starEach_cons ns'.1) (h1 b ns2.1) (any_nil ns'.2)) na) fun σ H Q l => lift_op rg2L_ok l
      · exact pe_mono (pe_tupRg ok.calm hg hmx (prg_2 hgy hmy (ge_op ok (h a)) (ge_op ok (h b)) (starEach_cons ns'.1) (h1 b ns2.1) (any_nil ns'.2)) na) fun σ H Q l => lift_op rg2T_ok l
    | a :: b :: c :: l, hl, _ => rcases hl with hl | hl <;> simp at hl
  · cases hq
theorem ge_callX {n : Nat} (ok : XOk C M X) (h : ∀ e, GE X M e (cE n C e)) {f : Expr} {args : List Expr} {kws : List Keyword} {pos : Pos} : GE X M (.Call f args kws pos) (cEo (cE n) C (.Call f args kws pos)) := by
  unfold cEo
  simp only
  split
  · rename_i hn
    split
    · rename_i x p
      split
      · rename_i g
        obtain ⟨hg, hok⟩ := ok.gl g
        split
        · rename_i ks hks
          split
          · rename_i hq
            exact ge_rgv ok h hg hks hn hq
          rename_i hnq
          clear hnq
          split
          · rename_i ex
            subst ex
            split
            · rename_i a t
              split
              · rename_i hf
                have hm := ok.tab.fr _ (of_decide_eq_true hf)
                have hk0 : kws = [] := by
                  cases kws with
                  | nil => rfl
                  | cons k ks =>
                    unfold kwNames at hks
                    split at hks <;> cases hks
                subst hk0
                split
                · rename_i ts ht
                  exact ge_isi ok hg hm (ge_op ok (h a)) hn ht
                · exact ge_bad
              · exact ge_bad
            · exact ge_bad
          · split
            · rename_i k hk
              obtain ⟨y, h1, h2⟩ := ixP_ok hk
              have e3 := of_decide_eq_true h2
              subst e3
              exact ge_call ok h hg hok hn hks h1
            · split
              · rename_i a as k hk hnone
                have hk0 : kws = [] := by
                  cases kws with
                  | nil => rfl
                  | cons k ks =>
                    unfold kwNames at hks
                    split at hks <;> cases hks
                subst hk0
                obtain ⟨y, h1, h2⟩ := ixP_ok hk
                have e3 := of_decide_eq_true h2
                subst e3
                exact ge_bi ok h hg hn h1
              · exact ge_bad
        · exact ge_bad
      · exact ge_bad
    · rename_i o m apos
      split
      · rename_i c
        rw [Bool.and_eq_true] at c
        split
        · rename_i ks hks
          split
          · rename_i k hk
            obtain ⟨y, h1, h2⟩ := ixP_ok hk
            have e3 := of_decide_eq_true h2
            subst e3
            split
            · rename_i hf
              exact ge_cm ok h c.1 c.2 hn hks h1 (of_decide_eq_true hf)
            · exact ge_bad
          · split
            · rename_i e0
              subst e0
              have hk0 : kws = [] := by
                cases kws with
                | nil => rfl
                | cons k ks =>
                  unfold kwNames at hks
                  split at hks <;> cases hks
              subst hk0
              split
              · rename_i x p
                split
                · rename_i i hs
                  split
                  · rename_i hm
                    exact ge_mutL ok h hs c.2 hm hn
                  · exact ge_cMeth ok h c.1 c.2 hn
                · exact ge_cMeth ok h c.1 c.2 hn
              · exact ge_cMeth ok h c.1 c.2 hn
            · exact ge_bad
        · exact ge_bad
      · exact ge_bad
    · exact ge_bad
  · exact ge_bad
/-! ### dict displays -/
theorem lift_mono {K : PySem.W.Frag} {w : DE} {σ : L2.St} {H : Hp} {Q Q' : VK} (h : lift K w σ H Q) (m : ∀ v H, Q v H → Q' v H) : lift K w σ H Q' := by
  obtain ⟨B, G, s, R, S, a, k⟩ := h
  exact ⟨B, G, s, R, S, a, fun o s' G' H' v S' e r q => m _ _ (k o s' G' H' v S' e r q)⟩
def trsOf (K : PySem.W.Frag) (M : Sem) : List E → List (TE × TE)
  | k :: v :: r => (lift K (wX M k).e, lift K (wX M v).e) :: trsOf K M r
  | _ => []
def flatV2 : List (V × V) → List V
  | [] => []
  | p :: ps => p.1 :: p.2 :: flatV2 ps
theorem lift_pairs {K : PySem.W.Frag} {M : Sem} {σ : L2.St} : ∀ {f : Expr → E} {ks : List (Option Expr)} {vs : List Expr} {es : List E} {H : Hp} {Q : List V → Hp → Prop}, dctE f ks vs = some es → liftV K (wVl M es) σ H Q → tPairs (trsOf K M es) σ H fun ps H2 => Q (flatV2 ps) H2
  | f, [], [], es, H, Q, h, l => by cases h; exact lift_vnil l
  | f, some k :: ks, v :: vs, es, H, Q, h, l => by
    obtain ⟨es', h1, rfl⟩ := map_some (show (dctE f ks vs).map (fun l => f k :: f v :: l) = some es from h)
    have l1 := lift_vcons (a := (wX M (f k)).e) (b := wVl M (f v :: es')) l
    refine lift_mono l1 fun x H1 l2 => ?_
    have l3 := lift_vcons (a := (wX M (f v)).e) (b := wVl M es') l2
    refine lift_mono l3 fun y H2 l4 => ?_
    exact lift_pairs h1 l4
  | f, none :: ks, vs, es, H, Q, h, l => by cases vs <;> cases h
  | f, [], v :: vs, es, H, Q, h, l => by cases h
  | f, some k :: ks, [], es, H, Q, h, l => by cases h
theorem trs_mono {K : PySem.W.Frag} {M : Sem} : ∀ {es : List E} {σ : L2.St} {H : Hp} {Q Q' : List (V × V) → Hp → Prop}, tPairs (trsOf K M es) σ H Q → (∀ ps H, Q ps H → Q' ps H) → tPairs (trsOf K M es) σ H Q'
  | [], σ, H, Q, Q', h, m => m _ _ h
  | [e], σ, H, Q, Q', h, m => m _ _ h
  | k :: v :: r, σ, H, Q, Q', h, m => lift_mono h fun x H1 h1 => lift_mono h1 fun y H2 h2 => trs_mono (es := r) h2 fun ps H3 q => m _ _ q
theorem pps_ok {M : Sem} {X : Cx} {f : Expr → E} (h : ∀ e, GE X M e (f e)) {pos : Pos} : ∀ {ks : List (Option Expr)} {vs : List Expr} {es : List E}, dctE f ks vs = some es → PPs X pos ks vs (trsOf X.K M es) ∧ ks.all (·.isSome) = true ∧ ks.length = vs.length
  | [], [], es, q => by cases q; exact ⟨pps_nil, rfl, rfl⟩
  | some k :: ks, v :: vs, es, q => by
    obtain ⟨es', h1, rfl⟩ := map_some (show (dctE f ks vs).map (fun l => f k :: f v :: l) = some es from q)
    obtain ⟨a, b, c⟩ := pps_ok h h1
    exact ⟨pps_cons (h k).v (h v).v a, by rw [List.all_cons, b]; rfl, congrArg Nat.succ c⟩
  | none :: ks, vs, es, q => by cases vs <;> cases q
  | [], v :: vs, es, q => by cases q
  | some k :: ks, [], es, q => by cases q
theorem keyD_ok {K : PySem.W.Frag} {G : Hp} {d : D} {k : Key} {v : V} (h : keyD d = some k) (r : Rep K G d v) : v = kV k := by
  unfold keyD at h
  split at h
  · cases h; exact r
  · cases h; exact r
  · cases h
theorem pairD_ok {K : PySem.W.Frag} {G : Hp} : ∀ {ps : List (V × V)} {ds : List D} {qs : List (Key × D)}, Reps K G ds (flatV2 ps) → pairD ds = some qs → ∃ kvs : List (Key × V), ps = kvs.map (fun kv => (kV kv.1, kv.2)) ∧ kvs.map (·.1) = qs.map (·.1) ∧ Reps K G (qs.map (·.2)) (kvs.map (·.2))
  | [], ds, qs, r, h => by
    cases ds with
    | nil => cases h; exact ⟨[], rfl, rfl, rfl⟩
    | cons d ds => obtain ⟨v, r', e, _⟩ := r; cases e
  | p :: ps, ds, qs, r, h => by
    cases ds with
    | nil => cases r
    | cons d ds =>
      cases ds with
      | nil => cases h
      | cons d2 ds =>
        obtain ⟨v, r', e, r1, v2, r2', e2, r2, r3⟩ := r
        cases e
        cases e2
        change (match keyD d, pairD ds with
          | some k, some ps => some ((k, d2) :: ps)
          | _, _ => none) = some qs at h
        split at h
        · rename_i k qs' hk hq
          cases h
          obtain ⟨kvs, rfl, e4, e5⟩ := pairD_ok r3 hq
          exact ⟨(k, p.2) :: kvs, by rw [List.map_cons, ← keyD_ok hk r1], by rw [List.map_cons, List.map_cons, e4], ⟨p.2, _, rfl, r2, e5⟩⟩
        · cases h
theorem putK_new {k : Key} {v : V} {kvs : List (Key × V)} (h : k ∉ kvs.map (·.1)) : putK kvs k v = kvs ++ [(k, v)] := by
  unfold putK
  rw [if_neg]
  intro q
  rw [List.any_eq_true] at q
  obtain ⟨p, h1, h2⟩ := q
  exact h (List.mem_map.mpr ⟨p, h1, of_decide_eq_true h2⟩)
theorem mergeK_new : ∀ {more kvs : List (Key × V)}, ((kvs ++ more).map (·.1)).Nodup → mergeK kvs more = kvs ++ more
  | [], kvs, h => by rw [List.append_nil]; rfl
  | p :: more, kvs, h => by
    have e : kvs ++ p :: more = (kvs ++ [p]) ++ more := by rw [List.append_assoc]; rfl
    show mergeK (putK kvs p.1 p.2) more = _
    have hp : p.1 ∉ kvs.map (·.1) := by
      rw [List.map_append, List.map_cons] at h
      intro hm
      exact (List.nodup_append.mp h).2.2 _ hm _ (.head _) rfl
    rw [putK_new hp, e]
    rw [e] at h
    exact mergeK_new h
theorem lift_dct {K : PySem.W.Frag} {M : Sem} {f : Expr → E} {ks : List (Option Expr)} {vs : List Expr} {es : List E} (hd : dctE f ks vs = some es) {σ : L2.St} {H : Hp} {Q : VK} (h : lift K (wDct (wVl M es)) σ H Q) : tDisp (trsOf K M es) σ H Q := by
  intro p hp
  obtain ⟨B, G, s, R, S, w, k⟩ := h
  have hB : B p = none := by
    cases q : B p with
    | none => rfl
    | some o => rw [S.bH _ _ q] at hp; cases hp
  have l : liftV K (wVl M es) σ (upd H p (.dK [])) fun us H2 => ∀ ps, us = flatV2 ps → H2 p = some (.dK []) ∧ ∃ kvs : List (Key × V), ps = kvs.map (fun kv => (kV kv.1, kv.2)) ∧ kvs.length ≤ 15 ∧ Q (.ref p) (upd H2 p (.dK (mergeK [] kvs))) := by
    refine ⟨_, G, s, _, S.guard (o := .dK []) hp, w, fun ds s1 G1 H1 us S1 sm r q ps e => ?_⟩
    subst e
    have hH : H1 p = some (.dK []) := S1.bH _ _ upd_same
    split at q
    · rename_i qs hq
      obtain ⟨kvs, rfl, e1, e2⟩ := pairD_ok r hq
      have ln : kvs.length = qs.length := by have := congrArg List.length e1; rwa [List.length_map, List.length_map] at this
      have nd : (kvs.map (·.1)).Nodup := by rw [e1]; exact q.1.2
      have mk : mergeK [] kvs = kvs := (mergeK_new (kvs := []) (by rw [List.nil_append]; exact nd)).trans (List.nil_append _)
      refine ⟨hH, kvs, rfl, by rw [ln]; exact q.1.1, ?_⟩
      rw [mk]
      have S2 := (S1.bupd (o' := .dK kvs))
      have S3 := S2.unguard hB
      refine k (.ow (.dic (qs.map (·.1)) (qs.map (·.2)))) s1 G1 _ (.ref p) S3 sm ⟨p, .dK kvs, rfl, S1.dj p _ upd_same, hB, upd_same, ⟨p, kvs, rfl, upd_same, e1, e2⟩, rfl, fun i e hi he => ?_⟩ q.2
      obtain ⟨a, o, h1, h2, h3, _⟩ := S2.ow i e hi
      rw [he] at h1
      cases h1
      rw [upd_same] at h3
      cases h3
    · cases q
  have l2 := lift_pairs hd l
  exact trs_mono l2 fun ps H2 q => q ps rfl
theorem lift_dct0 {K : PySem.W.Frag} {M : Sem} {σ : L2.St} {H : Hp} {Q : VK} (h : lift K (wDct (wVl M [])) σ H Q) : tDNewK σ H Q := by
  intro p hp
  obtain ⟨B, G, s, R, S, w, k⟩ := h
  have hB : B p = none := by
    cases q : B p with
    | none => rfl
    | some o => rw [S.bH _ _ q] at hp; cases hp
  have hw : R (.ow (.dic [] [])) s := w.2
  have g : Gr G H G (upd H p (.dK [])) := Gr.laid S.gH hp
  exact k _ s G _ (.ref p) (S.grow g) (.refl _) (S.res g (show NRep K G (upd H p (.dK [])) H (.ow (.dic [] [])) (.ref p) from ⟨p, .dK [], rfl, hp, free_of S.gH hp, upd_same, ⟨p, [], rfl, upd_same, rfl, rfl⟩, rfl⟩)) hw
theorem ge_dct {M : Sem} {X : Cx} {f : Expr → E} (h : ∀ e, GE X M e (f e)) {ks : List (Option Expr)} {vs : List Expr} {es : List E} {p : Pos} (he : dctE f ks vs = some es) (hl : ks.length ≤ 15) : GE X M (.Dict ks vs p) (.dct es []) := by
  obtain ⟨a, b, c⟩ := pps_ok h (pos := p) he
  cases ks with
  | nil =>
    cases vs with
    | nil => cases he; exact ge_val rfl (pe_mono pe_dnewK fun σ H Q => lift_dct0) fun _ => rfl
    | cons v vs => cases c
  | cons k ks => exact ge_val rfl (pe_mono (pe_disp a b c (fun e => by cases e) hl) fun σ H Q => lift_dct he) fun _ => rfl
theorem plainIx {b : Expr} (h : isSlice b = false) : PlainIx b := by
  cases b <;> first | (intro o i; rfl) | cases h
/-! ### more constructs -/
theorem wTs_ok {n : Nat} {C : CC} {ifs : List Expr} (hl : ifs.length ≤ 1) (h : ∀ e, GE X M e (cE n C e)) : PTs X ifs (liftT X.K (wTs M (ifs.map (cE n C)))) := by
  match ifs, hl with
  | [], _ => exact pts_mono pts_nil fun σ H Q ⟨B, G, s, R, S, a, k⟩ => k true s G H S (.refl _) a
  | [c], _ => exact pts_one (h c).t
  | a :: b :: l, hl => exact absurd hl (by simp)
theorem ge_srk {n : Nat} (ok : XOk C M X) (h : ∀ e, GE X M e (cE n C e)) {a : Expr} {g : Str} {k : Nat} {p gp kp pos : Pos} (hg : Gl X "sorted") (hm : X.mg "sorted" = none) (hs : notStar a = true) (gg : glB C g = true) (hk : C.keys[k]? = some g) :
    GE X M (.Call (.Name "sorted" p) [a] [⟨some "key", .Name g gp, kp⟩] pos) (.srk k (cE n C a)) := by
  obtain ⟨hgg, hok⟩ := ok.gl gg
  exact ge_val rfl (pe_mono (pe_srt (by have := ok.room.un; omega) hg hm (ge_op ok (h a)) (ok.tab.key k g hk X rfl rfl rfl rfl rfl ok.room hgg hok gp) fun env => starEach_cons hs) fun σ H Q l => lift_srk l) fun _ => rfl
theorem ge_srs {f : Expr → E} (h : ∀ e, GE X M e (f e)) (ok : XOk C M X) {a : Expr} {p q pos ipos : Pos} (hg : Gl X "sorted") (hm : X.mg "sorted" = none) (hg2 : Gl X "set") (hm2 : X.mg "set" = none) (hs : notStar a = true) :
    GE X M (.Call (.Name "sorted" p) [.Call (.Name "set" q) [a] [] ipos] [] pos) (.srs (f a)) := by
  have e1 : starEach [a] X.env = (false, eval a X.env) :: starEach [] X.env := starEach_cons hs
  have h1 := pe_callTy (p := q) (pos := ipos) (cr_setE ok.calm (by have := ok.room.un; omega)) hg2 hm2 (T := "set") rfl (pa_cons (h a).v pa_nil e1) (by decide) (by decide) e1 rfl
  have e2 : starEach [Expr.Call (.Name "set" q) [a] [] ipos] X.env = (false, eval (Expr.Call (.Name "set" q) [a] [] ipos) X.env) :: starEach [] X.env := starEach_cons rfl
  have h2 := pe_callB (p := p) (pos := pos) (cr_sortedE ok.calm (by have := ok.room.un; omega)) hg hm (id := "sorted") rfl (pa_cons h1 pa_nil e2) (by decide) (by decide) e2 rfl
  exact ge_val rfl (pe_mono h2 fun σ H Q l => lift_srs (P := X.prog) (w := X.w) l) fun _ => rfl
theorem lamX_ok {ps : Arguments} {sc : Scope} {q : Str × List Str × List Nat} (h : lamX C ps sc = some q) : ∃ pp, ps = ⟨[], [⟨q.1, none, pp⟩], none, [], [], none, []⟩ ∧ C.lam = true ∧ NdefX.nscB (q.1 :: q.2.1) [q.1] q.2.1 sc = true ∧ NdefX.ndefB C.sc sc q.2.1 = true ∧ q.2.2.map (fun j => C.N[j]?) = q.2.1.map some ∧ 2 ≤ C.lv := by
  unfold lamX at h
  split at h
  · rename_i y pp
    dsimp only at h
    split at h
    · rename_i c
      cases h
      simp only [Bool.and_eq_true, decide_eq_true_eq] at c
      exact ⟨pp, rfl, c.1.1, c.1.2, c.2.1, c.2.2.1, c.2.2.2⟩
    · cases h
  · cases h
theorem ge_srl {n : Nat} (ih : ∀ C M X, XOk C M X → ∀ e, GE X M e (cE n C e)) (ok : XOk C M X) {a body : Expr} {ps : Arguments} {sc : Scope} {q : Str × List Str × List Nat} {p lp kp pos : Pos} (hg : Gl X "sorted") (hm : X.mg "sorted" = none) (hs : notStar a = true) (hq : lamX C ps sc = some q) :
    GE X M (.Call (.Name "sorted" p) [a] [⟨some "key", .Lambda ps body sc lp, kp⟩] pos) (.srl (cE n C a) q.2.2 (1 + q.2.1.length) (cE n (C.lamC q.1 q.2.1 sc) body)) := by
  obtain ⟨pp, rfl, hl, h1, h2, h3, h4⟩ := lamX_ok hq
  obtain ⟨c, P, hcode, TBB, hmem, huni⟩ := ok.lam hl
  obtain ⟨y, fr, js⟩ := q
  have S := NdefX.nscope_by h1
  have hN : (y :: fr).length = 1 + fr.length := by rw [List.length_cons, Nat.add_comm]
  have ljs : js.length = fr.length := by have := congrArg List.length h3; rwa [List.length_map, List.length_map] at this
  refine ge_val rfl (pe_mono (pe_srt (by have := ok.room.un; omega) hg hm (ge_op ok (ih C M X ok a)) (key_lam (k := 0) (N := y :: fr) (js := js) TBB hcode hmem huni rfl S (fun z hz e => by rw [ok.sc]; exact NdefX.ndef_free h2 z hz e) (NdefX.ndef_fr h2) (by rw [ok.N]; exact h3) (fun _ _ _ _ _ => lam_binds _ _ _ _ _ _ _ _ _ _) (ok.room.mono h4)
    (te := lift X.K (wX M (cE n (C.lamC y fr sc) body)).e) fun f c' cl A outer s H hr => (ih (C.lamC y fr sc) M _ ?_ body).v) fun env => starEach_cons hs) fun σ H Q l => ?_) fun _ => rfl
  · exact {
      sc := rfl
      N := rfl
      nd := S.nd
      calm := rfl
      xe := rfl
      room := hr
      fn := fun x hx => (by
        right
        unfold canSt at hx
        rw [Bool.and_eq_true] at hx
        have hl := hx.1
        unfold locB at hl
        show sc.names.lookup x = some .local
        have hl : (match sc.names.lookup x with | some .local => true | some .cell => true | _ => false) = true := hl
        split at hl
        · assumption
        · rename_i e
          exact absurd rfl (S.nocell _ (PySem.mem_of_lookup e))
        · cases hl)
      tab := ⟨fun k x n ks e => (by cases e), fun k x n e => ok.tab.bi k x n e, ok.tab.con, fun k x n ks e => (by cases e), ok.tab.attr, fun k x e => (by cases e), ok.tab.fr⟩
      kp := ok.kp
      fk := S.kind
      lam := fun h => (by cases h) }
  · refine lift_srl (N := y :: fr) (q := X.env.qual ++ "<lambda>") (by rw [hN, ljs]; exact Nat.le_refl _) ?_
    rw [hN]
    exact l
theorem ge_xE {n : Nat} (ih : ∀ C M X, XOk C M X → ∀ e, GE X M e (cE n C e)) (ok : XOk C M X) {e : Expr} {c : E} (hx : xE (cE n) C e = some c) : GE X M e c := by
  have h := ih C M X ok
  unfold xE at hx
  split at hx
  · rename_i x p a kn fe kp pos
    split at hx
    · rename_i cc
      simp only [Bool.and_eq_true, decide_eq_true_eq] at cc
      obtain ⟨⟨⟨g, ex⟩, hf, ek⟩, hs⟩ := cc
      subst ex
      subst ek
      obtain ⟨hg, hok⟩ := ok.gl g
      have hm := ok.tab.fr _ hf
      split at hx
      · rename_i g2 gp
        split at hx
        · rename_i gg
          obtain ⟨k, hk, rfl⟩ := Option.map_eq_some_iff.mp hx
          obtain ⟨z, h1, h2⟩ := ixP_ok hk
          have e3 := of_decide_eq_true h2
          subst e3
          exact ge_srk ok h hg hm hs gg h1
        · cases hx
      · rename_i ps body sc lp
        obtain ⟨q, hq, rfl⟩ := Option.map_eq_some_iff.mp hx
        exact ge_srl ih ok hg hm hs hq
      · cases hx
    · cases hx
  · rename_i x p y q a ipos pos
    split at hx
    · rename_i cc
      cases hx
      simp only [Bool.and_eq_true, decide_eq_true_eq] at cc
      obtain ⟨⟨⟨g, ex⟩, hf, g2⟩, ⟨ey, hf2⟩, hs⟩ := cc
      subst ex
      subst ey
      exact ge_srs h ok (ok.gl g).1 (ok.tab.fr _ hf) (ok.gl g2).1 (ok.tab.fr _ hf2) hs
    · cases hx
  · rename_i t a y yp p
    split at hx
    · rename_i j hj
      split at hx
      · cases hx
        exact ge_ite (h t) (h a) (ge_val rfl (pe_mono (pe_slot ok hj) fun σ H Q l => lift_als l) fun _ => rfl)
      · cases hx
    · cases hx
  · rename_i elt tg x np ifs scope p
    split at hx
    · rename_i t i ht hi
      split at hx
      · rename_i cc
        cases hx
        simp only [Bool.and_eq_true, Bool.not_eq_true', decide_eq_true_eq] at cc
        obtain ⟨_, ⟨hb, hsl⟩, hset, hl⟩ := cc
        have bo : BlkOk C.N C.sc scope (ownOf C.N scope) := blkOk_by hb
        have bx : ∀ (s : Shared) (H : Hp) (Cc : Addr) (cl : List (Str × Addr)) (fp : List Addr), XOk (C.blk scope) M (X.blk s H scope (compEnvC scope cl Cc X.env) fp) := fun s H Cc cl fp => blk_ok ok bo s H Cc cl fp
        refine ge_val rfl (pe_mono (pe_lc (own := ownOf C.N scope) ok.calm ok.nd' (pi_seq (pe_slot ok hi)) (by rw [ok.N, ok.sc]; exact bo) (fun s H Cc cl fp => pg_tg (bx s H Cc cl fp) ht) (fun s H Cc cl fp => wTs_ok hl (ih _ M _ (bx s H Cc cl fp)))
          (fun s H Cc cl fp => (ih _ M _ (bx s H Cc cl fp) elt).v) (fold_ok hset)) fun σ H Q l => lift_lcv (fun j hj => of_decide_eq_true (List.all_eq_true.mp hsl j hj)) l) fun _ => rfl
      · cases hx
    · cases hx
  · rename_i elt tg it ifs tg1 it1 ifs1 scope p
    split at hx
    · rename_i t t1 ht ht1
      split at hx
      · rename_i cc
        cases hx
        simp only [Bool.and_eq_true, Bool.not_eq_true', decide_eq_true_eq] at cc
        obtain ⟨⟨⟨hb, hsl⟩, hsl1⟩, ⟨hset, hset1⟩, hl, hl1⟩ := cc
        have bo : BlkOk C.N C.sc scope (ownOf C.N scope) := blkOk_by hb
        have bx : ∀ (s : Shared) (H : Hp) (Cc : Addr) (cl : List (Str × Addr)) (fp : List Addr), XOk (C.blk scope) M (X.blk s H scope (compEnvC scope cl Cc X.env) fp) := fun s H Cc cl fp => blk_ok ok bo s H Cc cl fp
        have hv : ∀ i ∈ slotsTg t1, i ∈ (ownOf C.N scope).map (·.2) := fun j hj => of_decide_eq_true (List.all_eq_true.mp hsl1 j hj)
        refine ge_val rfl (pe_mono (pe_lc2 (own := ownOf C.N scope) (vs1 := slotsTg t1) (wi1 := liftI X.K (wX M (cIt (cE n (C.blk scope)) (C.blk scope) (isTup tg1) it1)).i) (g1 := gT X.K t1) (tt1 := liftT X.K (wTs M (ifs1.map (cE n (C.blk scope))))) ok.calm ok.nd' (gi_ok ok h it) (by rw [ok.N, ok.sc]; exact bo) hv
          (fun s H Cc cl fp => pg_tg (bx s H Cc cl fp) ht) (fun s H Cc cl fp => wTs_ok hl (ih _ M _ (bx s H Cc cl fp))) (fun s H Cc cl fp => gi_ok (bx s H Cc cl fp) (ih _ M _ (bx s H Cc cl fp)) it1) (fun s H Cc cl fp => pg_tg (bx s H Cc cl fp) ht1)
          (fun s H Cc cl fp => wTs_ok hl1 (ih _ M _ (bx s H Cc cl fp))) (fun s H Cc cl fp => (ih _ M _ (bx s H Cc cl fp) elt).v) (fold_ok hset) (fun env => fold_ok hset1)) fun σ H Q l => lift_lc2 (fun j hj => of_decide_eq_true (List.all_eq_true.mp hsl j hj)) (fun j hj => hj) hv l) fun _ => rfl
      · cases hx
    · cases hx
  · cases hx
end
/-- an expression does what its compact form says -/
theorem soundE : ∀ (n : Nat) (C : CC) (M : Sem) (X : Cx), XOk C M X → ∀ e, GE X M e (cE n C e)
  | 0, C, M, X, ok, e => ge_bad
  | n + 1, C, M, X, ok, e => by
    have ih := soundE n
    have h := ih C M X ok
    show GE X M e (match xE (cE n) C e with | some c => c | none => cEo (cE n) C e)
    split
    · rename_i c hx
      exact ge_xE ih ok hx
    cases e with
    | Constant c k p => exact ge_const (n := n) (C := C)
    | Name x p => exact ge_name ok
    | BinOp a o b p => exact ge_bin (ge_op ok (h a)) (ge_op ok (h b))
    | UnaryOp o a p =>
      cases o with
      | USub => exact ge_neg (ge_op ok (h a))
      | Not => exact ge_nt (h a)
      | _ => exact ge_bad
    | BoolOp o es p =>
      match o, es with
      | .And, [] => exact ge_bad
      | .And, [_] => exact ge_bad
      | .And, a :: b :: es => exact ge_and h
      | .Or, [] => exact ge_bad
      | .Or, [_] => exact ge_bad
      | .Or, a :: b :: es => exact ge_or h
    | IfExp t a b p => exact ge_ite (h t) (h a) (h b)
    | Compare a os bs p =>
      unfold cEo
      split
      all_goals try (exact ge_bad)
      all_goals (rename_i heq; cases heq)
      · split
        · exact ge_bad
        · rename_i hm
          exact ge_cmp ok.units (ge_op ok (h _)) (ge_op ok (h _)) (by simpa using hm)
      · split
        · exact ge_bad
        · rename_i hm
          exact ge_chn ok.units (ge_op ok (h _)) (ge_op ok (h _)) (ge_op ok (h _)) (by simpa using hm)
    | List es p =>
      show GE X M _ (if es.all notStar then _ else _)
      split
      · rename_i hs; exact ge_list h hs
      · exact ge_bad
    | Tuple es k p =>
      show GE X M _ (if es.all notStar then _ else _)
      split
      · rename_i hs; exact ge_tuple h hs
      · exact ge_bad
    | Dict ks vs p =>
      show GE X M _ (match dctE (cE n C) ks vs with
        | some es => if decide (ks.length ≤ 15) then .dct es [] else .bad
        | none => .bad)
      split
      · rename_i es he
        split
        · rename_i hl
          exact ge_dct h he (of_decide_eq_true hl)
        · exact ge_bad
      · exact ge_bad
    | Subscript a i p =>
      by_cases hi : isSlice i = true
      · cases i with
        | Slice lo hi st p2 =>
          cases st with
          | none => exact ge_slc ok h
          | some s =>
            unfold cEo
            simp only
            split
            · rename_i heq; cases heq
            · rename_i heq
              cases heq
              exact ge_val rfl (pe_mono (pe_revL (ge_op ok (h a))) fun σ H Q l => lift_un revD_ok l) fun _ => rfl
            · exact ge_bad
            · rename_i h1 h2; exact absurd rfl (h2 _ _ _ _)
        | _ => cases hi
      · have hi' : isSlice i = false := by simpa using hi
        have eq : cEo (cE n) C (.Subscript a i p) = .idx (cE n C a) (cE n C i) := by
          cases i <;> first | rfl | cases hi'
        rw [eq]
        exact ge_idx (ge_op ok (h a)) (ge_op ok (h i)) (plainIx hi')
    | ListComp elt gs scope p =>
      unfold cEo
      split
      all_goals try (exact ge_bad)
      all_goals (rename_i heq; cases heq)
      split
      · rename_i t ht
        split
        · rename_i hc
          obtain ⟨tt, hl⟩ := lc_ok ih ok (elt := elt) ht hc
          exact ge_val lc_eq (hl.pe' ok) fun _ => rfl
        · exact ge_bad
      · exact ge_bad
    | Call f args kws pos => exact ge_callX ok h
    | Attribute o f p =>
      show GE X M _ (if baseOk o then _ else _)
      split
      · rename_i hb; exact ge_attr ok hb (ge_op ok (h o))
      · exact ge_bad
    | _ => exact ge_bad
end DL

namespace DL
variable [TB]
open PySem PySem.Spec PyProof.Rows L2
section
variable {X : Cx} {M : Sem} {C : CC}
theorem ps_bad {st : Stmt} : PS X st (liftS X.K C.kp (wS M .bad)) := ⟨fun pins s σ H D I q => by obtain ⟨B, G, s, N, pn, S, a, b, w, k⟩ := q; cases w⟩
theorem disj_ok {l k : List Nat} (h : disj l k = true) : ∀ j ∈ l, j ∉ k := fun j hj => of_decide_eq_true (List.all_eq_true.mp h j hj)
theorem swap_ok {env : Env} {ts vs : List Expr} {k k2 : Nat} {p p2 : Pos} {r : Option (List Str)} (bk : env.blockKind = .function) (h : swapQ env.scope ts vs = some r) : swappedStores [.Tuple ts k p] (.Tuple vs k2 p2) env = pure r := by
  unfold swapQ at h
  unfold swappedStores
  have b0 : (env.blockKind != .function) = false := by rw [bk]; rfl
  dsimp only at h ⊢
  rw [b0, Bool.or_false]
  by_cases c1 : (!(ts.length == 2 || ts.length == 3) || vs.length != ts.length) = true
  · rw [if_pos c1] at h ⊢; cases h; rfl
  rw [if_neg c1] at h ⊢
  split at h
  · rename_i c2; cases h; exact if_pos c2
  · rename_i c2
    refine (if_neg c2).trans ?_
    split at h
    · rename_i c3
      cases h
      exact if_pos c3
    · rename_i c3
      refine (if_neg c3).trans ?_
      split at h
      · rename_i c4; cases h; exact if_pos c4
      · rename_i c4
        refine (if_neg c4).trans ?_
        split at h
        · cases h
        · rename_i c5
          cases h
          exact if_neg c5
theorem sw_set {v : Expr} {t : Option Expr} {l : Nat} {env : Env} (h : isComp v = false) : swapsWith v t l env = pure false := by
  cases v <;> first | rfl | cases h
theorem sw_tup {v : Expr} {ts : List Expr} {k : Nat} {p : Pos} {l : Nat} {env : Env} : swapsWithSole [.Tuple ts k p] v l env = pure false := by
  cases v <;> rfl
theorem sw_sub {v o i : Expr} {p : Pos} {l : Nat} {env : Env} : swapsWithSole [.Subscript o i p] v l env = pure false := by
  cases v <;> rfl
theorem ss_sub {v o i : Expr} {p : Pos} {env : Env} : swappedStores [.Subscript o i p] v env = pure none := by
  cases v <;> rfl
theorem as_sub {o i : Expr} {p : Pos} {env : Env} (h : isSlice i = false) : ∀ v, assign (Expr.Subscript o i p) env v = (do let ov ← holding [v] (eval o env); let iv ← holding [v, ov] (eval i env); standAt p; holding [v, ov, iv] (setItem ov iv v); PySem.release [v, ov, iv] []) := by
  cases i <;> first | (intro v; rfl) | cases h
theorem XOk.bk (ok : XOk C M X) : X.env.blockKind = .function := by
  unfold Env.blockKind
  rw [ok.sc, ok.fk]
  rfl
/-- a name is stored -/
theorem gs_set {n : Nat} (ok : XOk C M X) {x : Str} {px pos : Pos} {v : Expr} {i : Nat} (hs : slotSt C x = some i) (hd : disj [i] C.kp = true)
    (hv : (!isComp v || isLC v) = true) : PS X (.Assign [.Name x px] v pos) (liftS X.K C.kp (wS M (.set i (cE (n + 1) C v)))) := by
  obtain ⟨h1, h2, h3⟩ := ok.slotSt hs
  have hi := disj_ok hd i (.head _)
  have hE := (soundE (n + 1) C M X ok v).v
  by_cases hc : isComp v = true
  · rw [hc] at hv
    have hv' : isLC v = true := hv
    unfold isLC at hv'
    split at hv'
    · rename_i elt tg it ifs scope lp
      cases hb : (X.env.blockKind == .function && X.env.kindOf x == some .local && px.line == lp.line && !scope.names.any fun (n, k) => n == x && (k == .local || k == .cell)) with
      | false =>
        have e : swapsWith (.ListComp elt [⟨tg, it, ifs, 0⟩] scope lp) (some (.Name x px)) pos.line X.env = pure false := by
          rw [← hb]; rfl
        exact ps_mono (ps_set ok.nd' h1 h2 hE e h3) fun D σ H => lift_set hi
      | true =>
        have e : swapsWith (.ListComp elt [⟨tg, it, ifs, 0⟩] scope lp) (some (.Name x px)) pos.line X.env = pure true := by
          rw [← hb]; rfl
        have hl : X.env.scope.names.lookup x = some .local := by
          rw [Bool.and_eq_true, Bool.and_eq_true, Bool.and_eq_true] at hb
          have := hb.1.1.2
          exact eq_of_beq this
        show PS X _ (liftS X.K C.kp (wSet i (wX M (cE (n + 1) C (.ListComp elt [⟨tg, it, ifs, 0⟩] scope lp))).e))
        have eq : ∀ ce, cE (n + 1) C (.ListComp elt [⟨tg, it, ifs, 0⟩] scope lp) = ce → PS X (.Assign [.Name x px] (.ListComp elt [⟨tg, it, ifs, 0⟩] scope lp) pos) (liftS X.K C.kp (wSet i (wX M ce).e)) := fun ce hce => by
          change (match xE (cE n) C (.ListComp elt [⟨tg, it, ifs, 0⟩] scope lp) with | some c => c | none => cEo (cE n) C (.ListComp elt [⟨tg, it, ifs, 0⟩] scope lp)) = ce at hce
          cases hx : xE (cE n) C (.ListComp elt [⟨tg, it, ifs, 0⟩] scope lp) with
          | some c =>
            rw [hx] at hce
            change c = ce at hce
            subst hce
            cases it with
            | Name y np =>
              change (match cTg (C.blk scope) tg, slot C y with
                | some t, some i => if decide (i ∈ C.brw) && ((blkC C.N C.sc scope (ownOf C.N scope) && (slotsTg t).all fun j => decide (j ∈ (ownOf C.N scope).map (·.2))) && (!isSet (.Name y np) && decide (ifs.length ≤ 1))) then
                  some (E.lcv (cE n (C.blk scope) elt) t i (ifs.map (cE n (C.blk scope))) ((ownOf C.N scope).map (·.2))) else none
                | _, _ => none) = some c at hx
              split at hx
              · rename_i t i ht hi2
                split at hx
                · rename_i cc
                  cases hx
                  simp only [Bool.and_eq_true, Bool.not_eq_true', decide_eq_true_eq] at cc
                  obtain ⟨_, ⟨hb2, hsl⟩, hset, hl2⟩ := cc
                  have bo : BlkOk C.N C.sc scope (ownOf C.N scope) := blkOk_by hb2
                  have bx : ∀ (s : Shared) (H : Hp) (Cc : Addr) (cl : List (Str × Addr)) (fp : List Addr), XOk (C.blk scope) M (X.blk s H scope (compEnvC scope cl Cc X.env) fp) := fun s H Cc cl fp => blk_ok ok bo s H Cc cl fp
                  exact ps_mono (ps_setLc ok.calm ok.nd' h1 hl e (pi_seq (pe_slot ok hi2)) (by rw [ok.N, ok.sc]; exact bo) (fun s H Cc cl fp => pg_tg (bx s H Cc cl fp) ht) (fun s H Cc cl fp => wTs_ok hl2 (soundE n _ M _ (bx s H Cc cl fp))) (fun s H Cc cl fp => (soundE n _ M _ (bx s H Cc cl fp) elt).v) (fold_ok hset)) fun D σ H l => lift_lcv (fun j hj => of_decide_eq_true (List.all_eq_true.mp hsl j hj)) (lift_set hi l)
                · cases hx
              · cases hx
            | _ => cases hx
          | none =>
          rw [hx] at hce
          change cEo (cE n) C (.ListComp elt [⟨tg, it, ifs, 0⟩] scope lp) = ce at hce
          unfold cEo at hce
          simp only at hce
          split at hce
          · rename_i t ht
            split at hce
            · rename_i hcc
              subst hce
              obtain ⟨tt, L⟩ := lc_ok (fun C M X ok => soundE n C M X ok) ok (elt := elt) ht hcc
              rw [L.eq]
              exact ps_mono (ps_setLc ok.calm ok.nd' h1 hl e L.pi L.blk L.pg L.pt L.pe L.fold) fun D σ H l => lift_lc L.own (lift_set hi l)
            · subst hce
              exact ⟨fun pins s σ H D I q => by obtain ⟨B, G, s, N, pn, S, a, b, w, k⟩ := q; cases w⟩
          · subst hce
            exact ⟨fun pins s σ H D I q => by obtain ⟨B, G, s, N, pn, S, a, b, w, k⟩ := q; cases w⟩
        exact eq _ rfl
    · cases hv'
  · have hc' : isComp v = false := by simpa using hc
    exact ps_mono (ps_set ok.nd' h1 h2 hE (sw_set hc') h3) fun D σ H => lift_set hi
end
theorem pss_map {X : Cx} {M : Sem} {C : CC} {f : Stmt → S} (h : ∀ st, PS X st (liftS X.K C.kp (wS M (f st)))) : ∀ (b : List Stmt), PSs X b (liftS X.K C.kp (wSs M (b.map f)))
  | [] => pss_mono pss_nil fun D σ H => lift_next
  | st :: b => pss_mono (pss_cons (h st) (pss_map h b)) fun D σ H => lift_sq
/-- a statement does what its compact form says -/
theorem soundS : ∀ (n : Nat) (C : CC) (M : Sem) (X : Cx), XOk C M X → ∀ st, PS X st (liftS X.K C.kp (wS M (cS n C st)))
  | 0, C, M, X, ok, st => ps_bad
  | n + 1, C, M, X, ok, st => by
    have ih := soundS n C M X ok
    have h := soundE n C M X ok
    cases st with
    | Expr e p =>
      have gen : ∀ e, PS X (.Expr e p) (liftS X.K C.kp (wS M (if isComp e then .bad else .expr (cE n C e)))) := fun e => by
        split
        · exact ps_bad
        · rename_i hc
          exact ps_mono (ps_expr (h e).v (sw_set (by simpa using hc))) fun D σ H => lift_drop
      unfold cS
      simp only
      split
      · exact ps_mono ps_doc fun D σ H => lift_next
      · exact gen e
    | Return e p =>
      cases e with
      | none => exact ps_mono ps_retN fun D σ H => lift_retN
      | some e =>
        unfold cS
        simp only
        split
        · rename_i i hi
          obtain ⟨x, q, rfl, hs⟩ := (cE_head n C e).2 i hi
          refine ps_mono (ps_ret (pe_slot ok hs)) fun D σ H l => lift_retV (K := X.K) (kp := C.kp) ?_
          rw [← ok.kp]
          rw [← ok.kp] at l
          exact l
        · exact ps_mono (ps_ret (h e).v) fun D σ H => lift_ret
    | Pass p => exact ps_mono ps_pass fun D σ H => lift_next
    | Break p => exact ps_mono ps_break fun D σ H => lift_brk
    | Continue p => exact ps_mono ps_continue fun D σ H => lift_cnt
    | If c a b p => exact ps_mono (ps_if (h c).t (pss_map ih a) (pss_map ih b)) fun D σ H => lift_if
    | For tg it body oe p =>
      cases oe with
      | cons a l => exact ps_bad
      | nil =>
        unfold cS
        simp only
        split
        · rename_i t ht
          split
          · rename_i hc
            rw [Bool.and_eq_true] at hc
            exact ps_mono (ps_for ok.own ok.calm (gi_ok ok h it) (pg_tg ok ht) (pss_map ih body) (fold_ok (by simpa using hc.2))) fun D σ H => lift_for (disj_ok hc.1)
          · exact ps_bad
        · exact ps_bad
    | While c body oe p =>
      cases oe with
      | cons a l => exact ps_bad
      | nil => exact ps_mono (ps_while ok.own (h c).t (pss_map ih body)) fun D σ H => lift_while
    | Assign tgs v p =>
      match tgs with
      | [] => exact ps_bad
      | a :: b :: l => exact ps_bad
      | [tg] =>
        have unp : ∀ {ts : List Expr} {k : Nat} {tp : Pos} {t : Tg}, cTg C (.Tuple ts k tp) = some t → disj (slotsTg t) C.kp = true → swappedStores [.Tuple ts k tp] v X.env = pure none → PS X (.Assign [.Tuple ts k tp] v p) (liftS X.K C.kp (wS M (.unp t (cE n C v)))) := fun ht hd hsw =>
          ps_mono (ps_asg (h v).v (pg_tg ok ht) sw_tup hsw rfl) fun D σ H => lift_unp (disj_ok hd)
        cases tg with
        | Name x px =>
          unfold cS
          simp only
          split
          · rename_i i hs
            split
            · rename_i hc
              rw [Bool.and_eq_true] at hc
              cases n with
              | zero => exact ps_mono (ps_never) fun D σ H l => by obtain ⟨B, G, s, N, pn, S, a, b, w, k⟩ := l; cases w
              | succ n => exact gs_set ok hs hc.1 hc.2
            · exact ps_bad
          · exact ps_bad
        | Tuple ts k tp =>
          unfold cS
          simp only
          split
          · rename_i vs k2 vp
            split
            · rename_i hq
              have sw : swappedStores [.Tuple ts k tp] (.Tuple vs k2 vp) X.env = pure none := swap_ok ok.bk (by rw [ok.sc]; exact hq)
              split
              · rename_i t ht
                split
                · rename_i hd; exact unp ht hd sw
                · exact ps_bad
              · exact ps_bad
            · rename_i ns hq
              split
              · rename_i x px y py a b
                split
                · rename_i i j hi hj
                  split
                  · rename_i hc
                    simp only [Bool.and_eq_true, decide_eq_true_eq] at hc
                    obtain ⟨⟨hd, hij⟩, ⟨na, nb⟩, hns, lx, ly⟩ := hc
                    subst hns
                    obtain ⟨a1, a2, a3⟩ := ok.slotSt hi
                    obtain ⟨b1, b2, b3⟩ := ok.slotSt hj
                    have dj := disj_ok hd
                    refine ps_mono (ps_par ok.calm ok.nd' a1 b1 hij (by rw [ok.sc]; exact lx) (by rw [ok.sc]; exact ly) (pa_cons (h a).v (pa_cons (h b).v pa_nil (starEach_cons nb)) (starEach_cons na)) (swap_ok ok.bk (by rw [ok.sc]; exact hq)) sw_tup) fun D σ H => lift_par (dj i (.head _)) (dj j (.tail _ (.head _)))
                  · exact ps_bad
                · exact ps_bad
              · exact ps_bad
            · exact ps_bad
          · rename_i hnt
            have sw : swappedStores [.Tuple ts k tp] v X.env = pure none := by
              cases v <;> first | rfl | exact absurd rfl (hnt _ _ _)
            split
            · rename_i t ht
              split
              · rename_i hd; exact unp ht hd sw
              · exact ps_bad
            · exact ps_bad
        | Subscript o i sp =>
          cases o with
          | Name x px =>
            show PS X _ (liftS X.K C.kp (wS M (match slot C x with
              | some j => if !isSlice i then .sti j (cE n C i) (cE n C v) else .bad
              | none => .bad)))
            split
            · rename_i j hs
              split
              · rename_i hi
                exact ps_mono (ps_asg (h v).v (pg_sub (pe_slot ok hs) (ge_op ok (h i)) set_list (as_sub (by simpa using hi))) sw_sub ss_sub rfl) fun D σ H => lift_sti
              · exact ps_bad
            · exact ps_bad
          | _ => exact ps_bad
        | Attribute o f ap =>
          cases o with
          | Name x px =>
            show PS X _ (liftS X.K C.kp (wS M (match slot C x with
              | some j => .stf j f (cE n C v)
              | none => .bad)))
            split
            · rename_i j hs
              exact ps_mono (ps_fld (pe_slot ok hs) (h v).v (by cases v <;> rfl)) fun D σ H => lift_stf ok.tab.attr
            · exact ps_bad
          | _ => exact ps_bad
        | _ => exact ps_bad
    | AugAssign tg op v p =>
      cases tg with
      | Name x px =>
        cases op with
        | Add =>
          show PS X _ (liftS X.K C.kp (wS M (match slotSt C x with
            | some i => if disj [i] C.kp then .aug i (cE n C v) else .bad
            | none => .bad)))
          split
          · rename_i i hs
            split
            · rename_i hd
              obtain ⟨h1, h2, h3⟩ := ok.slotSt hs
              exact ps_mono (ps_aug ok.nd' h1 h2 (h v).v ip_add h3) fun D σ H => lift_aug (disj_ok hd i (.head _))
            · exact ps_bad
          · exact ps_bad
        | _ => exact ps_bad
      | _ => exact ps_bad
    | _ => exact ps_bad
end DL

namespace DL
variable [TB]
open PySem PySem.Spec PyProof.Rows L2
/-! ### a def -/
def outA (kp : List Nat) (n : Nat) (s : DSt) : List Sl := (List.range n).map fun i => if i ∈ kp then (s[i]?).getD .no else .no
def runF (kp : List Nat) (n nN : Nat) (body : DS) : FS := fun args R => args.length = n ∧ body { nx := fun s => R (.sh .non) (outA kp n s), rt := fun r s => R r (outA kp n s), bk := fun _ => False, ct := fun _ => False } (entry nN args)
section
variable {K : PySem.W.Frag} {B G H : Hp}
def pnOf (kp : List Nat) (vs : List V) : List (Nat × V) := kp.filterMap fun i => (vs[i]?).map fun v => (i, v)
theorem pnOf_mem {kp : List Nat} {vs : List V} {q : Nat × V} (h : q ∈ pnOf kp vs) : q.1 ∈ kp ∧ vs[q.1]? = some q.2 := by
  unfold pnOf at h
  rw [List.mem_filterMap] at h
  obtain ⟨i, h1, h2⟩ := h
  obtain ⟨v, h3, rfl⟩ := map_some h2
  exact ⟨h1, h3⟩
theorem pnOf_in {kp : List Nat} {vs : List V} {i : Nat} {v : V} (h : i ∈ kp) (hv : vs[i]? = some v) : (i, v) ∈ pnOf kp vs := by
  unfold pnOf
  rw [List.mem_filterMap]
  exact ⟨i, h, by rw [hv]; rfl⟩
theorem outA_get {kp : List Nat} {n i : Nat} {s : DSt} {x : Sl} (h : (outA kp n s)[i]? = some x) (hx : x ≠ .no) : i < n ∧ i ∈ kp ∧ s[i]? = some x := by
  unfold outA at h
  rw [List.getElem?_map] at h
  by_cases c : i < n
  · rw [List.getElem?_range c] at h
    have h' : (if i ∈ kp then (s[i]?).getD .no else .no) = x := by cases h; rfl
    by_cases k : i ∈ kp
    · rw [if_pos k] at h'
      refine ⟨c, k, ?_⟩
      cases q : s[i]? with
      | none => rw [q] at h'; exact absurd h'.symm hx
      | some y => rw [q] at h'; exact congrArg some h'
    · rw [if_neg k] at h'; exact absurd h'.symm hx
  · rw [List.getElem?_eq_none (by rw [List.length_range]; omega)] at h; cases h
theorem StRep.outs {kp : List Nat} {s : DSt} {σ : L2.St} {vs : List V} (S : StRep K B G s σ H) (p : Pn (pnOf kp vs) σ) : StRep K B G (outA kp vs.length s) (vs.map some) H := by
  have at_ : ∀ {i : Nat} {v : V}, i < vs.length → i ∈ kp → σ[i]? = some (some v) → (vs.map some)[i]? = some (some v) := fun {i v} c k e => by
    have q := p _ (pnOf_in k (List.getElem?_eq_getElem c))
    rw [show σ[i]? = some (some vs[i]) from q] at e
    cases e
    rw [List.getElem?_map, List.getElem?_eq_getElem c]
    rfl
  exact {
    bH := S.bH
    gH := S.gH
    dj := S.dj
    tb := S.tb
    len := by unfold outA; rw [List.length_map, List.length_map, List.length_range]
    sh := fun i d h => by
      obtain ⟨c, k, e⟩ := outA_get h (fun e => by cases e)
      obtain ⟨v, h1, h2⟩ := S.sh i d e
      exact ⟨v, at_ c k h1, h2⟩
    ow := fun i d h => by
      obtain ⟨c, k, e⟩ := outA_get h (fun e => by cases e)
      obtain ⟨a, o, h1, h2⟩ := S.ow i d e
      exact ⟨a, o, at_ c k h1, h2⟩
    ap := fun i j d e a h1 h2 h3 h4 => by
      obtain ⟨c1, k1, e1⟩ := outA_get h1 (fun e => by cases e)
      obtain ⟨c2, k2, e2⟩ := outA_get h2 (fun e => by cases e)
      obtain ⟨a1, o1, p1, _⟩ := S.ow i d e1
      obtain ⟨a2, o2, p2, _⟩ := S.ow j e e2
      have q1 := at_ c1 k1 p1
      have q2 := at_ c2 k2 p2
      rw [h3] at q1; rw [h4] at q2
      cases q1; cases q2
      exact S.ap i j d e a e1 e2 p1 p2 }
theorem RRep.outs {kp : List Nat} {s : DSt} {σ : L2.St} {vs : List V} (S : StRep K B G s σ H) (p : Pn (pnOf kp vs) σ) {r : Sl} {v : V} (h : RRep K B G H s σ r v) : RRep K B G H (outA kp vs.length s) (vs.map some) r v := by
  cases r with
  | no => exact h
  | sh d => exact h
  | ow d =>
    obtain ⟨q, o, h1, h2, h3, h4, h5, h6, h7⟩ := h
    refine ⟨q, o, h1, h2, h3, h4, h5, h6, fun i e hi he => ?_⟩
    obtain ⟨c, k, e1⟩ := outA_get hi (fun e => by cases e)
    refine h7 i e e1 ?_
    have q' := p _ (pnOf_in k (List.getElem?_eq_getElem c))
    rw [List.getElem?_map, List.getElem?_eq_getElem c] at he
    have e2 : vs[i] = V.ref q := Option.some.inj (Option.some.inj he)
    rw [← e2]
    exact q'
end
/-- what is checked of a def's text -/
structure DefC (C : CC) (ps : List Str) (params : Arguments) (body : List Stmt) (scope : Scope) (b : List S) : Prop where
  sc : FnScope C.N ps scope
  e : C.sc = scope
  f : C.fsc = none
  kp : ∀ i ∈ C.kp, i < ps.length
  b : body.map (cS 60 C) = b
theorem DefC.start {C : CC} {ps : List Str} {params : Arguments} {body : List Stmt} {scope : Scope} {b : List S} (d : DefC C ps params body scope b) : ps.length ≤ C.N.length := by
  have h := congrArg List.length d.sc.pre
  rw [List.length_take] at h
  omega
/-- a def keeps the promise that its compact body keeps -/
theorem fn_ok {P : Program} {w : World} {K : PySem.W.Frag} {mg : Str → Option Value} {base : Heap} {x qual : Str} {params : Arguments} {body : List Stmt} {scope : Scope} {dvs : List V} {kws : List (Str × V)} {f : Addr} {fd : FuncData} {C : CC} {M : Sem} {ps : List Str} {b : List S} {F : FS}
    (Fd : FunD K x qual params body scope dvs kws f fd) (d : DefC C ps params body scope b) (T : Tab P w K mg base C M) (hl : C.lam = true → ∃ c P, fd.code = .ref c ∧ LamX.TabB base mg c P ∧ (P, (qual ++ ".<locals>.") ++ "<lambda>") ∈ TB.tabs K ∧ ∀ p ∈ TB.tabs K, p.1 = P → p.2 = (qual ++ ".<locals>.") ++ "<lambda>") (hk : M.kp = C.kp) (hF : ∀ args R, F args R → runF C.kp ps.length C.N.length (wSs M b) args R) : FnOk P w K mg base CX0 (C.lv + 1) f fd ps (spOf K F) := by
  have hlen : ∀ (vs : List V) (H : Hp) (Q : VK) (E : XK), spOf K F vs H Q E → vs.length = ps.length := fun vs H Q E ⟨B, G, args, R, S, h, _⟩ => by
    have l := S.len
    rw [List.length_map] at l
    rw [← l]
    exact (hF args R h).1
  obtain ⟨oc, od, dV, kV, doc, pm, an, cdv, ct, osl, rfl, lk, hcd, _, _⟩ := Fd.ex
  refine L2.fn_of lk hcd d.sc hlen fun A outer s H vs Q E hr h => ⟨liftS K C.kp (wSs M b), PSs.nox ?_, ?t⟩
  case t =>
    have hl := hlen vs H Q E h
    obtain ⟨B, G, args, R, S, h1, k⟩ := h
    have h2 := (hF args R h1).2
    refine ⟨B, G, entry C.N.length args, _, pnOf C.kp vs, S.start (by rw [hl]; exact d.start), fun q hq => (pnOf_mem hq).1, fun q hq => ?_, h2, ?_⟩
    · obtain ⟨a1, a2⟩ := pnOf_mem hq
      refine start_get ?_
      rw [List.getElem?_map, a2]
      rfl
    · exact {
        nx := fun s' G' σ' H' S' e p q => by
          rw [← hl] at q
          exact k (.sh .non) _ G' H' .non (S'.outs p) e rfl q
        bk := fun s' G' σ' H' S' e p q => q.elim
        ct := fun s' G' σ' H' S' e p q => q.elim
        rt := fun r s' G' σ' H' v S' e p rr q => by
          rw [← hl] at q
          exact k r _ G' H' v (S'.outs p) e (rr.outs S' p) q }
  · rw [← d.b]
    refine pss_map (C := C) (fun st => soundS 60 C M _ ?_ st) body
    exact {
      sc := d.e.symm
      N := rfl
      nd := d.sc.nd
      calm := rfl
      xe := rfl
      room := hr
      fn := fun y hy => .inl rfl
      tab := T
      kp := hk
      fk := by rw [d.e]; exact d.sc.kind
      lam := hl }
end DL

namespace DL
variable [TB]
open PySem PySem.Spec PyProof.Rows L2
section
variable {P : Program} {w : World} {K : PySem.W.Frag} {mg : Str → Option Value} {base : Heap} {lv k : Nat} {x : Str} {f : Addr} {fd : FuncData} {ps : List Str}
theorem kw_nil {kws : List Keyword} (h : kwNames kws = some []) : kws = [] := by
  cases kws with
  | nil => rfl
  | cons k ks =>
    unfold kwNames at h
    split at h <;> cases h
theorem kw_all {env : Env} {pos : Pos} : ∀ {kws : List Keyword} {ks : List Str}, kwNames kws = some ks → (backToKw pos (keywordEach kws env)).all (·.1.isSome) = true ∧ (backToKw pos (keywordEach kws env)).filterMap (·.1) = ks ∧ (backToKw pos (keywordEach kws env)).any (·.1.isNone) = false
  | [], ks, h => by cases h; exact ⟨rfl, rfl, rfl⟩
  | ⟨nm, e, kp⟩ :: kws, ks, h => by
    unfold kwNames at h
    split at h
    · rename_i y ys h1 h2
      cases h
      have h1 : nm = some y := h1
      subst h1
      obtain ⟨a, b, c⟩ := kw_all (env := env) (pos := pos) h2
      refine ⟨?_, ?_, ?_⟩
      · show (true && (backToKw pos (keywordEach kws env)).all (·.1.isSome)) = true
        rw [a]; rfl
      · show y :: (backToKw pos (keywordEach kws env)).filterMap (·.1) = _
        rw [b]
      · show (false || (backToKw pos (keywordEach kws env)).any (·.1.isNone)) = false
        rw [c]; rfl
    · cases h
theorem kw_len : ∀ {kws : List Keyword} {ks : List Str}, kwNames kws = some ks → kws.length = ks.length
  | [], ks, h => by cases h; rfl
  | k :: kws, ks, h => by
    unfold kwNames at h
    split at h
    · rename_i y ys h1 h2
      cases h
      exact congrArg Nat.succ (kw_len h2)
    · cases h
theorem liftAv_mono {w : DAv} {σ : L2.St} {H : Hp} {Q Q' : List V → Hp → Prop} (h : liftAv K w σ H Q) (m : ∀ vs H, Q vs H → Q' vs H) : liftAv K w σ H Q' := by
  obtain ⟨B, G, s, R, S, a, k⟩ := h
  exact ⟨B, G, s, R, S, a, fun o s' G' H' v S' e r q => m _ _ (k o s' G' H' v S' e r q)⟩
/-- a call with the last parameters' defaults -/
def dflF (dl : List D) (F : FS) : FS := fun args R => F (args ++ dl.map .sh) fun r out => R r (out.take args.length)
theorem Reps.len {G : Hp} : ∀ {ds : List D} {vs : List V}, Reps K G ds vs → vs.length = ds.length
  | [], vs, h => by rw [show vs = [] from h]; rfl
  | d :: ds, vs, h => by obtain ⟨v, r, rfl, _, h⟩ := h; exact congrArg Nat.succ (Reps.len h)
theorem Reps.nth {G : Hp} : ∀ {ds : List D} {vs : List V} {i : Nat} {d : D}, Reps K G ds vs → ds[i]? = some d → ∃ v, vs[i]? = some v ∧ Rep K G d v
  | [], vs, i, d, h, e => by cases e
  | d :: ds, vs, 0, d', h, e => by obtain ⟨v, r, rfl, h1, _⟩ := h; cases e; exact ⟨v, rfl, h1⟩
  | d :: ds, vs, i + 1, d', h, e => by obtain ⟨v, r, rfl, h1, h2⟩ := h; exact Reps.nth (i := i) h2 e
theorem StRep.app {B G H : Hp} {args : List Sl} {vs us : List V} {dl : List D} (S : StRep K B G args (vs.map some) H) (r : Reps K G dl us) : StRep K B G (args ++ dl.map .sh) ((vs ++ us).map some) H := by
  have hl : args.length = vs.length := by have := S.len; rwa [List.length_map] at this
  have old : ∀ {i : Nat} {y : Sl}, (args ++ dl.map .sh)[i]? = some y → i < args.length → args[i]? = some y ∧ ((vs ++ us).map some)[i]? = (vs.map some)[i]? := fun {i y} h c => by
    rw [List.getElem?_append_left c] at h
    refine ⟨h, ?_⟩
    rw [List.map_append, List.getElem?_append_left (by rw [List.length_map]; omega)]
  have new : ∀ {i : Nat} {y : Sl}, (args ++ dl.map .sh)[i]? = some y → ¬ i < args.length → ∃ d, y = .sh d ∧ dl[i - args.length]? = some d := fun {i y} h c => by
    rw [List.getElem?_append_right (by omega), List.getElem?_map] at h
    cases q : dl[i - args.length]? with
    | none => rw [q] at h; cases h
    | some d => rw [q] at h; cases h; exact ⟨d, rfl, rfl⟩
  exact {
    bH := S.bH
    gH := S.gH
    dj := S.dj
    tb := S.tb
    len := by rw [List.length_append, List.length_map, List.length_map, List.length_append, hl, r.len]
    sh := fun i d h => by
      by_cases c : i < args.length
      · obtain ⟨a, b⟩ := old h c
        rw [b]
        exact S.sh i d a
      · obtain ⟨d', e, q⟩ := new h c
        cases e
        obtain ⟨v, h1, h2⟩ := r.nth q
        refine ⟨v, ?_, h2⟩
        rw [List.map_append, List.getElem?_append_right (by rw [List.length_map]; omega), List.length_map, ← hl, List.getElem?_map, h1]
        rfl
    ow := fun i d h => by
      by_cases c : i < args.length
      · obtain ⟨a, b⟩ := old h c
        rw [b]
        exact S.ow i d a
      · obtain ⟨d', e, q⟩ := new h c
        cases e
    ap := fun i j d e a h1 h2 h3 h4 => by
      by_cases c : i < args.length
      · by_cases c2 : j < args.length
        · obtain ⟨a1, b1⟩ := old h1 c
          obtain ⟨a2, b2⟩ := old h2 c2
          rw [b1] at h3; rw [b2] at h4
          exact S.ap i j d e a a1 a2 h3 h4
        · obtain ⟨d', e', q⟩ := new h2 c2
          cases e'
      · obtain ⟨d', e', q⟩ := new h1 c
        cases e' }
theorem StRep.cut {B G H : Hp} {args : List Sl} {vs us : List V} (S : StRep K B G args ((vs ++ us).map some) H) : StRep K B G (args.take vs.length) (vs.map some) H := by
  have hl : args.length = vs.length + us.length := by have := S.len; rwa [List.length_map, List.length_append] at this
  have g : ∀ {i : Nat} {y : Sl}, (args.take vs.length)[i]? = some y → args[i]? = some y ∧ (vs.map some)[i]? = ((vs ++ us).map some)[i]? := fun {i y} h => by
    rw [List.getElem?_take] at h
    split at h
    · rename_i c
      refine ⟨h, ?_⟩
      rw [List.map_append, List.getElem?_append_left (by rw [List.length_map]; exact c)]
    · cases h
  exact {
    bH := S.bH
    gH := S.gH
    dj := S.dj
    tb := S.tb
    len := by rw [List.length_take, List.length_map, hl]; omega
    sh := fun i d h => by
      obtain ⟨a, b⟩ := g h
      rw [b]
      exact S.sh i d a
    ow := fun i d h => by
      obtain ⟨a, b⟩ := g h
      rw [b]
      exact S.ow i d a
    ap := fun i j d e a h1 h2 h3 h4 => by
      obtain ⟨a1, b1⟩ := g h1
      obtain ⟨a2, b2⟩ := g h2
      rw [b1] at h3; rw [b2] at h4
      exact S.ap i j d e a a1 a2 h3 h4 }
theorem sp_dfl {F : FS} {dl : List D} {us vs : List V} {H : Hp} {Q : VK} {E : XK} (hd : ∀ G, Reps K G dl us) (h : spOf K (dflF dl F) vs H Q E) : spOf K F (vs ++ us) H Q E := by
  obtain ⟨B, G, args, R, S, a, k⟩ := h
  refine ⟨B, G, args ++ dl.map Sl.sh, fun r out => R r (out.take args.length), S.app (hd G), a, fun r args' G' H' v S' e rr q => ?_⟩
  have hl : args.length = vs.length := by have := S.len; rwa [List.length_map] at this
  rw [hl] at q
  refine k r _ G' H' v S'.cut e ?_ q
  cases r with
  | no => exact rr
  | sh d => exact rr
  | ow d =>
    obtain ⟨p, o, h1, h2, h3, h4, h5, h6, h7⟩ := rr
    refine ⟨p, o, h1, h2, h3, h4, h5, h6, fun i e hi he => ?_⟩
    rw [List.getElem?_take] at hi
    split at hi
    · rename_i c
      refine h7 i e hi ?_
      rw [List.map_append, List.getElem?_append_left (by rw [List.length_map]; exact c)]
      exact he
    · cases hi
theorem callJ_dfl {Fs : FS} {us : List V} {ds : List Value} {dl : List D} (F : FnOk P w K mg base CX0 k f fd ps (spOf K Fs)) (hk : k ≤ lv) (hm : mg x = some (.ref f)) (kp : PySem.W.keepIn K (.ref f) = true) (b : L2.Binds K fd ps ds) (dv : Vals us ds) (hd : ∀ G, Reps K G dl us) (n : Nat) : CallJ P w K mg base lv x n [] (dflF dl Fs) := by
  intro X e1 e2 e3 e4 e5 hc hr hg hn es kws p pos w1 w2 hl hks hns h0 h0' ha hk2
  subst e1; subst e2; subst e3; subst e4; subst e5
  have hkw := kw_nil hks
  subst hkw
  rw [h0' rfl]
  have rm : Room k X.A := ⟨hr.hd, by have := hr.dp; omega, by have := hr.un; omega⟩
  have mono : ∀ σ H Q, lift X.K (wCall2 n (dflF dl Fs) w1 wAvNil) σ H Q → tCall (spOf X.K Fs) us E0 (liftAv X.K w1) σ H Q := fun σ H Q l => by
    refine liftAv_mono (lift_call2 l) fun vs H1 q => ?_
    have q1 := lift_avNil q.2
    have q2 : spOf X.K (dflF dl Fs) (vs ++ []) H1 Q E0 := q1
    rw [List.append_nil] at q2
    exact sp_dfl hd q2
  cases es with
  | nil =>
    have e0 := h0 rfl
    subst e0
    refine pe_mono (pe_call0 F rm hg hm kp b dv pass0 (okName_ok hn).1) fun σ H Q l => ?_
    exact lift_avNil (mono σ H Q l)
  | cons e es =>
    have hns' := hns
    rw [List.all_cons, Bool.and_eq_true] at hns'
    exact pe_mono (pe_call F rm hg hm kp b dv pass0 ha (okName_ok hn).1 (starEach_cons hns'.1) (any_nil hns'.2)) mono
/-- a call that writes every parameter -/
theorem callJ {Fs : FS} (F : FnOk P w K mg base CX0 k f fd ps (spOf K Fs)) (hk : k ≤ lv) (hm : mg x = some (.ref f)) (kp : PySem.W.keepIn K (.ref f) = true) (b : L2.Binds K fd ps []) (n : Nat) : CallJ P w K mg base lv x n [] Fs := by
  intro X e1 e2 e3 e4 e5 hc hr hg hn es kws p pos w1 w2 hl hks hns h0 h0' ha hk2
  subst e1; subst e2; subst e3; subst e4; subst e5
  have hkw := kw_nil hks
  subst hkw
  rw [h0' rfl]
  have rm : Room k X.A := ⟨hr.hd, by have := hr.dp; omega, by have := hr.un; omega⟩
  have mono : ∀ σ H Q, lift X.K (wCall2 n Fs w1 wAvNil) σ H Q → tCall (spOf X.K Fs) [] E0 (liftAv X.K w1) σ H Q := fun σ H Q l =>
    liftAv_mono (lift_call2 l) fun vs H1 q => lift_avNil q.2
  cases es with
  | nil =>
    have e0 := h0 rfl
    subst e0
    refine pe_mono (pe_call0 F rm hg hm kp b .nil pass0 (okName_ok hn).1) fun σ H Q l => ?_
    exact lift_avNil (mono σ H Q l)
  | cons e es =>
    have hns' := hns
    rw [List.all_cons, Bool.and_eq_true] at hns'
    exact pe_mono (pe_call F rm hg hm kp b .nil pass0 ha (okName_ok hn).1 (starEach_cons hns'.1) (any_nil hns'.2)) mono
/-! ### calls with keywords -/
def shs : List Sl → Option (List D)
  | [] => some []
  | .sh d :: as => (shs as).map (d :: ·)
  | _ :: _ => none
theorem shs_ok : ∀ {as : List Sl} {ds : List D}, shs as = some ds → as = ds.map .sh
  | [], ds, h => by cases h; rfl
  | .sh d :: as, ds, h => by
    obtain ⟨ys, e, rfl⟩ := map_some (show (shs as).map (d :: ·) = some ds from h)
    rw [shs_ok e]; rfl
  | .no :: as, ds, h => by cases h
  | .ow d :: as, ds, h => by cases h
def kwF (n m : Nat) (g : List D → List D → List D) (F : FS) : FS := fun args R => match shs args with
  | some as => as.length = n + m ∧ F ((g (as.take n) (as.drop n)).map .sh) fun r _ => ∀ out, R r out
  | none => False
theorem StRep.reps {B G H : Hp} : ∀ {as : List D} {vs : List V}, StRep K B G (as.map .sh) (vs.map some) H → Reps K G as vs := fun {as vs} S => by
  have hl : as.length = vs.length := by have := S.len; rwa [List.length_map, List.length_map] at this
  have h : ∀ i d, as[i]? = some d → ∃ v, vs[i]? = some v ∧ Rep K G d v := fun i d e => by
    obtain ⟨v, h1, h2⟩ := S.sh i d (by rw [List.getElem?_map, e]; rfl)
    rw [List.getElem?_map] at h1
    obtain ⟨u, h3, h4⟩ := map_some h1
    cases h4
    exact ⟨_, h3, h2⟩
  clear S
  induction as generalizing vs with
  | nil => cases vs with
    | nil => exact rfl
    | cons v vs => cases hl
  | cons d as ih =>
    cases vs with
    | nil => cases hl
    | cons v vs =>
      obtain ⟨u, e, r⟩ := h 0 d rfl
      have e' : v = u := Option.some.inj e
      subst e'
      exact ⟨v, vs, rfl, r, ih (Nat.succ.inj hl) fun i d e => h (i + 1) d e⟩
theorem StRep.ofReps {B G H : Hp} {as : List D} {vs : List V} (hB : Same B H) (hG : Same G H) (dj : ∀ a o, B a = some o → G a = none) (tb : TbOk K B G H) (r : Reps K G as vs) : StRep K B G (as.map .sh) (vs.map some) H := by
  have get : ∀ {i : Nat} {y : Sl}, (as.map Sl.sh)[i]? = some y → ∃ d, y = .sh d ∧ as[i]? = some d := fun {i y} h => by
    rw [List.getElem?_map] at h
    obtain ⟨d, h1, h2⟩ := map_some h
    exact ⟨d, h2.symm, h1⟩
  exact {
    bH := hB
    gH := hG
    dj := dj
    tb := tb
    len := by rw [List.length_map, List.length_map, r.len]
    sh := fun i d h => by
      obtain ⟨d', e, h⟩ := get h
      cases e
      obtain ⟨v, h1, h2⟩ := r.nth h
      exact ⟨v, by rw [List.getElem?_map, h1]; rfl, h2⟩
    ow := fun i d h => by obtain ⟨d', e, h⟩ := get h; cases e
    ap := fun i j d e a h1 => by obtain ⟨d', e, h⟩ := get h1; cases e }
theorem Reps.split {G : Hp} : ∀ {n : Nat} {as : List D} {vs zs : List V}, Reps K G as (vs ++ zs) → vs.length = n → Reps K G (as.take n) vs ∧ Reps K G (as.drop n) zs
  | 0, as, vs, zs, h, l => by
    cases vs with
    | nil => exact ⟨rfl, h⟩
    | cons v vs => cases l
  | n + 1, as, vs, zs, h, l => by
    cases vs with
    | nil => cases l
    | cons v vs =>
      cases as with
      | nil => cases h
      | cons d as =>
        obtain ⟨u, r, e, h1, h2⟩ := h
        cases e
        obtain ⟨a, b⟩ := Reps.split (n := n) h2 (Nat.succ.inj l)
        exact ⟨⟨v, vs, rfl, h1, a⟩, b⟩
/-- f(k = v, ..) -/
theorem pe_callK {X : Cx} {CX : CXT} {sp : Sp} {E : XK} {p pos : Pos} {kws : List Keyword} {tk : TA} {ks : List Str} {g : List Value → List Value → List Value} {gV : List V → List V → List V} (F : FnOk X.prog X.w X.K X.mg X.base CX k f fd ps sp) (hr : Room k X.A) (hg : Gl X x) (hm : X.mg x = some (.ref f)) (hk : PySem.W.keepIn X.K (.ref f) = true) (hb : KBn X.K fd ps 0 ks g gV) (hx : Passes CX X E)
    (hkw : PK X kws tk) (hall : (backToKw pos (keywordEach kws X.env)).all (·.1.isSome) = true) (hks : (backToKw pos (keywordEach kws X.env)).filterMap (·.1) = ks) (hdb : (x == ("__debug__" : Str)) = false)
    (hpl : ((backTo pos (starEach [] X.env)).any (·.1) || (backToKw pos (keywordEach kws X.env)).any (·.1.isNone)) = false) :
    PE X (.Call (.Name x p) [] kws pos) (tCallN 0 ks.length sp gV E tNil tk) := by
  refine ⟨fun pins s σ H Q I h => ?_⟩
  refine wpAny_Call_Name_kw (ld_glob I hg hm ?_ hdb)
  refine PySem.W.callWith_KW0 (h₀ := X.base) I.ok.mod.kin hk hall ?_ hpl
  refine thn (hkw.run pos pins s σ H _ I h) fun ws s2 ⟨zs, H2, I2, rz, l1, l2, q2⟩ => ⟨I2.kIn, ?_⟩
  rw [hks]
  exact run_fnN (us := []) (vs := []) F hr hb hx I2 .nil rz rfl l2 q2
theorem callJ_kw {Fs : FS} {n : Nat} {ks : List Str} {g : List Value → List Value → List Value} {gV : List V → List V → List V} {gD : List D → List D → List D} (F : FnOk P w K mg base CX0 k f fd ps (spOf K Fs)) (hk : k ≤ lv) (hm : mg x = some (.ref f)) (kp : PySem.W.keepIn K (.ref f) = true) (b : KBn K fd ps n ks g gV)
    (hD : ∀ G as bs vs zs, Reps K G as vs → Reps K G bs zs → as.length = n → bs.length = ks.length → Reps K G (gD as bs) (gV vs zs)) : CallJ P w K mg base lv x n ks (kwF n ks.length gD Fs) := by
  intro X e1 e2 e3 e4 e5 hc hr hg hn es kws p pos w1 w2 hl hks hns h0 h0' ha hk2
  subst e1; subst e2; subst e3; subst e4; subst e5
  have rm : Room k X.A := ⟨hr.hd, by have := hr.dp; omega, by have := hr.un; omega⟩
  have kl : kws.length = ks.length := by
    exact kw_len hks

  obtain ⟨a1, a2, a3⟩ := kw_all (env := X.env) (pos := pos) hks
  have mono : ∀ σ H Q, lift X.K (wCall2 n (kwF n ks.length gD Fs) w1 w2) σ H Q → tCallN n ks.length (spOf X.K Fs) gV E0 (liftAv X.K w1) (liftAv X.K w2) σ H Q := fun σ H Q l => by
    refine liftAv_mono (lift_call2 l) fun vs H1 q => ?_
    refine liftAv_mono q.2 fun zs H2 h => ?_
    obtain ⟨B, G, args, R, S, a, kk⟩ := h
    unfold kwF at a
    split at a
    · rename_i as has
      have e := shs_ok has
      subst e
      have r := S.reps
      have ln := r.len
      rw [List.length_append] at ln
      have l1 : vs.length = n := q.1
      have l2 : zs.length = ks.length := by have := a.1; omega
      refine ⟨l1, l2, ?_⟩
      obtain ⟨r1, r2⟩ := Reps.split (n := n) r l1
      refine ⟨B, G, _, _, StRep.ofReps S.bH S.gH S.dj S.tb (hD G _ _ _ _ r1 r2 (by rw [List.length_take]; have := a.1; omega) (by rw [List.length_drop]; have := a.1; omega)), a.2, fun r args' G' H' v S' e rr q => ?_⟩
      exact kk r (List.replicate (vs ++ zs).length .no) G' H' v (StRep.empty S'.bH S'.gH S'.dj S'.tb) e (rr.empty) (q _)
    · exact a.elim
  cases es with
  | nil =>
    cases hl
    have e0 := h0 rfl
    subst e0
    refine pe_mono (pe_callK F rm hg hm kp b pass0 hk2 a1 a2 (okName_ok hn).1 a3) fun σ H Q l => ?_
    exact lift_avNil (mono σ H Q l)
  | cons e es =>
    have hns' := hns
    rw [List.all_cons, Bool.and_eq_true] at hns'
    exact pe_mono (pe_callN F rm hg hm kp b pass0 ha hk2 a1 a2 (okName_ok hn).1 (starEach_cons hns'.1) (by rw [any_nil hns, a3]; rfl)) mono
end
end DL

namespace DL
variable [TB]
open PySem PySem.Spec PyProof.Rows L2
/-! ### built-ins by name -/
def absD : BS
  | [.int i], R => R (.sh (.int (if i < 0 then -i else i)))
  | _, _ => False
theorem absD_ok {K : PySem.W.Frag} : BOk K (fun xs H Q => ∃ i, xs = [.int i] ∧ Q (.int (if i < 0 then -i else i)) H) absD := by
  intro G H ds vs R Q sm t h k
  unfold absD at h
  split at h
  · rename_i i
    obtain ⟨v, rfl, hv⟩ := tops1 t
    exact ⟨i, by rw [show v = .int i from hv], ret_sh sm k (d := .int (if i < 0 then -i else i)) rfl h⟩
  · exact h.elim
def biOf (x : Str) : Option BS :=
  if x = "len" then some lenD else if x = "int" then some intD else if x = "bool" then some boolD else if x = "str" then some strD
  else if x = "list" then some listD else if x = "tuple" then some tupleD else if x = "all" then some allD else if x = "any" then some anyD
  else if x = "max" then some maxD else if x = "min" then some minD else if x = "sum" then some sumD else if x = "abs" then some absD else if x = "sorted" then some sortedD else none
section
variable {P : Program} {w : World} {K : PySem.W.Frag} {mg : Str → Option Value} {base : Heap} {lv : Nat}
theorem bi_b {x : Str} {n : Nat} {id : String} {r : PySem.W.Frag → List V → Hp → VK → Prop} {f : BS} (hc : ∀ X : Cx, X.calm = true → Room 0 X.A → CallR X (.builtin id) (r X.K)) (hv : bootBuiltins x = some (.builtin id)) (hm : mg x = none) (hn : okName x = true) (hb : BOk K (r K) f) : BiJ P w K mg base lv x n f :=
  ⟨r K, hb, fun X e1 e2 e3 e4 e5 hcalm hr hg e es p pos t hl hs ha => by
    subst e1; subst e2; subst e3; subst e4; subst e5
    have hs' := hs
    rw [List.all_cons, Bool.and_eq_true] at hs'
    exact pe_callB (hc X hcalm hr) hg hm hv ha (okName_ok hn).2.2 (okName_ok hn).1 (starEach_cons hs'.1) (any_nil hs'.2)⟩
theorem bi_t {x : Str} {n : Nat} {T : String} {r : PySem.W.Frag → List V → Hp → VK → Prop} {f : BS} (hc : ∀ X : Cx, X.calm = true → CallR X (.type T) (r X.K)) (hv : bootBuiltins x = some (.type T)) (hm : mg x = none) (hn : okName x = true) (hb : BOk K (r K) f) : BiJ P w K mg base lv x n f :=
  ⟨r K, hb, fun X e1 e2 e3 e4 e5 hcalm hr hg e es p pos t hl hs ha => by
    subst e1; subst e2; subst e3; subst e4; subst e5
    have hs' := hs
    rw [List.all_cons, Bool.and_eq_true] at hs'
    exact pe_callTy (hc X hcalm) hg hm hv ha (okName_ok hn).2.2 (okName_ok hn).1 (starEach_cons hs'.1) (any_nil hs'.2)⟩
theorem bi_ok {x : Str} {n : Nat} {f : BS} (h : biOf x = some f) (hm : mg x = none) : BiJ P w K mg base lv x n f := by
  unfold biOf at h
  by_cases c : x = "len"
  · rw [if_pos c] at h; cases h; subst c
    exact bi_b (r := fun K => rLenAll K) (fun X _ _ => call_lenAll) rfl hm rfl lenD_ok
  rw [if_neg c] at h
  by_cases c : x = "int"
  · rw [if_pos c] at h; cases h; subst c
    exact bi_t (r := fun _ xs H Q => (∃ i, xs = [.int i] ∧ Q (.int i) H) ∨ ∃ k, xs = [.bl k] ∧ Q (.int (if k then 1 else 0)) H) (fun X _ => call_int1) rfl hm rfl intD_ok
  rw [if_neg c] at h
  by_cases c : x = "bool"
  · rw [if_pos c] at h; cases h; subst c
    exact bi_t (r := fun _ xs H Q => (∃ i, xs = [.int i] ∧ Q (.bl (i != 0)) H) ∨ ∃ k, xs = [.bl k] ∧ Q (.bl k) H) (fun X _ => call_bool1) rfl hm rfl boolD_ok
  rw [if_neg c] at h
  by_cases c : x = "str"
  · rw [if_pos c] at h; cases h; subst c
    exact bi_t (r := fun _ xs H Q => ∃ i, xs = [.int i] ∧ i.natAbs.log2 < 1920 ∧ Q (.str (toString i)) H) (fun X _ => call_str_int) rfl hm rfl strD_ok
  rw [if_neg c] at h
  by_cases c : x = "list"
  · rw [if_pos c] at h; cases h; subst c
    exact bi_t (r := fun K xs H Q => ∃ p ys, xs = [.ref p] ∧ (SqL K H p ys ∨ SqT K H p ys) ∧ ∀ l, H l = none → Q (.ref l) (upd H l (.lst ys))) (fun X _ => call_list_of) rfl hm rfl listD_ok
  rw [if_neg c] at h
  by_cases c : x = "tuple"
  · rw [if_pos c] at h; cases h; subst c
    exact bi_t (r := rTupF) (fun X _ => call_tupleF) rfl hm rfl tupleD_ok
  rw [if_neg c] at h
  by_cases c : x = "all"
  · rw [if_pos c] at h; cases h; subst c
    exact bi_b (r := fun K => rAll K) (fun X hc _ => cr_all hc) rfl hm rfl allD_ok
  rw [if_neg c] at h
  by_cases c : x = "any"
  · rw [if_pos c] at h; cases h; subst c
    exact bi_b (r := fun K => rAny K) (fun X hc _ => cr_any hc) rfl hm rfl anyD_ok
  rw [if_neg c] at h
  by_cases c : x = "max"
  · rw [if_pos c] at h; cases h; subst c
    exact bi_b (r := fun K xs H Q => (∃ i j, xs = [.int i, .int j] ∧ Q (.int (if j > i then j else i)) H) ∨ rMax K xs H Q) (fun X hc _ => (call_max2 hc).or (cr_max hc)) rfl hm rfl maxD_ok
  rw [if_neg c] at h
  by_cases c : x = "min"
  · rw [if_pos c] at h; cases h; subst c
    exact bi_b (r := fun K xs H Q => (∃ i j, xs = [.int i, .int j] ∧ Q (.int (if j < i then j else i)) H) ∨ rMin K xs H Q) (fun X hc _ => (call_min2 hc).or (cr_min hc)) rfl hm rfl minD_ok
  rw [if_neg c] at h
  by_cases c : x = "sum"
  · rw [if_pos c] at h; cases h; subst c
    exact bi_b (r := fun K => rSum K) (fun X hc _ => cr_sum hc) rfl hm rfl sumD_ok
  rw [if_neg c] at h
  by_cases c : x = "abs"
  · rw [if_pos c] at h; cases h; subst c
    exact bi_b (r := fun _ xs H Q => ∃ i, xs = [.int i] ∧ Q (.int (if i < 0 then -i else i)) H) (fun X _ _ => call_abs) rfl hm rfl absD_ok
  rw [if_neg c] at h
  by_cases c : x = "sorted"
  · rw [if_pos c] at h; cases h; subst c
    exact bi_b (r := fun K => rSrt K) (fun X _ hr => cr_srt (by have := hr.un; omega)) rfl hm rfl sortedD_ok
  rw [if_neg c] at h
  cases h
/-! ### a def's surroundings, as lists -/
def falF : FS := fun _ _ => False
def falB : BS := fun _ _ => False
def nth {α : Type} (d : α) : List α → Nat → α
  | [], _ => d
  | x :: _, 0 => x
  | _ :: xs, n + 1 => nth d xs n
theorem nth_get {α : Type} {d x : α} : ∀ {l : List α} {k : Nat}, l[k]? = some x → nth d l k = x
  | [], k, h => by cases h
  | y :: l, 0, h => by cases h; rfl
  | y :: l, k + 1, h => nth_get (l := l) (k := k) h
@[reducible] def mkSemK (kp : List Nat) (fs : List FS) (bs : List BS) (cv : List D) (ms : List (Str → Option FS)) (at_ : Str → Str → Bool) (ky : List FS) : Sem where
  fs := nth falF fs
  bs := nth falB bs
  cv := nth .non cv
  ms := nth (fun _ => none) ms
  at_ := at_
  kp := kp
  ky := nth falF ky
@[reducible] def mkSem (kp : List Nat) (fs : List FS) (bs : List BS) (cv : List D) (ms : List (Str → Option FS)) (at_ : Str → Str → Bool) : Sem where
  fs := nth falF fs
  bs := nth falB bs
  cv := nth .non cv
  ms := nth (fun _ => none) ms
  at_ := at_
  kp := kp
inductive All2 {α β : Type} (p : α → β → Prop) : List α → List β → Prop
  | nil : All2 p [] []
  | cons {a b l m} (h : p a b) (t : All2 p l m) : All2 p (a :: l) (b :: m)
theorem All2.get {α β : Type} {p : α → β → Prop} {l : List α} {m : List β} (h : All2 p l m) : ∀ {k : Nat} {a : α}, l[k]? = some a → ∃ b, m[k]? = some b ∧ p a b := by
  induction h with
  | nil => intro k a h; cases h
  | cons h t ih =>
    intro k a e
    cases k with
    | zero => cases e; exact ⟨_, rfl, h⟩
    | succ k => exact ih (k := k) e
def ConsJ (K : PySem.W.Frag) (mg : Str → Option Value) (x : Str) (d : D) : Prop := ∃ u v, mg x = some u ∧ RelV v u ∧ ∀ G, Rep K G d v
theorem mkTab {C : CC} {fs : List FS} {bs : List BS} {cv : List D} {ms : List (Str → Option FS)} {at_ : Str → Str → Bool} (h1 : All2 (fun (c : Str × Nat × List Str) F => CallJ P w K mg base C.lv c.1 c.2.1 c.2.2 F) C.calls fs) (h2 : All2 (fun (c : Str × Nat) f => biOf c.1 = some f) C.bis bs) (h2' : (C.bis.all fun c => decide (c.1 ∈ C.fr)) = true)
    (h3 : All2 (ConsJ K mg) C.cons cv) (h4 : All2 (fun (c : Str × Nat × List Str) F => MethJ P w K mg base C.lv c.1 c.2.1 c.2.2 F) C.meths ms) (h5 : AttrOk K at_) (h6 : ∀ x ∈ C.fr, mg x = none) (h7 : C.keys = []) : Tab P w K mg base C (mkSem C.kp fs bs cv ms at_) where
  call := fun k x n ks e => by
    obtain ⟨F, e2, h⟩ := h1.get e
    show CallJ P w K mg base C.lv x n ks (nth falF fs k)
    rw [nth_get e2]
    exact h
  bi := fun k x n e => by
    obtain ⟨F, e2, h⟩ := h2.get e
    show BiJ P w K mg base C.lv x n (nth falB bs k)
    rw [nth_get e2]
    exact bi_ok h (h6 x (of_decide_eq_true (List.all_eq_true.mp h2' (x, n) (List.mem_of_getElem? e))))
  con := fun k x e => by
    obtain ⟨d, e2, h⟩ := h3.get e
    show ∃ u v, _ ∧ _ ∧ ∀ G, Rep K G (nth .non cv k) v
    rw [nth_get e2]
    exact h
  meth := fun k m n ks e => by
    obtain ⟨F, e2, h⟩ := h4.get e
    show MethJ P w K mg base C.lv m n ks (nth (fun _ => none) ms k)
    rw [nth_get e2]
    exact h
  attr := h5
  key := fun k x e => by rw [h7] at e; cases e
  fr := h6
theorem mkTabK {C : CC} {fs : List FS} {bs : List BS} {cv : List D} {ms : List (Str → Option FS)} {at_ : Str → Str → Bool} {ky : List FS} (h1 : All2 (fun (c : Str × Nat × List Str) F => CallJ P w K mg base C.lv c.1 c.2.1 c.2.2 F) C.calls fs) (h2 : All2 (fun (c : Str × Nat) f => biOf c.1 = some f) C.bis bs) (h2' : (C.bis.all fun c => decide (c.1 ∈ C.fr)) = true)
    (h3 : All2 (ConsJ K mg) C.cons cv) (h4 : All2 (fun (c : Str × Nat × List Str) F => MethJ P w K mg base C.lv c.1 c.2.1 c.2.2 F) C.meths ms) (h5 : AttrOk K at_) (h6 : ∀ x ∈ C.fr, mg x = none) (h7 : All2 (fun x F => KeyJ P w K mg base C.lv x F) C.keys ky) : Tab P w K mg base C (mkSemK C.kp fs bs cv ms at_ ky) where
  call := fun k x n ks e => by
    obtain ⟨F, e2, h⟩ := h1.get e
    show CallJ P w K mg base C.lv x n ks (nth falF fs k)
    rw [nth_get e2]
    exact h
  bi := fun k x n e => by
    obtain ⟨F, e2, h⟩ := h2.get e
    show BiJ P w K mg base C.lv x n (nth falB bs k)
    rw [nth_get e2]
    exact bi_ok h (h6 x (of_decide_eq_true (List.all_eq_true.mp h2' (x, n) (List.mem_of_getElem? e))))
  con := fun k x e => by
    obtain ⟨d, e2, h⟩ := h3.get e
    show ∃ u v, _ ∧ _ ∧ ∀ G, Rep K G (nth .non cv k) v
    rw [nth_get e2]
    exact h
  meth := fun k m n ks e => by
    obtain ⟨F, e2, h⟩ := h4.get e
    show MethJ P w K mg base C.lv m n ks (nth (fun _ => none) ms k)
    rw [nth_get e2]
    exact h
  attr := h5
  key := fun k x e => by
    obtain ⟨F, e2, h⟩ := h7.get e
    show KeyJ P w K mg base C.lv x (nth falF ky k)
    rw [nth_get e2]
    exact h
  fr := h6
theorem keyJ {x : Str} {k : Nat} {f : Addr} {fd : FuncData} {y : Str} {F : FS} (Fk : FnOk P w K mg base CX0 k f fd [y] (spOf K F)) (hk : k + 1 ≤ lv) (hm : mg x = some (.ref f)) (b : L2.Binds K fd [y] []) : KeyJ P w K mg base lv x F := by
  intro X e1 e2 e3 e4 e5 hr hg hn p
  subst e1; subst e2; subst e3; subst e4; subst e5
  exact key_def Fk (hr.mono hk) hg hm b (okName_ok hn).1
end
/-! ### what a head tells of a law's text -/
/-- what a law's text is walked in: its facts, the tables of the code objects of the defs that make lambdas -/
def LawEnv (fr : List Str) (fa : List He.Fa) (fn : List He.DefD) (K : PySem.W.Frag) (mg : Str → Option Value) : Prop := ∃ h : Heap, K.In h ∧ h.Ns mainGlobals mg ∧ He.SaysD (fa ++ fr.map He.Fa.free) fn K
section
variable {fr : List Str} {fa : List He.Fa} {fn : List He.DefD} {K : PySem.W.Frag} {mg : Str → Option Value}
theorem LawEnv.fact (V : LawEnv fr fa fn K mg) (i : Nat) {f : He.Fa} (h : fa[i]? = some f) : ∃ hp : Heap, K.In hp ∧ hp.Ns mainGlobals mg ∧ f.ok K = true := by
  obtain ⟨hp, X, G, c⟩ := V
  refine ⟨hp, X, G, c.fact i ?_⟩
  rw [List.getElem?_append_left]
  · exact h
  · by_cases q : i < fa.length
    · exact q
    · rw [List.getElem?_eq_none (by omega)] at h; cases h
theorem LawEnv.free (V : LawEnv fr fa fn K mg) : ∀ x ∈ fr, mg x = none := fun x hx => by
  obtain ⟨hp, X, G, c⟩ := V
  obtain ⟨i, hi⟩ := List.getElem?_of_mem hx
  refine He.free_ok X G (c.fact (fa.length + i) (f := .free x) ?_)
  rw [List.getElem?_append_right (by omega), Nat.add_sub_cancel_left, List.getElem?_map, hi]
  rfl
theorem LawEnv.glo (V : LawEnv fr fa fn K mg) (i : Nat) {x : Str} (h : fa[i]? = some (.glo x)) : mg x = some (.ref (He.ga K x)) := by
  obtain ⟨hp, X, G, c⟩ := V.fact i h
  exact He.glo_ok X G c
theorem LawEnv.int (V : LawEnv fr fa fn K mg) (i : Nat) {x : Str} {z : Int} (h : fa[i]? = some (.int x z)) : ConsJ K mg x (.int z) := by
  obtain ⟨hp, X, G, c⟩ := V.fact i h
  obtain ⟨t, e⟩ := He.int_ok X G c
  exact ⟨_, .int z, e, ⟨t, rfl⟩, fun _ => rfl⟩
theorem LawEnv.str (V : LawEnv fr fa fn K mg) (i : Nat) {x z : Str} (h : fa[i]? = some (.str x z)) : ConsJ K mg x (.str z) := by
  obtain ⟨hp, X, G, c⟩ := V.fact i h
  obtain ⟨t, e⟩ := He.str_ok X G c
  exact ⟨_, .str z, e, ⟨t, rfl⟩, fun _ => rfl⟩
theorem LawEnv.cls (V : LawEnv fr fa fn K mg) (i : Nat) {x : Str} (h : fa[i]? = some (.cls x)) : Cls K (He.ga K x) := by
  obtain ⟨hp, X, G, c⟩ := V.fact i h
  exact He.cls_ok c
theorem LawEnv.noat (V : LawEnv fr fa fn K mg) (i : Nat) {x f : Str} (h : fa[i]? = some (.noat x f)) : NoAttr K (He.ga K x) f := by
  obtain ⟨hp, X, G, c⟩ := V.fact i h
  exact He.noat_ok c
theorem LawEnv.meth (V : LawEnv fr fa fn K mg) (i : Nat) {x m : Str} (h : fa[i]? = some (.meth x m)) : Meth K (He.ga K x) m (He.ma K (He.ga K x) m) := by
  obtain ⟨hp, X, G, c⟩ := V.fact i h
  exact He.meth_ok c
theorem LawEnv.mkr (V : LawEnv fr fa fn K mg) (i : Nat) {x : Str} (h : fa[i]? = some (.mkr x)) : Mk K (He.ga K x) (He.ma K (He.ga K x) "__init__") := by
  obtain ⟨hp, X, G, c⟩ := V.fact i h
  exact He.mkr_ok c
theorem LawEnv.def_ (V : LawEnv fr fa fn K mg) (i : Nat) {d : He.DefD} (h : fn[i]? = some d) : ∃ fd, FunD K d.name d.qual d.params d.body d.scope (d.dvs K) (d.kws K) (He.fAd K d.at_) fd := by
  obtain ⟨hp, X, G, c⟩ := V
  exact c.def_ i h
end
structure LawV (fr : List Str) (fa : List He.Fa) (fn : List He.DefD) (cs : PySem.W.Frag → List (Addr × Addr)) (K : PySem.W.Frag) (mg : Str → Option Value) (base : Heap) : Prop where
  e : LawEnv fr fa fn K mg
  t : ∀ p ∈ cs K, LamX.TabB base mg p.1 p.2
  u : ∀ p ∈ TB.tabs K, ∀ q ∈ TB.tabs K, p.1 = q.1 → p.2 = q.2
section
variable {fr : List Str} {fa : List He.Fa} {fn : List He.DefD} {cs : PySem.W.Frag → List (Addr × Addr)} {K : PySem.W.Frag} {mg : Str → Option Value} {base : Heap}
theorem LawV.lam (V : LawV fr fa fn cs K mg base) {p : He.Defn} {x qual : Str} {params : Arguments} {body : List Stmt} {scope : Scope} {dvs : List L2.V} {kws : List (Str × L2.V)} {fd : FuncData} (Fd : FunD K x qual params body scope dvs kws (He.fAd K p) fd) (hp : He.cT K p ∈ cs K) (hm : ((He.cT K p).2, (qual ++ ".<locals>.") ++ "<lambda>") ∈ TB.tabs K) :
    ∃ c P, fd.code = .ref c ∧ LamX.TabB base mg c P ∧ (P, (qual ++ ".<locals>.") ++ "<lambda>") ∈ TB.tabs K ∧ ∀ p ∈ TB.tabs K, p.1 = P → p.2 = (qual ++ ".<locals>.") ++ "<lambda>" := by
  obtain ⟨oc, od, dV, kV, doc, pm, an, cdv, ct, osl, rfl, lk, hcd, _, _⟩ := Fd.ex
  obtain ⟨c, hc⟩ := He.codeIn_ref hcd
  have e : He.codeOf K p = c := He.codeOf_eq lk hc
  have t := V.t _ hp
  rw [← e] at hc
  exact ⟨_, _, hc, t, hm, fun q hq h => V.u q hq _ hm h⟩
theorem LawV.free (V : LawV fr fa fn cs K mg base) : ∀ x ∈ fr, mg x = none := V.e.free
theorem LawV.glo (V : LawV fr fa fn cs K mg base) (i : Nat) {x : Str} (h : fa[i]? = some (.glo x)) : mg x = some (.ref (He.ga K x)) := V.e.glo i h
theorem LawV.int (V : LawV fr fa fn cs K mg base) (i : Nat) {x : Str} {z : Int} (h : fa[i]? = some (.int x z)) : ConsJ K mg x (.int z) := V.e.int i h
theorem LawV.str (V : LawV fr fa fn cs K mg base) (i : Nat) {x z : Str} (h : fa[i]? = some (.str x z)) : ConsJ K mg x (.str z) := V.e.str i h
theorem LawV.cls (V : LawV fr fa fn cs K mg base) (i : Nat) {x : Str} (h : fa[i]? = some (.cls x)) : Cls K (He.ga K x) := V.e.cls i h
theorem LawV.noat (V : LawV fr fa fn cs K mg base) (i : Nat) {x f : Str} (h : fa[i]? = some (.noat x f)) : NoAttr K (He.ga K x) f := V.e.noat i h
theorem LawV.meth (V : LawV fr fa fn cs K mg base) (i : Nat) {x m : Str} (h : fa[i]? = some (.meth x m)) : Meth K (He.ga K x) m (He.ma K (He.ga K x) m) := V.e.meth i h
theorem LawV.mkr (V : LawV fr fa fn cs K mg base) (i : Nat) {x : Str} (h : fa[i]? = some (.mkr x)) : Mk K (He.ga K x) (He.ma K (He.ga K x) "__init__") := V.e.mkr i h
theorem LawV.def_ (V : LawV fr fa fn cs K mg base) (i : Nat) {d : He.DefD} (h : fn[i]? = some d) : ∃ fd, FunD K d.name d.qual d.params d.body d.scope (d.dvs K) (d.kws K) (He.fAd K d.at_) fd := V.e.def_ i h
end
theorem fun_uniq {K : PySem.W.Frag} {x qual : Str} {params : Arguments} {body : List Stmt} {scope : Scope} {dvs : List V} {kws : List (Str × V)} {f : Addr} {fd fd2 : FuncData} (a : FunD K x qual params body scope dvs kws f fd) (b : FunD K x qual params body scope dvs kws f fd2) : fd = fd2 := by
  obtain ⟨oc, od, dV, kV, doc, pm, an, cdv, ct, osl, e, lk, _⟩ := a.ex
  obtain ⟨oc2, od2, dV2, kV2, doc2, pm2, an2, cdv2, ct2, osl2, e2, lk2, _⟩ := b.ex
  rw [lk] at lk2
  injection lk2 with h
  injection h with h1 h2 h3 h4
  injection h3
/-- the law's own call -/
theorem reps_ints {K : PySem.W.Frag} {G : Hp} : ∀ (ns : List Int), Reps K G (ns.map D.int) (ns.map V.int)
  | [] => rfl
  | n :: ns => ⟨_, _, rfl, rfl, reps_ints ns⟩
theorem law_sp {K : PySem.W.Frag} {F : FS} {H : Hp} {a : Addr} {ns : List Int} {n : Nat} {E : XK} (hF : ∀ ns : List Int, ns.length ≤ n → ∀ R : Sl → List Sl → Prop, (∀ o, R (.sh (.bl true)) o) → F [.sh (.klst (ns.map .int))] R) (hl : ns.length ≤ n) (hS : SqL K H a (ns.map V.int)) (hT : LamX.Tabs (TB.tabs K) H) :
    spOf K F [.ref a] H (fun v _ => v = .bl true) E := by
  classical
  let G : Hp := fun b => if ∃ ps, H b = some (.tbl ps) then none else H b
  have sm : Same G H := fun b o e => by
    show H b = some o
    have e : (if ∃ ps, H b = some (.tbl ps) then none else H b) = some o := e
    split at e
    · cases e
    · exact e
  have at_ : ∀ {b : Addr} {o : HO}, H b = some o → (∀ ps, o ≠ .tbl ps) → G b = some o := fun {b o} e n => by
    show (if ∃ ps, H b = some (.tbl ps) then none else H b) = some o
    rw [if_neg]
    · exact e
    · rintro ⟨ps, q⟩
      rw [e] at q
      cases q
      exact n ps rfl
  have hS' : SqL K G a (ns.map V.int) := by
    rcases hS with (h | ⟨o, h⟩) | h
    · exact .inl (.inl (at_ h fun ps z => by cases z))
    · exact .inl (.inr ⟨o, at_ h fun ps z => by cases z⟩)
    · exact .inr h
  have tb : TbOk K (fun _ => none) G H := ⟨fun _ _ => rfl, fun p hp => (by obtain ⟨ps, h, _⟩ := hT p hp; exact if_pos ⟨ps, h⟩), fun b ps e => (by
    have e : (if ∃ ps, H b = some (.tbl ps) then none else H b) = some (.tbl ps) := e
    split at e
    · cases e
    · rename_i h; exact h ⟨ps, e⟩), fun b u e => (by cases e), hT⟩
  refine ⟨fun _ => none, G, _, fun r _ => r = .sh (.bl true), StRep.ofReps (as := [.klst (ns.map .int)]) (fun a o h => by cases h) sm (fun a o h => by cases h) tb ⟨_, [], rfl, ⟨a, _, rfl, hS', reps_ints ns⟩, rfl⟩, hF ns hl _ fun _ => rfl, fun r args' G' H' v S' e rr q => ?_⟩
  subst q
  exact rr
def noAt : Str → Str → Bool := fun _ _ => false
theorem noAt_ok {K : PySem.W.Frag} : AttrOk K noAt := fun _ _ h => by cases h
theorem fnOk_fal {P : Program} {w : World} {K : PySem.W.Frag} {mg : Str → Option Value} {base : Heap} {k : Nat} {f : Addr} {fd : FuncData} {ps : List Str} : FnOk P w K mg base CX0 k f fd ps (spOf K falF) :=
  ⟨fun vs H Q E ⟨B, G, args, R, S, h, _⟩ => h.elim, fun A outer s H args us vs Q E r e b v ⟨B, G, args', R, S, h, _⟩ => h.elim⟩
theorem ok_cast {P : Program} {w : World} {K : PySem.W.Frag} {mg : Str → Option Value} {base : Heap} {k k' : Nat} {f : Addr} {fd : FuncData} {ps : List Str} {sp : Sp} (h : FnOk P w K mg base CX0 k f fd ps sp) (e : k = k') : FnOk P w K mg base CX0 k' f fd ps sp := e ▸ h
/-- defaults that are plain -/
def csOf : List V → Option (List D)
  | [] => some []
  | .non :: vs => (csOf vs).map (.non :: ·)
  | .int i :: vs => (csOf vs).map (.int i :: ·)
  | .bl i :: vs => (csOf vs).map (.bl i :: ·)
  | .str i :: vs => (csOf vs).map (.str i :: ·)
  | _ :: _ => none
theorem reps_cs {K : PySem.W.Frag} {G : Hp} : ∀ {vs : List V} {ds : List D}, csOf vs = some ds → Reps K G ds vs
  | [], ds, h => by cases h; exact rfl
  | v :: vs, ds, h => by
    have go : ∀ {d : D}, Rep K G d v → (csOf vs).map (d :: ·) = some ds → Reps K G ds (v :: vs) := fun {d} r e => by
      obtain ⟨ys, h1, rfl⟩ := map_some e
      exact ⟨v, vs, rfl, r, reps_cs h1⟩
    cases v with
    | non => exact go (d := .non) rfl h
    | int i => exact go (d := .int i) rfl h
    | bl i => exact go (d := .bl i) rfl h
    | str i => exact go (d := .str i) rfl h
    | _ => cases h
/-! ### calls with keywords: the parameters' order -/
def consO {α : Type} : Option α → List α → List α
  | some x, l => x :: l
  | none, l => l
def pickO {α : Type} (k i : Nat) (ds us ks : List α) : Option α := match k with
  | 0 => us[i]?
  | 1 => ks[i]?
  | _ => ds[i]?
def pickG {α : Type} : List (Nat × Nat) → List α → List α → List α → List α
  | [], _, _, _ => []
  | q :: pm, ds, us, ks => consO (pickO q.1 q.2 ds us ks) (pickG pm ds us ks)
theorem vals_get {vs : List V} {us : List Value} (h : Vals vs us) : ∀ i : Nat, (vs[i]? = none ∧ us[i]? = none) ∨ ∃ v u, vs[i]? = some v ∧ us[i]? = some u ∧ RelV v u := by
  induction h with
  | nil => intro i; exact .inl ⟨rfl, rfl⟩
  | cons r t ih =>
    intro i
    cases i with
    | zero => exact .inr ⟨_, _, rfl, rfl, r⟩
    | succ i => exact ih i
theorem pick_rel : ∀ (pm : List (Nat × Nat)) {vs ds zs : List V} {us its ws : List Value}, Vals vs us → Vals ds its → Vals zs ws → Vals (pickG pm ds vs zs) (pickG pm its us ws)
  | [], vs, ds, zs, us, its, ws, h1, h2, h3 => .nil
  | q :: pm, vs, ds, zs, us, its, ws, h1, h2, h3 => by
    have ih := pick_rel pm h1 h2 h3
    have go : ∀ {a : Option V} {b : Option Value}, ((a = none ∧ b = none) ∨ ∃ v u, a = some v ∧ b = some u ∧ RelV v u) → Vals (consO a (pickG pm ds vs zs)) (consO b (pickG pm its us ws)) := fun h => by
      rcases h with ⟨rfl, rfl⟩ | ⟨v, u, rfl, rfl, r⟩
      · exact ih
      · exact .cons r ih
    obtain ⟨k, i⟩ := q
    match k with
    | 0 => exact go (vals_get h1 i)
    | 1 => exact go (vals_get h3 i)
    | k + 2 => exact go (vals_get h2 i)
theorem reps_get {K : PySem.W.Frag} {G : Hp} : ∀ {ds : List D} {vs : List V}, Reps K G ds vs → ∀ i : Nat, (ds[i]? = none ∧ vs[i]? = none) ∨ ∃ d v, ds[i]? = some d ∧ vs[i]? = some v ∧ Rep K G d v
  | [], vs, h, i => by rw [show vs = [] from h]; exact .inl ⟨rfl, rfl⟩
  | d :: ds, vs, h, 0 => by obtain ⟨v, r, rfl, h1, h2⟩ := h; exact .inr ⟨_, _, rfl, rfl, h1⟩
  | d :: ds, vs, h, i + 1 => by obtain ⟨v, r, rfl, h1, h2⟩ := h; exact reps_get h2 i
theorem pick_reps {K : PySem.W.Frag} {G : Hp} : ∀ (pm : List (Nat × Nat)) {as dl bs : List D} {vs dvs zs : List V}, Reps K G as vs → Reps K G dl dvs → Reps K G bs zs → Reps K G (pickG pm dl as bs) (pickG pm dvs vs zs)
  | [], as, dl, bs, vs, dvs, zs, h1, h2, h3 => rfl
  | q :: pm, as, dl, bs, vs, dvs, zs, h1, h2, h3 => by
    have ih := pick_reps pm h1 h2 h3
    have go : ∀ {a : Option D} {b : Option V}, ((a = none ∧ b = none) ∨ ∃ v u, a = some v ∧ b = some u ∧ Rep K G v u) → Reps K G (consO a (pickG pm dl as bs)) (consO b (pickG pm dvs vs zs)) := fun h => by
      rcases h with ⟨rfl, rfl⟩ | ⟨v, u, rfl, rfl, r⟩
      · exact ih
      · exact ⟨u, _, rfl, r, ih⟩
    obtain ⟨k, i⟩ := q
    match k with
    | 0 => exact go (reps_get h1 i)
    | 1 => exact go (reps_get h3 i)
    | k + 2 => exact go (reps_get h2 i)
theorem kbindsN {K : PySem.W.Frag} {x qual : Str} {params : Arguments} {body : List Stmt} {scope : Scope} {kws : List (Str × V)} {f : Addr} {fd : FuncData} {ps : List Str} (F : FunD K x qual params body scope [] kws f fd) (n : Nat) (ks : List Str) (pm : List (Nat × Nat))
    (h : ∀ (kV doc pmd : Value) (an : Option Addr) (cdv ct : Value) (us ws : List Value), us.length = n → ws.length = ks.length → bindArgs (PySem.W.fnOf x qual params body scope .none kV doc pmd an cdv ct) ⟨us, ks.zip ws⟩ = pure (ps.zip (pickG pm [] us ws))) :
    KBn K fd ps n ks (fun us ws => pickG pm [] us ws) (fun vs zs => pickG pm [] vs zs) := by
  obtain ⟨oc, od, dV, kV, doc, pmd, an, cdv, ct, osl, rfl, lk, hcd, hD, hK⟩ := F.ex
  rcases hD with ⟨_, rfl⟩ | ⟨e, _⟩
  · exact ⟨fun s us ws X l1 l2 => BindsTo.of_looks fun M => .of_pure (h kV doc pmd an cdv ct us ws l1 l2), fun r1 r2 => pick_rel pm r1 .nil r2⟩
  · exact absurd rfl e
/-! ### evaluation by simp -/
@[irreducible] def Later (M : Sem) (sts : List S) (N : DEnds) (s : DSt) : Prop := wSs M sts N s
theorem later {M : Sem} {sts : List S} {N : DEnds} {s : DSt} (h : wSs M sts N s) : Later M sts N s := by unfold Later; exact h
theorem wSs_cons {M : Sem} {st : S} {sts : List S} {N : DEnds} {s : DSt} : wSs M (st :: sts) N s = wS M st { nx := Later M sts N, rt := N.rt, bk := N.bk, ct := N.ct } s := by
  have e : Later M sts N = wSs M sts N := by funext s; unfold Later; rfl
  rw [e]
  rfl
theorem Later_nil {M : Sem} {N : DEnds} {s : DSt} : Later M [] N s = N.nx s := by unfold Later; rfl
theorem wSs_nil {M : Sem} {N : DEnds} {s : DSt} : wSs M [] N s = N.nx s := rfl
end DL

namespace DL
variable [TB]
open PySem PySem.Spec PyProof.Rows
open L2 (Key)
abbrev topN (kp : List Nat) (n : Nat) (R : Sl → List Sl → Prop) : DEnds := { nx := fun s => R (.sh .non) (outA kp n s), rt := fun r s => R r (outA kp n s), bk := fun _ => False, ct := fun _ => False }
/-! ### loops -/
theorem forGo_ind {tg : Tg} {body : DS} {N : DEnds} (I : List D → DSt → Prop) (hn : ∀ s, I [] s → N.nx s)
    (hs : ∀ d ds s, I (d :: ds) s → ∀ K : DSt → Prop, (∀ s', I ds s' → K s') → ∃ s1, bindTg tg d s = some s1 ∧ body { nx := K, rt := N.rt, bk := N.nx, ct := K } s1) : ∀ (items : List D) (s : DSt), I items s → forGo tg body N items s
  | [], s, h => hn s h
  | d :: ds, s, h => by
    obtain ⟨s1, e, b⟩ := hs d ds s h (forGo tg body N ds) fun s' h' => forGo_ind I hn hs ds s' h'
    unfold forGo
    rw [e]
    exact b
theorem rangeD_eq (n : Nat) : rangeD 0 n = (List.range' 0 n).map fun j : Nat => D.int (j : Int) := by
  unfold rangeD
  rw [List.range_eq_range']
  congr 1
  funext i
  rw [Int.zero_add]
theorem forRange {tg : Tg} {body : DS} {N : DEnds} (P : Nat → DSt → Prop) (n : Nat) {s : DSt} (h0 : P 0 s) (hn : ∀ s, P n s → N.nx s)
    (hs : ∀ i s, i < n → P i s → ∀ K : DSt → Prop, (∀ s', P (i + 1) s' → K s') → ∃ s1, bindTg tg (.int (i : Int)) s = some s1 ∧ body { nx := K, rt := N.rt, bk := N.nx, ct := K } s1) : forGo tg body N (rangeD 0 n) s := by
  rw [rangeD_eq]
  refine forGo_ind (fun ds s => ∃ i, i ≤ n ∧ ds = (List.range' i (n - i)).map (fun j : Nat => D.int (j : Int)) ∧ P i s) ?_ ?_ _ _ ⟨0, Nat.zero_le _, rfl, h0⟩
  · rintro s ⟨i, hi, e, h⟩
    by_cases c : i = n
    · subst c; exact hn s h
    · obtain ⟨m, hm⟩ : ∃ m, n - i = m + 1 := ⟨n - i - 1, by omega⟩
      rw [hm, List.range'_succ, List.map_cons] at e
      cases e
  · rintro d ds s ⟨i, hi, e, h⟩ K hK
    by_cases c : i = n
    · subst c; rw [Nat.sub_self] at e; cases e
    · obtain ⟨m, hm⟩ : ∃ m, n - i = m + 1 := ⟨n - i - 1, by omega⟩
      rw [hm, List.range'_succ, List.map_cons] at e
      injection e with e1 e2
      subst e1
      exact hs i s (by omega) h K fun s' h' => hK s' ⟨i + 1, by omega, by rw [e2, show n - (i + 1) = m by omega], h'⟩
theorem whGo_ind {t : DT} {body : DS} {N : DEnds} (I : Nat → DSt → Prop)
    (hs : ∀ n s, I n s → ∀ K : DSt → Prop, (∀ s', (∃ m, m < n ∧ I m s') → K s') → t s fun b s1 => if b = true then body { nx := K, rt := N.rt, bk := N.nx, ct := K } s1 else N.nx s1) : ∀ (n : Nat) (s : DSt), I n s → whGo t body N (n + 1) s := by
  have up : ∀ (n : Nat) (k : Nat) (s : DSt), I n s → n < k → whGo t body N k s := by
    intro n
    induction n using Nat.strongRecOn with
    | ind n ih =>
      intro k s h hk
      cases k with
      | zero => omega
      | succ k =>
        unfold whGo
        exact hs n s h (whGo t body N k) fun s' ⟨m, hm, hi⟩ => ih m hm k s' hi (by omega)
  intro n s h
  exact up n (n + 1) s h (by omega)
theorem wWhile_ind {t : DT} {body : DS} {N : DEnds} (I : Nat → DSt → Prop)
    (hs : ∀ n s, I n s → ∀ K : DSt → Prop, (∀ s', (∃ m, m < n ∧ I m s') → K s') → t s fun b s1 => if b = true then body { nx := K, rt := N.rt, bk := N.nx, ct := K } s1 else N.nx s1) (n : Nat) (s : DSt) (h : I n s) : wWhile t body N s :=
  ⟨n + 1, whGo_ind I hs n s h⟩
/-- a comprehension whose element and test change nothing -/
theorem lcGo_pure {tg : Tg} {own : List Nat} {tt : DT} {el : DE} {s : DSt} (p : D → Bool) (f : D → D) : ∀ (items : List D) (R : List D → DSt → Prop),
    (∀ d ∈ items, ∃ s1, bindTg tg d s = some s1 ∧ wipeS s1 own = s ∧ ∀ Q : Bool → DSt → Prop, Q (p d) s1 → tt s1 Q) →
    (∀ d ∈ items, p d = true → ∀ s1, bindTg tg d s = some s1 → ∀ Q : Sl → DSt → Prop, (∀ r, frz r = f d → Q r s1) → el s1 Q) →
    R ((items.filter p).map f) s → lcGo tg own tt el items s R
  | [], R, _, _, h => h
  | d :: ds, R, h1, h2, h => by
    obtain ⟨s1, e, w, t⟩ := h1 d (.head _)
    unfold lcGo
    rw [e]
    refine t _ ?_
    cases hp : p d with
    | true =>
      rw [if_pos rfl]
      refine h2 d (.head _) hp s1 e _ fun r hr => ?_
      rw [w]
      refine lcGo_pure p f ds _ (fun d m => h1 d (.tail _ m)) (fun d m => h2 d (.tail _ m)) ?_
      rw [List.filter_cons, if_pos hp, List.map_cons] at h
      rw [hr]
      exact h
    | false =>
      rw [if_neg (fun h => by cases h), w]
      refine lcGo_pure p f ds _ (fun d m => h1 d (.tail _ m)) (fun d m => h2 d (.tail _ m)) ?_
      rw [List.filter_cons, if_neg (by rw [hp]; exact fun h => by cases h)] at h
      exact h
theorem lcGo_map {tg : Tg} {own : List Nat} {el : DE} {s : DSt} (f : D → D) (items : List D) (R : List D → DSt → Prop)
    (h1 : ∀ d ∈ items, ∃ s1, bindTg tg d s = some s1 ∧ wipeS s1 own = s ∧ ∀ Q : Sl → DSt → Prop, (∀ r, frz r = f d → Q r s1) → el s1 Q)
    (h : R (items.map f) s) : lcGo tg own (fun s Q => Q true s) el items s R := by
  refine lcGo_pure (fun _ => true) f items R (fun d m => ?_) (fun d m _ s1 e => ?_) (by rw [List.filter_eq_self.mpr fun _ _ => rfl]; exact h)
  · obtain ⟨s1, a, b, _⟩ := h1 d m
    exact ⟨s1, a, b, fun Q q => q⟩
  · obtain ⟨s2, a, b, c⟩ := h1 d m
    rw [a] at e
    cases e
    exact c
theorem lcGo_mapg {α : Type} {tg : Tg} {own : List Nat} {el : DE} {s : DSt} (g f : α → D) : ∀ (l : List α) (R : List D → DSt → Prop),
    (∀ a ∈ l, ∃ s1, bindTg tg (g a) s = some s1 ∧ wipeS s1 own = s ∧ ∀ Q : Sl → DSt → Prop, (∀ r, frz r = f a → Q r s1) → el s1 Q) →
    R (l.map f) s → lcGo tg own (fun s Q => Q true s) el (l.map g) s R
  | [], R, _, h => h
  | a :: l, R, h1, h => by
    obtain ⟨s1, e, w, k⟩ := h1 a (.head _)
    rw [List.map_cons]
    unfold lcGo
    rw [e]
    show (if true = true then _ else _)
    rw [if_pos rfl]
    refine k _ fun r hr => ?_
    rw [w, hr]
    exact lcGo_mapg g f l _ (fun a m => h1 a (.tail _ m)) h
theorem lcGo_filtg {α : Type} {tg : Tg} {own : List Nat} {tt : DT} {el : DE} {s : DSt} (g f : α → D) (p : α → Bool) : ∀ (l : List α) (R : List D → DSt → Prop),
    (∀ a ∈ l, ∃ s1, bindTg tg (g a) s = some s1 ∧ wipeS s1 own = s ∧ (∀ Q : Bool → DSt → Prop, Q (p a) s1 → tt s1 Q) ∧ (p a = true → ∀ Q : Sl → DSt → Prop, (∀ r, frz r = f a → Q r s1) → el s1 Q)) →
    R ((l.filter p).map f) s → lcGo tg own tt el (l.map g) s R
  | [], R, _, h => h
  | a :: l, R, h1, h => by
    obtain ⟨s1, e, w, t, k⟩ := h1 a (.head _)
    rw [List.map_cons]
    unfold lcGo
    rw [e]
    refine t _ ?_
    cases hp : p a with
    | true =>
      rw [if_pos rfl]
      refine k hp _ fun r hr => ?_
      rw [w, hr]
      rw [List.filter_cons, if_pos hp, List.map_cons] at h
      exact lcGo_filtg g f p l _ (fun a m => h1 a (.tail _ m)) h
    | false =>
      rw [if_neg (fun h => by cases h), w]
      rw [List.filter_cons, if_neg (by rw [hp]; exact fun h => by cases h)] at h
      exact lcGo_filtg g f p l _ (fun a m => h1 a (.tail _ m)) h
/-- a comprehension without a test, with effects -/
theorem lcGo_rel {tg : Tg} {own : List Nat} {el : DE} (J : DSt → Prop) (P : D → D → Prop) : ∀ (items : List D) (s : DSt) (R : List D → DSt → Prop),
    (∀ d ∈ items, ∀ s, J s → ∃ s1, bindTg tg d s = some s1 ∧ ∀ K : Sl → DSt → Prop, (∀ r s', P d (frz r) → J (wipeS s' own) → K r s') → el s1 K) → J s →
    (∀ rs s', rs.length = items.length → (∀ (i : Nat) (d y : D), items[i]? = some d → rs[i]? = some y → P d y) → J s' → R rs s') → lcGo tg own (fun s Q => Q true s) el items s R
  | [], s, R, _, j, h => h [] s rfl (fun i d y e => by cases e) j
  | d :: ds, s, R, h1, j, h => by
    obtain ⟨s1, e, k⟩ := h1 d (.head _) s j
    unfold lcGo
    rw [e]
    show (if true = true then _ else _)
    rw [if_pos rfl]
    refine k _ fun r s' p j' => ?_
    refine lcGo_rel J P ds _ _ (fun d m => h1 d (.tail _ m)) j' fun rs s4 hl hp j4 => ?_
    refine h _ _ (congrArg Nat.succ hl) (fun i d' y e1 e2 => ?_) j4
    cases i with
    | zero => cases e1; cases e2; exact p
    | succ i => exact hp i d' y e1 e2
/-! ### comparisons of plain data -/
theorem eqD_int {i j : Int} {Q : Bool → Prop} : eqD (.int i) (.int j) Q = Q (i == j) := by
  show ((SeqAt.shaped (.int i) = true ∧ SeqAt.shaped (.int j) = true) ∧ Q (PyData.eqv (.int i) (.int j))) = _
  exact propext ⟨fun h => by simpa [PyData.eqv] using h.2, fun h => ⟨⟨rfl, rfl⟩, by simpa [PyData.eqv] using h⟩⟩
theorem eqD_bl {i j : Bool} {Q : Bool → Prop} : eqD (.bl i) (.bl j) Q = Q (i == j) := by
  show ((SeqAt.shaped (.bool i) = true ∧ SeqAt.shaped (.bool j) = true) ∧ Q (PyData.eqv (.bool i) (.bool j))) = _
  exact propext ⟨fun h => by simpa [PyData.eqv] using h.2, fun h => ⟨⟨rfl, rfl⟩, by simpa [PyData.eqv] using h⟩⟩
theorem eqD_str {i j : Str} {Q : Bool → Prop} : eqD (.str i) (.str j) Q = Q (i == j) := rfl
theorem eqD_non {Q : Bool → Prop} : eqD .non .non Q = Q true := by
  show ((SeqAt.shaped .none = true ∧ SeqAt.shaped .none = true) ∧ Q (PyData.eqv .none .none)) = _
  exact propext ⟨fun h => h.2, fun h => ⟨⟨rfl, rfl⟩, h⟩⟩
theorem ixN_lit (n i : Nat) : L2.ixN n (no_index (@OfNat.ofNat Int i instOfNat)) = if i < n then some i else none := by
  show L2.ixN n (i : Int) = _
  unfold L2.ixN
  rw [if_pos (by omega)]
  by_cases c : i < n
  · rw [if_pos (by omega), if_pos c, Int.toNat_natCast]
  · rw [if_neg (by omega), if_neg c]
theorem ixN_last {n : Nat} (h : 0 < n) : L2.ixN n (-1) = some (n - 1) := by
  unfold L2.ixN
  rw [if_neg (by decide), if_pos (by omega)]
  congr 1
  omega
theorem ixN_nat {n : Nat} {i : Int} (h0 : 0 ≤ i) (h : i < n) : L2.ixN n i = some i.toNat := by
  unfold L2.ixN
  rw [if_pos h0, if_pos h]
theorem atI_nat {α : Type} {xs : List α} {i : Int} {x : α} (h0 : 0 ≤ i) (h : xs[i.toNat]? = some x) : L2.atI xs i = some x := by
  unfold L2.atI
  rw [ixN_nat h0]
  · exact h
  · by_cases c : i.toNat < xs.length
    · omega
    · rw [List.getElem?_eq_none (by omega)] at h; cases h
theorem cutL_to {α : Type} (xs : List α) (k : Nat) : cutL xs none (some (k : Int)) = xs.take k := by
  unfold cutL
  rw [HT.sIx_none, HT.sIx_nat, List.drop_zero, Nat.sub_zero, List.take_eq_take_iff]
  omega
theorem cutL_from {α : Type} (xs : List α) (k : Nat) : cutL xs (some (k : Int)) none = xs.drop k := by
  unfold cutL
  rw [HT.sIx_none, HT.sIx_nat]
  by_cases c : k ≤ xs.length
  · rw [Nat.min_eq_left c, List.take_of_length_le (by rw [List.length_drop]; exact Nat.le_refl _)]
  · rw [Nat.min_eq_right (by omega), List.drop_eq_nil_of_le (Nat.le_refl _), List.drop_eq_nil_of_le (by omega), List.take_nil]
theorem lenD_items {t : D} {xs : List D} {R : Sl → Prop} (ht : itemsD t = some xs) (hl : xs.length ≤ sizeLine) (h : R (.sh (.int xs.length))) : lenD [t] R := by
  cases t with
  | lst ys => cases ht; exact h
  | klst ys => cases ht; exact h
  | tup ys => cases ht; exact h
  | ftup ys => cases ht; exact h
  | pin a ys => cases ht; exact h
  | str z =>
    cases ht
    have e : (charsD z).length = z.length := by unfold charsD; rw [List.length_map]; rfl
    rw [e] at h hl
    exact ⟨hl, h⟩
  | _ => cases ht
theorem idxD_items {t : D} {xs : List D} {R : Sl → Prop} {v : Int} {x : D} (ht : itemsD t = some xs) (hl : xs.length ≤ sizeLine) (h0 : 0 ≤ v) (hv : xs[v.toNat]? = some x) (h : R (.sh x)) : idxD t (.int v) R := by
  cases t with
  | lst ys => cases ht; simp only [idxD, atI_nat h0 hv]; exact h
  | klst ys => cases ht; simp only [idxD, atI_nat h0 hv]; exact h
  | tup ys => cases ht; simp only [idxD, atI_nat h0 hv]; exact h
  | ftup ys => cases ht; simp only [idxD, atI_nat h0 hv]; exact h
  | pin a ys => cases ht; simp only [idxD, atI_nat h0 hv]; exact h
  | str z =>
    cases ht
    have e : (charsD z).length = z.length := by unfold charsD; rw [List.length_map]; rfl
    rw [e] at hl
    unfold charsD at hv
    rw [List.getElem?_map] at hv
    obtain ⟨c, h1, rfl⟩ := map_some hv
    simp only [idxD, atI_nat h0 h1]
    exact ⟨hl, h⟩
  | _ => cases ht
theorem isT_NoneType_bool : isT "NoneType" "bool" = false := by decide
theorem isT_NoneType_int : isT "NoneType" "int" = false := by decide
theorem isT_NoneType_str : isT "NoneType" "str" = false := by decide
theorem isT_NoneType_list : isT "NoneType" "list" = false := by decide
theorem isT_NoneType_tuple : isT "NoneType" "tuple" = false := by decide
theorem isT_NoneType_dict : isT "NoneType" "dict" = false := by decide
theorem isT_bool_bool : isT "bool" "bool" = true := by decide
theorem isT_bool_int : isT "bool" "int" = true := by decide
theorem isT_bool_str : isT "bool" "str" = false := by decide
theorem isT_bool_list : isT "bool" "list" = false := by decide
theorem isT_bool_tuple : isT "bool" "tuple" = false := by decide
theorem isT_bool_dict : isT "bool" "dict" = false := by decide
theorem isT_int_bool : isT "int" "bool" = false := by decide
theorem isT_int_int : isT "int" "int" = true := by decide
theorem isT_int_str : isT "int" "str" = false := by decide
theorem isT_int_list : isT "int" "list" = false := by decide
theorem isT_int_tuple : isT "int" "tuple" = false := by decide
theorem isT_int_dict : isT "int" "dict" = false := by decide
theorem isT_str_bool : isT "str" "bool" = false := by decide
theorem isT_str_int : isT "str" "int" = false := by decide
theorem isT_str_str : isT "str" "str" = true := by decide
theorem isT_str_list : isT "str" "list" = false := by decide
theorem isT_str_tuple : isT "str" "tuple" = false := by decide
theorem isT_str_dict : isT "str" "dict" = false := by decide
theorem isT_list_bool : isT "list" "bool" = false := by decide
theorem isT_list_int : isT "list" "int" = false := by decide
theorem isT_list_str : isT "list" "str" = false := by decide
theorem isT_list_list : isT "list" "list" = true := by decide
theorem isT_list_tuple : isT "list" "tuple" = false := by decide
theorem isT_list_dict : isT "list" "dict" = false := by decide
theorem isT_tuple_bool : isT "tuple" "bool" = false := by decide
theorem isT_tuple_int : isT "tuple" "int" = false := by decide
theorem isT_tuple_str : isT "tuple" "str" = false := by decide
theorem isT_tuple_list : isT "tuple" "list" = false := by decide
theorem isT_tuple_tuple : isT "tuple" "tuple" = true := by decide
theorem isT_tuple_dict : isT "tuple" "dict" = false := by decide
theorem isT_dict_bool : isT "dict" "bool" = false := by decide
theorem isT_dict_int : isT "dict" "int" = false := by decide
theorem isT_dict_str : isT "dict" "str" = false := by decide
theorem isT_dict_list : isT "dict" "list" = false := by decide
theorem isT_dict_tuple : isT "dict" "tuple" = false := by decide
theorem isT_dict_dict : isT "dict" "dict" = true := by decide
theorem tyN_non : tyN .non = "NoneType" := rfl
theorem tyN_bl {b : Bool} : tyN (.bl b) = "bool" := rfl
theorem tyN_int {i : Int} : tyN (.int i) = "int" := rfl
theorem tyN_str {s : Str} : tyN (.str s) = "str" := rfl
theorem tyN_lst {xs : List D} : tyN (.lst xs) = "list" := rfl
theorem tyN_tup {xs : List D} : tyN (.tup xs) = "tuple" := rfl
theorem tyN_ftup {xs : List D} : tyN (.ftup xs) = "tuple" := rfl
theorem tyN_klst {xs : List D} : tyN (.klst xs) = "list" := rfl
theorem tyN_dic {ks : List Key} {xs : List D} : tyN (.dic ks xs) = "dict" := rfl
theorem charsD_len (z : Str) : (charsD z).length = z.length := by unfold charsD; rw [List.length_map]; rfl
theorem inD_ss {x y : Str} {Q : Bool → Prop} : inD (.str x) (.str y) Q = inStr x y Q := rfl
theorem inStr_one {c : Nat} {y : Str} {Q : Bool → Prop} : inStr ⟨#[c]⟩ y Q = Q (decide (c ∈ y.cps.toList)) := rfl
theorem wback_nil {args : List Sl} {s : DSt} : wback [] args s = s := by cases args <;> rfl
theorem wback_bor {i : Nat} {as : List Av} {a : Sl} {args : List Sl} {s : DSt} : wback (.bor i :: as) (a :: args) s = (wback as args s).set i a := rfl
theorem eqD_list {xs ys : List D} {ps qs : List PyData} {Q : Bool → Prop} (h1 : toPs xs = some ps) (h2 : toPs ys = some qs) (s1 : SeqAt.shaped (.list ps) = true) (s2 : SeqAt.shaped (.list qs) = true) (q : Q (PyData.eqv (.list ps) (.list qs))) : eqD (.lst xs) (.lst ys) Q := by
  show (match (toPs xs).map PyData.list, (toPs ys).map PyData.list with
    | some p, some q => (SeqAt.shaped p = true ∧ SeqAt.shaped q = true) ∧ Q (PyData.eqv p q)
    | _, _ => False)
  rw [h1, h2]
  exact ⟨⟨s1, s2⟩, q⟩
theorem shaped_list {ps : List PyData} (h : ∀ p ∈ ps, p.canLay0 = true ∧ p.depth = 0) : SeqAt.shaped (.list ps) = true := by
  have a : ∀ (ps : List PyData), (∀ p ∈ ps, p.canLay0 = true ∧ p.depth = 0) → PyData.canLayAll0 ps = true ∧ PyData.depthAll ps = 0 := fun ps => by
    induction ps with
    | nil => intro _; exact ⟨rfl, rfl⟩
    | cons p ps ih =>
      intro h
      obtain ⟨h1, h2⟩ := h p (.head _)
      obtain ⟨h3, h4⟩ := ih fun p m => h p (.tail _ m)
      refine ⟨?_, ?_⟩
      · show (PyData.canLay0 p && PyData.canLayAll0 ps) = true
        rw [h1, h3]; rfl
      · show max (PyData.depth p) (PyData.depthAll ps) = 0
        rw [h2, h4]; rfl
  obtain ⟨h1, h2⟩ := a ps h
  show (PyData.canLayAll0 ps && decide (PyData.depthAll ps + 1 ≤ 64)) = true
  rw [h1, h2]; rfl
theorem shaped_tups {α : Type} {f g : α → Int} (l : List α) : SeqAt.shaped (.list (l.map fun p => .tuple [.int (f p), .int (g p)])) = true := by
  have a : PyData.canLayAll0 (l.map fun p => .tuple [.int (f p), .int (g p)]) = true ∧ PyData.depthAll (l.map fun p => .tuple [.int (f p), .int (g p)]) ≤ 1 := by
    induction l with
    | nil => exact ⟨rfl, Nat.zero_le _⟩
    | cons p l ih =>
      refine ⟨?_, ?_⟩
      · show (true && PyData.canLayAll0 _) = true
        rw [ih.1]; rfl
      · show max 1 (PyData.depthAll _) ≤ 1
        have := ih.2
        omega
  show (PyData.canLayAll0 _ && decide (PyData.depthAll _ + 1 ≤ 64)) = true
  rw [a.1, decide_eq_true (by omega)]; rfl
theorem toPs_map {α : Type} (g : α → D) (p : α → PyData) (h : ∀ a, toP (g a) = some (p a)) (l : List α) : toPs (l.map g) = some (l.map p) := by
  induction l with
  | nil => rfl
  | cons a l ih =>
    show (match toP (g a), toPs (l.map g) with | some p, some ps => some (p :: ps) | _, _ => none) = _
    rw [ih, h a]; rfl
theorem char_ok {c : Nat} (h : c < 0x110000) : PyData.canLay0 (.str ⟨#[c]⟩) = true := by
  show PyData.strOk ⟨#[c]⟩ = true
  unfold PyData.strOk
  simp [h]
theorem le_size {n : Nat} (h : n ≤ 1000000) : (n ≤ sizeLine) = True := eq_true (Nat.le_trans h (by decide))
theorem muD_append {n : Nat} : muD "append" n = mAppend := rfl
theorem muD_insert {n : Nat} : muD "insert" n = mInsert := rfl
theorem muD_pop0 : muD "pop" 0 = mPop := rfl
theorem muD_pop1 : muD "pop" 1 = mPopAt := rfl
theorem maxD2 {i j : Int} {R : Sl → Prop} : maxD [.int i, .int j] R = R (.sh (.int (if j > i then j else i))) := rfl
theorem minD2 {i j : Int} {R : Sl → Prop} : minD [.int i, .int j] R = R (.sh (.int (if j < i then j else i))) := rfl
/-! ### the bag -/
def BagOk (d : D) : Prop := ∃ (ns : List Int) (i a b c : Int), d = .lst [.lst (ns.map .int), .int i, .int a, .int b, .int c] ∧ ns.length ≤ 63 ∧ 0 ≤ i ∧ 0 ≤ a ∧ 0 ≤ b ∧ b < 2147483629
def F_draw : FS := fun args R => ∃ d n, args = [.ow d, .sh (.int n)] ∧ BagOk d ∧ 0 < n ∧ n < 2 ^ 64 ∧ ∀ v d', 0 ≤ v → v < n → BagOk d' → R (.sh (.int v)) [.ow d', .no]
def F_of : FS := fun args R => ∃ d t xs, args = [.ow d, .sh t] ∧ BagOk d ∧ itemsD t = some xs ∧ 0 < xs.length ∧ xs.length ≤ 1000000 ∧ ∀ x d', x ∈ xs → BagOk d' → R (.sh x) [.ow d', .no]
def F_bag : FS := fun args R => ∃ ns : List Int, args = [.sh (.klst (ns.map .int))] ∧ ns.length ≤ 63 ∧ ∀ d o, BagOk d → R (.ow d) o
theorem draw_log {n : Int} (h : 0 < n) (h2 : n < 2 ^ 64) : n.natAbs.log2 < 9000 := by
  have h3 : n.natAbs < 2 ^ 64 := by omega
  have h4 : n.natAbs ≠ 0 := by omega
  have := (Nat.log2_lt h4).mpr h3
  omega
theorem intsOf_int (ns : List Int) : intsOf (ns.map .int) = some ns := intsOf_map ns
end DL

namespace DL
variable [TB]
open PySem PySem.Spec PyProof.Rows L2
/-! ### a new instance -/
def mkF (cls : Str) (F : FS) : FS := fun args R => F (.ow (.ins cls [] []) :: args) fun r out => r = .sh .non ∧ ∃ d rest, out = .ow d :: rest ∧ R (.ow d) rest
section
variable {P : Program} {w : World} {K : PySem.W.Frag} {mg : Str → Option Value} {base : Heap} {lv k : Nat} {x : Str} {f : Addr} {fd : FuncData} {ps : List Str}
theorem StRep.tail {B G H : Hp} {y : Sl} {args : List Sl} {v : V} {vs : List V} (S : StRep K B G (y :: args) ((v :: vs).map some) H) : StRep K B G args (vs.map some) H where
  bH := S.bH
  gH := S.gH
  dj := S.dj
  tb := S.tb
  len := by have := S.len; simpa using this
  sh := fun i d h => S.sh (i + 1) d h
  ow := fun i d h => S.ow (i + 1) d h
  ap := fun i j d e a h1 h2 h3 h4 => Nat.succ.inj (S.ap (i + 1) (j + 1) d e a h1 h2 h3 h4)
theorem sp_make {cls : Str} {F : FS} {vs : List V} {H : Hp} {Q : VK} {E : XK} (h : spOf K (mkF cls F) vs H Q E) (p dx : Addr) (hp : H p = none) (hdx : H dx = none) (hne : dx ≠ p) :
    spOf K F (.ref p :: vs) (upd (upd H dx (.own p)) p (.ins (He.ga K cls) dx [])) (fun v H2 => v = .non ∧ Q (.ref p) H2) E := by
  obtain ⟨B, G, args, R, S, a, k⟩ := h
  have no : ∀ {X : Hp} {a : Addr} {o : HO}, Same X H → X a = some o → a ≠ p ∧ a ≠ dx := fun s e => ⟨(fun q => by rw [q] at e; have := s _ _ e; rw [this] at hp; cases hp), (fun q => by rw [q] at e; have := s _ _ e; rw [this] at hdx; cases hdx)⟩
  have up : ∀ {b : Addr} {o : HO}, H b = some o → (upd (upd H dx (.own p)) p (.ins (He.ga K cls) dx [])) b = some o := fun {b o} e => by
    obtain ⟨h1, h2⟩ := no (.refl _) e
    rw [upd_ne h1, upd_ne h2]
    exact e
  have Gp : G p = none := by
    cases q : G p with
    | none => rfl
    | some o => exact absurd rfl (no S.gH q).1
  have Bp : B p = none := by
    cases q : B p with
    | none => rfl
    | some o => exact absurd rfl (no S.bH q).1
  have S' : StRep K B G (.ow (.ins cls [] []) :: args) ((V.ref p :: vs).map some) (upd (upd H dx (.own p)) p (.ins (He.ga K cls) dx [])) := {
    bH := fun b o e => up (S.bH _ _ e)
    gH := fun b o e => up (S.gH _ _ e)
    dj := S.dj
    tb := S.tb.up fun b o e => up e
    len := by have := S.len; simpa using this
    sh := fun i d h => by
      cases i with
      | zero => cases h
      | succ i => exact S.sh i d h
    ow := fun i d h => by
      cases i with
      | zero =>
        cases h
        exact ⟨p, _, rfl, Gp, Bp, upd_same, ⟨p, dx, [], rfl, upd_same, rfl, rfl⟩, rfl⟩
      | succ i =>
        obtain ⟨a, o, h1, h2, h3, h4, h5, h6⟩ := S.ow i d h
        exact ⟨a, o, h1, h2, h3, up h4, Top.mono (.refl _) (fun b o e => up e) h5, h6⟩
    ap := fun i j d e a h1 h2 h3 h4 => by
      cases i with
      | zero =>
        cases j with
        | zero => rfl
        | succ j =>
          obtain ⟨a', o, g1, _, _, g4, _⟩ := S.ow j e h2
          have e1 : some (some (V.ref p)) = some (some (V.ref a)) := h3
          cases e1
          have e2 : (vs.map some)[j]? = some (some (V.ref p)) := h4
          rw [g1] at e2
          cases e2
          exact absurd rfl (no (.refl _) g4).1
      | succ i =>
        cases j with
        | zero =>
          obtain ⟨a', o, g1, _, _, g4, _⟩ := S.ow i d h1
          have e1 : some (some (V.ref p)) = some (some (V.ref a)) := h4
          cases e1
          have e2 : (vs.map some)[i]? = some (some (V.ref p)) := h3
          rw [g1] at e2
          cases e2
          exact absurd rfl (no (.refl _) g4).1
        | succ j => exact congrArg Nat.succ (S.ap i j d e a h1 h2 h3 h4) }
  refine ⟨B, G, _, _, S', a, fun r out G' H' v S2 e rr q => ?_⟩
  obtain ⟨rfl, d, rest, rfl, q⟩ := q
  refine ⟨rr, k (.ow d) rest G' H' (.ref p) S2.tail e ?_ q⟩
  obtain ⟨a', o, g1, g2, g3, g4, g5, g6⟩ := S2.ow 0 d rfl
  have e1 : some (some (V.ref p)) = some (some (V.ref a')) := g1
  cases e1
  refine ⟨p, o, rfl, g2, g3, g4, g5, g6, fun i e hi he => ?_⟩
  have := S2.ap 0 (i + 1) d e p rfl hi rfl he
  cases this
/-- a call that makes an instance, every parameter written -/
theorem callJ_mk {cls : Str} {Fs : FS} (M : Mk K (He.ga K cls) f) (F : FnOk P w K mg base CX0 k f fd ps (spOf K Fs)) (hk : k + 1 ≤ lv) (hm : mg x = some (.ref (He.ga K cls))) (b : L2.Binds K fd ps []) (n : Nat) : CallJ P w K mg base lv x n [] (mkF cls Fs) := by
  intro X e1 e2 e3 e4 e5 hc hr hg hn es kws p pos w1 w2 hl hks hns h0 h0' ha hk2
  subst e1; subst e2; subst e3; subst e4; subst e5
  have hkw := kw_nil hks
  subst hkw
  rw [h0' rfl]
  have rm : Room (k + 1) X.A := ⟨hr.hd, by have := hr.dp; omega, by have := hr.un; omega⟩
  have mono : ∀ σ H Q, lift X.K (wCall2 n (mkF cls Fs) w1 wAvNil) σ H Q → tMake (He.ga X.K cls) (spOf X.K Fs) [] E0 (liftAv X.K w1) σ H Q := fun σ H Q l =>
    liftAv_mono (lift_call2 l) fun vs H1 q => by
      have q1 := lift_avNil q.2
      have q2 : spOf X.K (mkF cls Fs) (vs ++ []) H1 Q E0 := q1
      intro p dx hp hdx hne
      exact sp_make q2 p dx hp hdx hne
  cases es with
  | nil =>
    have e0 := h0 rfl
    subst e0
    refine pe_mono (pe_make0 M F rm hg hm b .nil pass0 (okName_ok hn).1) fun σ H Q l => ?_
    exact lift_avNil (mono σ H Q l)
  | cons e es =>
    have hns' := hns
    rw [List.all_cons, Bool.and_eq_true] at hns'
    exact pe_mono (pe_make M F rm hg hm b .nil pass0 ha (okName_ok hn).1 (starEach_cons hns'.1) (any_nil hns'.2)) mono
/-! ### methods -/
theorem meth_eq {env : Env} {o : Expr} {m : Str} {apos pos : Pos} {es : List Expr} {kws : List Keyword} {ks : List Str} (hb : baseOk o = true) (hl : lineOk apos pos = true) (hs : es.all notStar = true) (hk : kwNames kws = some ks) (hf : es.length + kws.length < 25) :
    eval (.Call (.Attribute o m apos) es kws pos) env = (do
      let ov ← eval o env
      standAt apos.atName
      let (f, first) ← holding [ov] (getMethod ov m (do return (← importBound o env).getD true))
      callWith pos f first (backTo pos (starEach es env)) (backToKw pos (keywordEach kws env))) := by
  have hform : methodCallForm (es.length + kws.length) (backTo pos (starEach es env)) (backToKw pos (keywordEach kws env)) = true := by
    unfold methodCallForm
    rw [all_not hs, (kw_all hk).1, Bool.true_and, Bool.true_and]
    have : es.length + kws.length + (if (backToKw pos (keywordEach kws env)).isEmpty = true then 0 else 1) < 30 := by split <;> omega
    exact decide_eq_true this
  have hpos : methodCallPos true o env apos pos = pure pos := by
    unfold methodCallPos
    have hl' : (apos.endLine == pos.line) = true := hl
    simp [hl']
  show (do
    let ov ← attributeBase o m env (eval o env)
    standAt apos.atName
    methodCall o m apos pos env ov (es.length + kws.length) (backTo pos (starEach es env)) (backToKw pos (keywordEach kws env))) = _
  rw [base_ok hb]
  unfold methodCall
  rw [hform, hpos]
  rfl
/-- the methods of one name, class by class -/
structure MethE (P : Program) (w : World) (K : PySem.W.Frag) (mg : Str → Option Value) (base : Heap) (lv : Nat) (m cls : Str) (Fs : FS) : Prop where
  c : Cls K (He.ga K cls)
  run : ∃ f fd ps k, Meth K (He.ga K cls) m f ∧ FnOk P w K mg base CX0 k f fd ps (spOf K Fs) ∧ k ≤ lv ∧ L2.Binds K fd ps []
theorem methJ {m : Str} {ms : Str → Option FS} (h : ∀ cls F, ms cls = some F → MethE P w K mg base lv m cls F) (n : Nat) : MethJ P w K mg base lv m n [] ms := by
  intro X e1 e2 e3 e4 e5 hc hr o es kws apos pos wo w1 w2 hb hl hn hks hf hns h0 h0' ho ha hk2
  subst e1; subst e2; subst e3; subst e4; subst e5
  have hkw := kw_nil hks
  subst hkw
  rw [h0' rfl]
  have ht := meth_eq (env := X.env) (m := m) hb hl hns hks hf
  refine ⟨fun pins s σ H Q I l => ?_⟩
  refine PySem.W.methodCall_KW (thn (ho.run pins s σ H _ I (lift_cmeth l)) fun u s1 ⟨x, H1, I1, rx, C, a, dx, fs, F, ex, ea, hlk, hF, q⟩ => ?_) ht
  subst ex
  obtain rfl : u = Value.ref a := rx
  obtain ⟨c, f, fd, ps, k, hm, FO, hk, bb⟩ := h C F hF
  have rm : Room k X.A := ⟨hr.hd, by have := hr.dp; omega, by have := hr.un; omega⟩
  refine getmeth_ok I1 ea c hm hlk ?_
  have q' : liftAv X.K w1 σ H1 fun vs H2 => spOf X.K F (.ref a :: vs) H2 Q E0 := liftAv_mono q fun vs H2 h2 => by
    have q1 := lift_avNil h2
    have q2 : spOf X.K F (.ref a :: (vs ++ [])) H2 Q E0 := q1
    rwa [List.append_nil] at q2
  cases es with
  | nil =>
    have e0 := h0 rfl
    subst e0
    have q2 : spOf X.K F [.ref a] H1 Q E0 := lift_avNil q'
    exact PySem.W.callWith_K0 (first := [.ref a]) I1.kIn hm.kp (run_fn (us := [.ref a]) (vs := [.ref a]) FO rm bb .nil pass0 I1 (.cons rfl .nil) q2)
  | cons e es =>
    have hns' := hns
    rw [List.all_cons, Bool.and_eq_true] at hns'
    refine PySem.W.callWith_K (first := [.ref a]) (h₀ := X.base) I1.ok.mod.kin hm.kp (thn (ha.run pos pins s1 σ H1 _ I1 q') fun us s2 ⟨vs, H2, I2, r, q2⟩ => ⟨I2.kIn, ?_⟩) (starEach_cons hns'.1) (any_nil hns'.2)
    refine run_fn (us := .ref a :: us) (vs := .ref a :: vs) FO rm bb .nil pass0 I2 (.cons rfl r) ?_
    rw [List.append_nil]
    exact q2
end
/-! ### attributes by a list -/
def atOf (l : List (Str × Str)) : Str → Str → Bool := fun C f => decide ((C, f) ∈ l)
end DL

namespace DL
variable [TB]
open PySem
local macro_rules | `(tactic| walk_at "SI") => `(tactic| simp only [wAls, wAug, wTMeth, tmD, wLcv, wSrs, wSrk, wSrl, wLc2, wTs, wCaps, wLMeth, lmD, wEnm, revD, rg1D, rg2D, wCMeth, wStf, putD, fldD, attrD, mkF, dflF, kwF, shs, pickG, pickO, consO, Option.map_some, List.take_nil, wMeth, methD, joinD, strsOf_map, wSs_cons, wSs_nil, Later_nil, wS, wE, wT, wI, wX, wVl, wOl, wAv, mk3, mkT, mkI, opd, wIf, wOr, DL.wAnd, DL.wNot, wBool, wTru, wUn, wOp, wFn, wCons, wNil, wVCons, wVNil, wAvNil, wAvVal, wAvBor, wCall2, wC, wVar, wAndV, wOrV, wNotV, wIte, wLst, wTup, wDct, wChn, wSlc, partE, varOp, asOp, entry, content, resO, resOs, frz, wRet, wRetV, wRetN, wNext, wDrop, wSet, wUnp, wPar, wSti, wBrk, wCnt, wMut, muD_append, muD_insert, muD_pop0, muD_pop1, mAppend, mInsert, mPop, mPopAt, wSeq', wFor, wWhile, wLc, wRng1, wRng2, wZip, itemsD, nth, bindTg, bindTgs, noOw, wipeS, restore, wback_val, wback_nil, wback_bor, List.nodup_nil, List.nodup_cons, List.not_mem_nil, bors, resA, pairD, keyD, le_size, List.replicate_succ, List.replicate_zero, List.length_cons, List.length_nil, List.cons_append, List.nil_append, List.getElem?_cons_zero, List.getElem?_cons_succ, List.getElem?_nil, List.set_cons_zero, List.set_cons_succ, Option.isSome_some, List.map_cons, List.map_nil, List.all_cons, List.all_nil, List.any_cons, List.any_nil, Nat.reduceSub, Nat.reduceAdd, Nat.reduceLT, Nat.reduceLeDiff, reduceIte, reduceCtorEq, Bool.not_true, Bool.not_false, Bool.false_eq_true, and_true, true_and, List.drop_zero, List.drop_succ_cons, List.take_succ_cons, List.take_zero, maxD2, minD2, lenD, intD, boolD, strD, listD, tupleD, allD, anyD, blsD, cmpB, cmpD, binD, addD, subD, mulD, fdivD, modD, powD, negD, idxD, slcD, truD, ltD, gtD, leD, geD, eqD_int, eqD_bl, eqD_str, eqD_non, L2.atI, ixN_lit, Int.reduceToNat, Option.bind_some, List.length_map, List.set_cons_zero, List.set_cons_succ, isNon, inD_ss, inStr_one, isiD, seqOf, lstOf, String.reduceNe, String.reduceEq, ne_eq, not_false_eq_true, not_true_eq_false, Bool.or_true, Bool.or_false, Bool.true_or, Bool.false_or, Bool.and_true, Bool.and_false, Bool.true_and, Bool.false_and, isT_NoneType_bool, isT_NoneType_int, isT_NoneType_str, isT_NoneType_list, isT_NoneType_tuple, isT_NoneType_dict, isT_bool_bool, isT_bool_int, isT_bool_str, isT_bool_list, isT_bool_tuple, isT_bool_dict, isT_int_bool, isT_int_int, isT_int_str, isT_int_list, isT_int_tuple, isT_int_dict, isT_str_bool, isT_str_int, isT_str_str, isT_str_list, isT_str_tuple, isT_str_dict, isT_list_bool, isT_list_int, isT_list_str, isT_list_list, isT_list_tuple, isT_list_dict, isT_tuple_bool, isT_tuple_int, isT_tuple_str, isT_tuple_list, isT_tuple_tuple, isT_tuple_dict, isT_dict_bool, isT_dict_int, isT_dict_str, isT_dict_list, isT_dict_tuple, isT_dict_dict, tyN_non, tyN_bl, tyN_int, tyN_str, tyN_lst, tyN_tup, tyN_ftup, tyN_klst, tyN_dic])
local macro_rules | `(tactic| walk_at "ST") => `(tactic| (refine later ?_; simp only [wAls, wAug, wTMeth, tmD, wLcv, wSrs, wSrk, wSrl, wLc2, wTs, wCaps, wLMeth, lmD, wEnm, revD, rg1D, rg2D, wCMeth, wStf, putD, fldD, attrD, mkF, dflF, kwF, shs, pickG, pickO, consO, Option.map_some, List.take_nil, wMeth, methD, joinD, strsOf_map, wSs_cons, wSs_nil, Later_nil, wS, wE, wT, wI, wX, wVl, wOl, wAv, mk3, mkT, mkI, opd, wIf, wOr, DL.wAnd, DL.wNot, wBool, wTru, wUn, wOp, wFn, wCons, wNil, wVCons, wVNil, wAvNil, wAvVal, wAvBor, wCall2, wC, wVar, wAndV, wOrV, wNotV, wIte, wLst, wTup, wDct, wChn, wSlc, partE, varOp, asOp, entry, content, resO, resOs, frz, wRet, wRetV, wRetN, wNext, wDrop, wSet, wUnp, wPar, wSti, wBrk, wCnt, wMut, muD_append, muD_insert, muD_pop0, muD_pop1, mAppend, mInsert, mPop, mPopAt, wSeq', wFor, wWhile, wLc, wRng1, wRng2, wZip, itemsD, nth, bindTg, bindTgs, noOw, wipeS, restore, wback_val, wback_nil, wback_bor, List.nodup_nil, List.nodup_cons, List.not_mem_nil, bors, resA, pairD, keyD, le_size, List.replicate_succ, List.replicate_zero, List.length_cons, List.length_nil, List.cons_append, List.nil_append, List.getElem?_cons_zero, List.getElem?_cons_succ, List.getElem?_nil, List.set_cons_zero, List.set_cons_succ, Option.isSome_some, List.map_cons, List.map_nil, List.all_cons, List.all_nil, List.any_cons, List.any_nil, Nat.reduceSub, Nat.reduceAdd, Nat.reduceLT, Nat.reduceLeDiff, reduceIte, reduceCtorEq, Bool.not_true, Bool.not_false, Bool.false_eq_true, and_true, true_and, List.drop_zero, List.drop_succ_cons, List.take_succ_cons, List.take_zero, maxD2, minD2, lenD, intD, boolD, strD, listD, tupleD, allD, anyD, blsD, cmpB, cmpD, binD, addD, subD, mulD, fdivD, modD, powD, negD, idxD, slcD, truD, ltD, gtD, leD, geD, eqD_int, eqD_bl, eqD_str, eqD_non, L2.atI, ixN_lit, Int.reduceToNat, Option.bind_some, List.length_map, List.set_cons_zero, List.set_cons_succ, isNon, inD_ss, inStr_one, isiD, seqOf, lstOf, String.reduceNe, String.reduceEq, ne_eq, not_false_eq_true, not_true_eq_false, Bool.or_true, Bool.or_false, Bool.true_or, Bool.false_or, Bool.and_true, Bool.and_false, Bool.true_and, Bool.false_and, isT_NoneType_bool, isT_NoneType_int, isT_NoneType_str, isT_NoneType_list, isT_NoneType_tuple, isT_NoneType_dict, isT_bool_bool, isT_bool_int, isT_bool_str, isT_bool_list, isT_bool_tuple, isT_bool_dict, isT_int_bool, isT_int_int, isT_int_str, isT_int_list, isT_int_tuple, isT_int_dict, isT_str_bool, isT_str_int, isT_str_str, isT_str_list, isT_str_tuple, isT_str_dict, isT_list_bool, isT_list_int, isT_list_str, isT_list_list, isT_list_tuple, isT_list_dict, isT_tuple_bool, isT_tuple_int, isT_tuple_str, isT_tuple_list, isT_tuple_tuple, isT_tuple_dict, isT_dict_bool, isT_dict_int, isT_dict_str, isT_dict_list, isT_dict_tuple, isT_dict_dict, tyN_non, tyN_bl, tyN_int, tyN_str, tyN_lst, tyN_tup, tyN_ftup, tyN_klst, tyN_dic]))
/-! ### defs that many laws share -/
def bagB1 : List S := [(.set 1 (.int 13961)), (.for (.nm 2) (.slc (.var 0) .bad (.int 63)) [(.set 1 (.bin .Mod (.bi 0 [(.bin .Add (.bin .Add (.bin .Mult (.var 1) (.int 48271)) (.bin .Mult (.bin .Mod (.bi 0 [(.var 2)]) (.int 2147483563)) (.int 40014))) (.int 761))]) (.int 2147483629)))]), (.ret (.lst [(.bi 1 [(.slc (.var 0) .bad (.int 63))]), (.int 0), (.int 0), (.var 1), (.int 0)]))]
def drawB1 : List S := [(.sti 0 (.int 4) (.bin .Add (.idx (.var 0) (.int 4)) (.int 1))), (.ifs (.and (.cmp .Eq (.idx (.var 0) (.int 2)) (.int 0)) (.cmp .Lt (.idx (.var 0) (.int 1)) (.bi 0 [(.idx (.var 0) (.int 0))]))) [(.set 2 (.bi 1 [(.idx (.idx (.var 0) (.int 0)) (.idx (.var 0) (.int 1)))])), (.sti 0 (.int 1) (.bin .Add (.idx (.var 0) (.int 1)) (.int 1))), (.ifs (.cmp .GtE (.var 2) (.bin .Pow (.int 10) (.int 18))) [(.sti 0 (.int 2) (.var 2))] [(.sti 0 (.int 3) (.bin .Mod (.bi 1 [(.bin .Add (.bin .Add (.bin .Mult (.idx (.var 0) (.int 3)) (.int 69621)) (.bin .Mult (.bin .Mod (.var 2) (.int 2147483549)) (.int 271))) (.int 97))]) (.int 2147483579)))])] []), (.ifs (.cmp .Gt (.idx (.var 0) (.int 2)) (.int 0)) [(.set 3 (.bin .Mod (.bi 1 [(.idx (.var 0) (.int 2))]) (.var 1))), (.sti 0 (.int 2) (.bin .FloorDiv (.idx (.var 0) (.int 2)) (.var 1))), (.retv 3)] []), (.sti 0 (.int 3) (.bin .Mod (.bi 1 [(.bin .Add (.bin .Add (.bin .Pow (.idx (.var 0) (.int 3)) (.int 3)) (.bin .Mult (.idx (.var 0) (.int 4)) (.int 1299709))) (.int 60013))]) (.int 2147483579))), (.ret (.bin .Mod (.bi 1 [(.bin .Add (.bin .FloorDiv (.idx (.var 0) (.int 3)) (.int 97)) (.bin .Mult (.bin .Mod (.bi 1 [(.idx (.var 0) (.int 3))]) (.int 7907)) (.int 268435459)))]) (.var 1)))]
def ofB1 : List S := [(.ret (.idx (.var 1) (.call 0 [(.bor 0), (.bi 0 [(.var 1)])] [])))]
def likeB1 : List S := [(.ifs (.isi (.var 1) ["list", "tuple"]) [(.ifs (.or (.cmp .NotEq (.isi (.var 0) ["list"]) (.isi (.var 1) ["list"])) (.cmp .NotEq (.isi (.var 0) ["tuple"]) (.isi (.var 1) ["tuple"]))) [(.ret (.bl false))] []), (.ret (.and (.cmp .Eq (.bi 0 [(.var 0)]) (.bi 0 [(.var 1)])) (.bi 1 [(.lc (.call 0 [(.var 2), (.var 3)] []) (.tp [(.nm 2), (.nm 3)]) (.zip [(.var 0), (.var 1)]) [] [2, 3])])))] []), (.ifs (.isi (.var 1) ["dict"]) [(.ifs (.nt (.isi (.var 0) ["dict"])) [(.ret (.bl false))] []), (.ret (.call 0 [(.lc (.lst [(.var 4), (.idx (.var 0) (.var 4))]) (.nm 4) (.var 0) [] [4]), (.lc (.lst [(.var 4), (.idx (.var 1) (.var 4))]) (.nm 4) (.var 1) [] [4])] []))] []), (.ifs (.or (.cmp .Is (.var 1) .non) (.cmp .Is (.var 0) .non)) [(.ret (.and (.cmp .Is (.var 1) .non) (.cmp .Is (.var 0) .non)))] []), (.ifs (.or (.isi (.var 0) ["list", "tuple", "dict"]) (.cmp .NotEq (.isi (.var 0) ["bool"]) (.isi (.var 1) ["bool"]))) [(.ret (.bl false))] []), (.ifs (.or (.cmp .NotEq (.isi (.var 0) ["str"]) (.isi (.var 1) ["str"])) (.cmp .NotEq (.isi (.var 0) ["int"]) (.isi (.var 1) ["int"]))) [(.ret (.bl false))] []), (.ret (.bi 2 [(.cmp .Eq (.var 0) (.var 1))]))]
theorem cut_ints (ns : List Int) : cutL (ns.map D.int) none (some 63) = (ns.take 63).map D.int := by
  rw [show (63 : Int) = ((63 : Nat) : Int) from rfl, cutL_to, List.map_take]
theorem bag1 {at_ : Str → Str → Bool} : ∀ args R, F_bag args R → runF [] 1 3 (wSs (mkSem [] [] [intD, listD] [] [] at_) bagB1) args R := by
  rintro args R ⟨ns, rfl, hl, hR⟩
  refine ⟨rfl, ?_⟩
  unfold bagB1
  simp only [wAls, wAug, wTMeth, tmD, wLcv, wSrs, wSrk, wSrl, wLc2, wTs, wCaps, wLMeth, lmD, wEnm, revD, rg1D, rg2D, wCMeth, wStf, putD, fldD, attrD, mkF, dflF, kwF, shs, pickG, pickO, consO, Option.map_some, List.take_nil, wMeth, methD, joinD, strsOf_map, wSs_cons, wSs_nil, Later_nil, wS, wE, wT, wI, wX, wVl, wOl, wAv, mk3, mkT, mkI, opd, wIf, wOr, DL.wAnd, DL.wNot, wBool, wTru, wUn, wOp, wFn, wCons, wNil, wVCons, wVNil, wAvNil, wAvVal, wAvBor, wCall2, wC, wVar, wAndV, wOrV, wNotV, wIte, wLst, wTup, wDct, wChn, wSlc, partE, varOp, asOp, entry, content, resO, resOs, frz, wRet, wRetV, wRetN, wNext, wDrop, wSet, wUnp, wPar, wSti, wBrk, wCnt, wMut, muD_append, muD_insert, muD_pop0, muD_pop1, mAppend, mInsert, mPop, mPopAt, wSeq', wFor, wWhile, wLc, wRng1, wRng2, wZip, itemsD, nth, bindTg, bindTgs, noOw, wipeS, restore, wback_val, wback_nil, wback_bor, List.nodup_nil, List.nodup_cons, List.not_mem_nil, bors, resA, pairD, keyD, le_size, List.replicate_succ, List.replicate_zero, List.length_cons, List.length_nil, List.cons_append, List.nil_append, List.getElem?_cons_zero, List.getElem?_cons_succ, List.getElem?_nil, List.set_cons_zero, List.set_cons_succ, Option.isSome_some, List.map_cons, List.map_nil, List.all_cons, List.all_nil, List.any_cons, List.any_nil, Nat.reduceSub, Nat.reduceAdd, Nat.reduceLT, Nat.reduceLeDiff, reduceIte, reduceCtorEq, Bool.not_true, Bool.not_false, Bool.false_eq_true, and_true, true_and, List.drop_zero, List.drop_succ_cons, List.take_succ_cons, List.take_zero, maxD2, minD2, lenD, intD, boolD, strD, listD, tupleD, allD, anyD, blsD, cmpB, cmpD, binD, addD, subD, mulD, fdivD, modD, powD, negD, idxD, slcD, truD, ltD, gtD, leD, geD, eqD_int, eqD_bl, eqD_str, eqD_non, L2.atI, ixN_lit, Int.reduceToNat, Option.bind_some, List.length_map, List.set_cons_zero, List.set_cons_succ, isNon, inD_ss, inStr_one, isiD, seqOf, lstOf, String.reduceNe, String.reduceEq, ne_eq, not_false_eq_true, not_true_eq_false, Bool.or_true, Bool.or_false, Bool.true_or, Bool.false_or, Bool.and_true, Bool.and_false, Bool.true_and, Bool.false_and, isT_NoneType_bool, isT_NoneType_int, isT_NoneType_str, isT_NoneType_list, isT_NoneType_tuple, isT_NoneType_dict, isT_bool_bool, isT_bool_int, isT_bool_str, isT_bool_list, isT_bool_tuple, isT_bool_dict, isT_int_bool, isT_int_int, isT_int_str, isT_int_list, isT_int_tuple, isT_int_dict, isT_str_bool, isT_str_int, isT_str_str, isT_str_list, isT_str_tuple, isT_str_dict, isT_list_bool, isT_list_int, isT_list_str, isT_list_list, isT_list_tuple, isT_list_dict, isT_tuple_bool, isT_tuple_int, isT_tuple_str, isT_tuple_list, isT_tuple_tuple, isT_tuple_dict, isT_dict_bool, isT_dict_int, isT_dict_str, isT_dict_list, isT_dict_tuple, isT_dict_dict, tyN_non, tyN_bl, tyN_int, tyN_str, tyN_lst, tyN_tup, tyN_ftup, tyN_klst, tyN_dic]
  apply later
  simp only [wAls, wAug, wTMeth, tmD, wLcv, wSrs, wSrk, wSrl, wLc2, wTs, wCaps, wLMeth, lmD, wEnm, revD, rg1D, rg2D, wCMeth, wStf, putD, fldD, attrD, mkF, dflF, kwF, shs, pickG, pickO, consO, Option.map_some, List.take_nil, wMeth, methD, joinD, strsOf_map, wSs_cons, wSs_nil, Later_nil, wS, wE, wT, wI, wX, wVl, wOl, wAv, mk3, mkT, mkI, opd, wIf, wOr, DL.wAnd, DL.wNot, wBool, wTru, wUn, wOp, wFn, wCons, wNil, wVCons, wVNil, wAvNil, wAvVal, wAvBor, wCall2, wC, wVar, wAndV, wOrV, wNotV, wIte, wLst, wTup, wDct, wChn, wSlc, partE, varOp, asOp, entry, content, resO, resOs, frz, wRet, wRetV, wRetN, wNext, wDrop, wSet, wUnp, wPar, wSti, wBrk, wCnt, wMut, muD_append, muD_insert, muD_pop0, muD_pop1, mAppend, mInsert, mPop, mPopAt, wSeq', wFor, wWhile, wLc, wRng1, wRng2, wZip, itemsD, nth, bindTg, bindTgs, noOw, wipeS, restore, wback_val, wback_nil, wback_bor, List.nodup_nil, List.nodup_cons, List.not_mem_nil, bors, resA, pairD, keyD, le_size, List.replicate_succ, List.replicate_zero, List.length_cons, List.length_nil, List.cons_append, List.nil_append, List.getElem?_cons_zero, List.getElem?_cons_succ, List.getElem?_nil, List.set_cons_zero, List.set_cons_succ, Option.isSome_some, List.map_cons, List.map_nil, List.all_cons, List.all_nil, List.any_cons, List.any_nil, Nat.reduceSub, Nat.reduceAdd, Nat.reduceLT, Nat.reduceLeDiff, reduceIte, reduceCtorEq, Bool.not_true, Bool.not_false, Bool.false_eq_true, and_true, true_and, List.drop_zero, List.drop_succ_cons, List.take_succ_cons, List.take_zero, maxD2, minD2, lenD, intD, boolD, strD, listD, tupleD, allD, anyD, blsD, cmpB, cmpD, binD, addD, subD, mulD, fdivD, modD, powD, negD, idxD, slcD, truD, ltD, gtD, leD, geD, eqD_int, eqD_bl, eqD_str, eqD_non, L2.atI, ixN_lit, Int.reduceToNat, Option.bind_some, List.length_map, List.set_cons_zero, List.set_cons_succ, isNon, inD_ss, inStr_one, isiD, seqOf, lstOf, String.reduceNe, String.reduceEq, ne_eq, not_false_eq_true, not_true_eq_false, Bool.or_true, Bool.or_false, Bool.true_or, Bool.false_or, Bool.and_true, Bool.and_false, Bool.true_and, Bool.false_and, isT_NoneType_bool, isT_NoneType_int, isT_NoneType_str, isT_NoneType_list, isT_NoneType_tuple, isT_NoneType_dict, isT_bool_bool, isT_bool_int, isT_bool_str, isT_bool_list, isT_bool_tuple, isT_bool_dict, isT_int_bool, isT_int_int, isT_int_str, isT_int_list, isT_int_tuple, isT_int_dict, isT_str_bool, isT_str_int, isT_str_str, isT_str_list, isT_str_tuple, isT_str_dict, isT_list_bool, isT_list_int, isT_list_str, isT_list_list, isT_list_tuple, isT_list_dict, isT_tuple_bool, isT_tuple_int, isT_tuple_str, isT_tuple_list, isT_tuple_tuple, isT_tuple_dict, isT_dict_bool, isT_dict_int, isT_dict_str, isT_dict_list, isT_dict_tuple, isT_dict_dict, tyN_non, tyN_bl, tyN_int, tyN_str, tyN_lst, tyN_tup, tyN_ftup, tyN_klst, tyN_dic]
  rw [cut_ints]
  refine forGo_ind (fun ds s => ∃ (ms : List Int) (t : Int) (y : Sl), ds = ms.map .int ∧ s = [.sh (.klst (ns.map .int)), .sh (.int t), y] ∧ 0 ≤ t ∧ t < 2147483629) ?_ ?_ _ _ ⟨_, 13961, .no, rfl, rfl, by decide, by decide⟩
  · rintro s ⟨ms, t, y, _, rfl, h1, h2⟩
    apply later
    simp only [wAls, wAug, wTMeth, tmD, wLcv, wSrs, wSrk, wSrl, wLc2, wTs, wCaps, wLMeth, lmD, wEnm, revD, rg1D, rg2D, wCMeth, wStf, putD, fldD, attrD, mkF, dflF, kwF, shs, pickG, pickO, consO, Option.map_some, List.take_nil, wMeth, methD, joinD, strsOf_map, wSs_cons, wSs_nil, Later_nil, wS, wE, wT, wI, wX, wVl, wOl, wAv, mk3, mkT, mkI, opd, wIf, wOr, DL.wAnd, DL.wNot, wBool, wTru, wUn, wOp, wFn, wCons, wNil, wVCons, wVNil, wAvNil, wAvVal, wAvBor, wCall2, wC, wVar, wAndV, wOrV, wNotV, wIte, wLst, wTup, wDct, wChn, wSlc, partE, varOp, asOp, entry, content, resO, resOs, frz, wRet, wRetV, wRetN, wNext, wDrop, wSet, wUnp, wPar, wSti, wBrk, wCnt, wMut, muD_append, muD_insert, muD_pop0, muD_pop1, mAppend, mInsert, mPop, mPopAt, wSeq', wFor, wWhile, wLc, wRng1, wRng2, wZip, itemsD, nth, bindTg, bindTgs, noOw, wipeS, restore, wback_val, wback_nil, wback_bor, List.nodup_nil, List.nodup_cons, List.not_mem_nil, bors, resA, pairD, keyD, le_size, List.replicate_succ, List.replicate_zero, List.length_cons, List.length_nil, List.cons_append, List.nil_append, List.getElem?_cons_zero, List.getElem?_cons_succ, List.getElem?_nil, List.set_cons_zero, List.set_cons_succ, Option.isSome_some, List.map_cons, List.map_nil, List.all_cons, List.all_nil, List.any_cons, List.any_nil, Nat.reduceSub, Nat.reduceAdd, Nat.reduceLT, Nat.reduceLeDiff, reduceIte, reduceCtorEq, Bool.not_true, Bool.not_false, Bool.false_eq_true, and_true, true_and, List.drop_zero, List.drop_succ_cons, List.take_succ_cons, List.take_zero, maxD2, minD2, lenD, intD, boolD, strD, listD, tupleD, allD, anyD, blsD, cmpB, cmpD, binD, addD, subD, mulD, fdivD, modD, powD, negD, idxD, slcD, truD, ltD, gtD, leD, geD, eqD_int, eqD_bl, eqD_str, eqD_non, L2.atI, ixN_lit, Int.reduceToNat, Option.bind_some, List.length_map, List.set_cons_zero, List.set_cons_succ, isNon, inD_ss, inStr_one, isiD, seqOf, lstOf, String.reduceNe, String.reduceEq, ne_eq, not_false_eq_true, not_true_eq_false, Bool.or_true, Bool.or_false, Bool.true_or, Bool.false_or, Bool.and_true, Bool.and_false, Bool.true_and, Bool.false_and, isT_NoneType_bool, isT_NoneType_int, isT_NoneType_str, isT_NoneType_list, isT_NoneType_tuple, isT_NoneType_dict, isT_bool_bool, isT_bool_int, isT_bool_str, isT_bool_list, isT_bool_tuple, isT_bool_dict, isT_int_bool, isT_int_int, isT_int_str, isT_int_list, isT_int_tuple, isT_int_dict, isT_str_bool, isT_str_int, isT_str_str, isT_str_list, isT_str_tuple, isT_str_dict, isT_list_bool, isT_list_int, isT_list_str, isT_list_list, isT_list_tuple, isT_list_dict, isT_tuple_bool, isT_tuple_int, isT_tuple_str, isT_tuple_list, isT_tuple_tuple, isT_tuple_dict, isT_dict_bool, isT_dict_int, isT_dict_str, isT_dict_list, isT_dict_tuple, isT_dict_dict, tyN_non, tyN_bl, tyN_int, tyN_str, tyN_lst, tyN_tup, tyN_ftup, tyN_klst, tyN_dic, cut_ints]
    exact hR _ _ ⟨ns.take 63, 0, 0, t, 0, rfl, by rw [List.length_take]; omega, by decide, by decide, h1, h2⟩
  · rintro d ds s ⟨ms, t, y, he, rfl, h1, h2⟩ K hK
    cases ms with
    | nil => cases he
    | cons m ms =>
      rw [List.map_cons] at he
      cases he
      refine ⟨_, rfl, ?_⟩
      simp only [wAls, wAug, wTMeth, tmD, wLcv, wSrs, wSrk, wSrl, wLc2, wTs, wCaps, wLMeth, lmD, wEnm, revD, rg1D, rg2D, wCMeth, wStf, putD, fldD, attrD, mkF, dflF, kwF, shs, pickG, pickO, consO, Option.map_some, List.take_nil, wMeth, methD, joinD, strsOf_map, wSs_cons, wSs_nil, Later_nil, wS, wE, wT, wI, wX, wVl, wOl, wAv, mk3, mkT, mkI, opd, wIf, wOr, DL.wAnd, DL.wNot, wBool, wTru, wUn, wOp, wFn, wCons, wNil, wVCons, wVNil, wAvNil, wAvVal, wAvBor, wCall2, wC, wVar, wAndV, wOrV, wNotV, wIte, wLst, wTup, wDct, wChn, wSlc, partE, varOp, asOp, entry, content, resO, resOs, frz, wRet, wRetV, wRetN, wNext, wDrop, wSet, wUnp, wPar, wSti, wBrk, wCnt, wMut, muD_append, muD_insert, muD_pop0, muD_pop1, mAppend, mInsert, mPop, mPopAt, wSeq', wFor, wWhile, wLc, wRng1, wRng2, wZip, itemsD, nth, bindTg, bindTgs, noOw, wipeS, restore, wback_val, wback_nil, wback_bor, List.nodup_nil, List.nodup_cons, List.not_mem_nil, bors, resA, pairD, keyD, le_size, List.replicate_succ, List.replicate_zero, List.length_cons, List.length_nil, List.cons_append, List.nil_append, List.getElem?_cons_zero, List.getElem?_cons_succ, List.getElem?_nil, List.set_cons_zero, List.set_cons_succ, Option.isSome_some, List.map_cons, List.map_nil, List.all_cons, List.all_nil, List.any_cons, List.any_nil, Nat.reduceSub, Nat.reduceAdd, Nat.reduceLT, Nat.reduceLeDiff, reduceIte, reduceCtorEq, Bool.not_true, Bool.not_false, Bool.false_eq_true, and_true, true_and, List.drop_zero, List.drop_succ_cons, List.take_succ_cons, List.take_zero, maxD2, minD2, lenD, intD, boolD, strD, listD, tupleD, allD, anyD, blsD, cmpB, cmpD, binD, addD, subD, mulD, fdivD, modD, powD, negD, idxD, slcD, truD, ltD, gtD, leD, geD, eqD_int, eqD_bl, eqD_str, eqD_non, L2.atI, ixN_lit, Int.reduceToNat, Option.bind_some, List.length_map, List.set_cons_zero, List.set_cons_succ, isNon, inD_ss, inStr_one, isiD, seqOf, lstOf, String.reduceNe, String.reduceEq, ne_eq, not_false_eq_true, not_true_eq_false, Bool.or_true, Bool.or_false, Bool.true_or, Bool.false_or, Bool.and_true, Bool.and_false, Bool.true_and, Bool.false_and, isT_NoneType_bool, isT_NoneType_int, isT_NoneType_str, isT_NoneType_list, isT_NoneType_tuple, isT_NoneType_dict, isT_bool_bool, isT_bool_int, isT_bool_str, isT_bool_list, isT_bool_tuple, isT_bool_dict, isT_int_bool, isT_int_int, isT_int_str, isT_int_list, isT_int_tuple, isT_int_dict, isT_str_bool, isT_str_int, isT_str_str, isT_str_list, isT_str_tuple, isT_str_dict, isT_list_bool, isT_list_int, isT_list_str, isT_list_list, isT_list_tuple, isT_list_dict, isT_tuple_bool, isT_tuple_int, isT_tuple_str, isT_tuple_list, isT_tuple_tuple, isT_tuple_dict, isT_dict_bool, isT_dict_int, isT_dict_str, isT_dict_list, isT_dict_tuple, isT_dict_dict, tyN_non, tyN_bl, tyN_int, tyN_str, tyN_lst, tyN_tup, tyN_ftup, tyN_klst, tyN_dic]
      refine ⟨.inl (.inr ⟨by decide, by decide⟩), by decide, .inl (.inr ⟨by decide, by decide⟩), by decide, ?_⟩
      exact hK _ ⟨ms, _, _, rfl, rfl, Int.emod_nonneg _ (by decide), Int.emod_lt_of_pos _ (by decide)⟩
theorem draw1 {at_ : Str → Str → Bool} : ∀ args R, F_draw args R → runF [0] 2 4 (wSs (mkSem [0] [] [lenD, intD] [] [] at_) drawB1) args R := by
  rintro args R ⟨d, n, rfl, ⟨ns, i, a, b, c, rfl, hl, hi, ha, hb, hb2⟩, hn, hn2, hR⟩
  refine ⟨rfl, ?_⟩
  have tail : ∀ (i a b c : Int) (x : Sl), 0 ≤ i → 0 ≤ a → 0 ≤ b → b < 2147483629 → Later (mkSem [0] [] [lenD, intD] [] [] at_) (drawB1.drop 2) (topN [0] 2 R) [.ow (.lst [.lst (ns.map .int), .int i, .int a, .int b, .int c]), .sh (.int n), x, .no] := by
    intro i a b c x hi ha hb hb2
    refine later ?_
    unfold drawB1
    walk_at "SI"
    split
    · refine ⟨hn, ?_⟩
      walk_at "ST"
      refine ⟨⟨hn, draw_log hn hn2⟩, ?_⟩
      walk_at "ST"
      exact hR _ _ (Int.emod_nonneg _ (by omega)) (Int.emod_lt_of_pos _ hn) ⟨ns, i, a / n, b, c, rfl, hl, hi, Int.ediv_nonneg ha (by omega), hb, hb2⟩
    · walk_at "ST"
      refine ⟨⟨by decide, by decide, by omega⟩, .inl (.inr ⟨by decide, by decide⟩), by decide, ?_⟩
      walk_at "ST"
      have e1 := Int.emod_nonneg (b ^ 3 + c * 1299709 + 60013) (b := 2147483579) (by decide)
      have e2 := Int.emod_lt_of_pos (b ^ 3 + c * 1299709 + 60013) (b := 2147483579) (by decide)
      refine ⟨⟨by decide, by decide⟩, by decide, .inl (.inr ⟨by decide, by decide⟩), hn, ?_⟩
      exact hR _ _ (Int.emod_nonneg _ (by omega)) (Int.emod_lt_of_pos _ hn) ⟨ns, i, a, _, c, rfl, hl, hi, ha, e1, by omega⟩
  unfold drawB1
  walk_at "SI"
  walk_at "ST"
  split
  · split
    · rename_i h1 h2
      have h2 := of_decide_eq_true h2
      obtain ⟨m, hm⟩ : ∃ m, ns[i.toNat]? = some m := ⟨_, List.getElem?_eq_getElem (by omega)⟩
      rw [ixN_nat hi h2]
      simp only [Option.bind_some, List.getElem?_map, hm, Option.map_some]
      walk_at "ST"
      walk_at "ST"
      refine ⟨⟨by decide, by decide, by decide⟩, ?_⟩
      split
      · rename_i h3
        have h3 := of_decide_eq_true h3
        exact tail _ _ _ _ _ (by omega) (Int.le_trans (by decide) h3) hb hb2
      · refine ⟨.inl (.inr ⟨by decide, by decide⟩), by decide, .inl (.inr ⟨by decide, by decide⟩), by decide, ?_⟩
        exact tail _ _ _ _ _ (by omega) ha (Int.emod_nonneg _ (by decide)) (Int.lt_trans (Int.emod_lt_of_pos _ (by decide)) (by decide))
    · exact tail _ _ _ _ _ hi ha hb hb2
  · exact tail _ _ _ _ _ hi ha hb hb2
theorem of1 {at_ : Str → Str → Bool} : ∀ args R, F_of args R → runF [0] 2 2 (wSs (mkSem [0] [F_draw] [lenD] [] [] at_) ofB1) args R := by
  rintro args R ⟨d, t, xs, rfl, hd, ht, h0, hl, hR⟩
  refine ⟨rfl, ?_⟩
  unfold ofB1
  simp only [wAls, wAug, wTMeth, tmD, wLcv, wSrs, wSrk, wSrl, wLc2, wTs, wCaps, wLMeth, lmD, wEnm, revD, rg1D, rg2D, wCMeth, wStf, putD, fldD, attrD, mkF, dflF, kwF, shs, pickG, pickO, consO, Option.map_some, List.take_nil, wMeth, methD, joinD, strsOf_map, wSs_cons, wSs_nil, Later_nil, wS, wE, wT, wI, wX, wVl, wOl, wAv, mk3, mkT, mkI, opd, wIf, wOr, DL.wAnd, DL.wNot, wBool, wTru, wUn, wOp, wFn, wCons, wNil, wVCons, wVNil, wAvNil, wAvVal, wAvBor, wCall2, wC, wVar, wAndV, wOrV, wNotV, wIte, wLst, wTup, wDct, wChn, wSlc, partE, varOp, asOp, entry, content, resO, resOs, frz, wRet, wRetV, wRetN, wNext, wDrop, wSet, wUnp, wPar, wSti, wBrk, wCnt, wMut, muD_append, muD_insert, muD_pop0, muD_pop1, mAppend, mInsert, mPop, mPopAt, wSeq', wFor, wWhile, wLc, wRng1, wRng2, wZip, itemsD, nth, bindTg, bindTgs, noOw, wipeS, restore, wback_val, wback_nil, wback_bor, List.nodup_nil, List.nodup_cons, List.not_mem_nil, bors, resA, pairD, keyD, le_size, List.replicate_succ, List.replicate_zero, List.length_cons, List.length_nil, List.cons_append, List.nil_append, List.getElem?_cons_zero, List.getElem?_cons_succ, List.getElem?_nil, List.set_cons_zero, List.set_cons_succ, Option.isSome_some, List.map_cons, List.map_nil, List.all_cons, List.all_nil, List.any_cons, List.any_nil, Nat.reduceSub, Nat.reduceAdd, Nat.reduceLT, Nat.reduceLeDiff, reduceIte, reduceCtorEq, Bool.not_true, Bool.not_false, Bool.false_eq_true, and_true, true_and, List.drop_zero, List.drop_succ_cons, List.take_succ_cons, List.take_zero]
  have hz : xs.length ≤ sizeLine := Nat.le_trans hl (by decide)
  refine lenD_items ht hz ⟨by decide, d, _, rfl, hd, by omega, by omega, fun v d' h1 h2 h3 => ?_⟩
  simp only [wAls, wAug, wTMeth, tmD, wLcv, wSrs, wSrk, wSrl, wLc2, wTs, wCaps, wLMeth, lmD, wEnm, revD, rg1D, rg2D, wCMeth, wStf, putD, fldD, attrD, mkF, dflF, kwF, shs, pickG, pickO, consO, Option.map_some, List.take_nil, wMeth, methD, joinD, strsOf_map, wSs_cons, wSs_nil, Later_nil, wS, wE, wT, wI, wX, wVl, wOl, wAv, mk3, mkT, mkI, opd, wIf, wOr, DL.wAnd, DL.wNot, wBool, wTru, wUn, wOp, wFn, wCons, wNil, wVCons, wVNil, wAvNil, wAvVal, wAvBor, wCall2, wC, wVar, wAndV, wOrV, wNotV, wIte, wLst, wTup, wDct, wChn, wSlc, partE, varOp, asOp, entry, content, resO, resOs, frz, wRet, wRetV, wRetN, wNext, wDrop, wSet, wUnp, wPar, wSti, wBrk, wCnt, wMut, muD_append, muD_insert, muD_pop0, muD_pop1, mAppend, mInsert, mPop, mPopAt, wSeq', wFor, wWhile, wLc, wRng1, wRng2, wZip, itemsD, nth, bindTg, bindTgs, noOw, wipeS, restore, wback_val, wback_nil, wback_bor, List.nodup_nil, List.nodup_cons, List.not_mem_nil, bors, resA, pairD, keyD, le_size, List.replicate_succ, List.replicate_zero, List.length_cons, List.length_nil, List.cons_append, List.nil_append, List.getElem?_cons_zero, List.getElem?_cons_succ, List.getElem?_nil, List.set_cons_zero, List.set_cons_succ, Option.isSome_some, List.map_cons, List.map_nil, List.all_cons, List.all_nil, List.any_cons, List.any_nil, Nat.reduceSub, Nat.reduceAdd, Nat.reduceLT, Nat.reduceLeDiff, reduceIte, reduceCtorEq, Bool.not_true, Bool.not_false, Bool.false_eq_true, and_true, true_and, List.drop_zero, List.drop_succ_cons, List.take_succ_cons, List.take_zero]
  obtain ⟨x, hx⟩ : ∃ x, xs[v.toNat]? = some x := ⟨_, List.getElem?_eq_getElem (by omega)⟩
  exact idxD_items ht hz h1 hx (hR x d' (List.mem_of_getElem? hx) h3)
/-- data that `like` holds equal to itself -/
def likeOk : Nat → D → Prop
  | 0, d => flatD d = true
  | n + 1, d => flatD d = true ∨ (∃ xs, d = .lst xs ∧ xs.length ≤ 1000000 ∧ ∀ x ∈ xs, likeOk n x) ∨ ∃ xs, (d = .tup xs ∨ d = .ftup xs) ∧ xs.length ≤ 1000000 ∧ ∀ x ∈ xs, likeOk n x
def F_like : Nat → FS
  | 0 => falF
  | n + 1 => fun args R => ∃ d, args = [.sh d, .sh d] ∧ likeOk n d ∧ ∀ o, R (.sh (.bl true)) o
theorem zip_self (xs : List D) : zipD xs xs = xs.map fun x => .tup [x, x] := by
  induction xs with
  | nil => rfl
  | cons x xs ih => show D.tup [x, x] :: zipD xs xs = _; rw [ih]; rfl
theorem likeOk_cases {n : Nat} {d : D} (h : likeOk n d) : (d = .non ∨ (∃ b, d = .bl b) ∨ (∃ i, d = .int i) ∨ ∃ z, d = .str z) ∨ ∃ m xs, n = m + 1 ∧ (d = .lst xs ∨ d = .tup xs ∨ d = .ftup xs) ∧ xs.length ≤ 1000000 ∧ ∀ x ∈ xs, likeOk m x := by
  have fl : flatD d = true → d = .non ∨ (∃ b, d = .bl b) ∨ (∃ i, d = .int i) ∨ ∃ z, d = .str z := fun h => by
    cases d with
    | non => exact .inl rfl
    | bl b => exact .inr (.inl ⟨b, rfl⟩)
    | int i => exact .inr (.inr (.inl ⟨i, rfl⟩))
    | str z => exact .inr (.inr (.inr ⟨z, rfl⟩))
    | _ => cases h
  cases n with
  | zero => exact .inl (fl h)
  | succ n =>
    rcases h with h | ⟨xs, rfl, h1, h2⟩ | ⟨xs, rfl | rfl, h1, h2⟩
    · exact .inl (fl h)
    · exact .inr ⟨n, xs, rfl, .inl rfl, h1, h2⟩
    · exact .inr ⟨n, xs, rfl, .inr (.inl rfl), h1, h2⟩
    · exact .inr ⟨n, xs, rfl, .inr (.inr rfl), h1, h2⟩
theorem blsOf_const {α : Type} (b : Bool) (l : List α) : blsOf (l.map fun _ => D.bl b) = some (l.map fun _ => b) := by
  induction l with
  | nil => rfl
  | cons a l ih => show (blsOf (l.map fun _ => D.bl b)).map (b :: ·) = _; rw [ih]; rfl
theorem like1 {at_ : Str → Str → Bool} (n : Nat) : ∀ args R, F_like (n + 1) args R → runF [] 2 5 (wSs (mkSem [] [F_like n] [lenD, allD, boolD] [] [] at_) likeB1) args R := by
  rintro args R ⟨d, rfl, hd, hR⟩
  refine ⟨rfl, ?_⟩
  unfold likeB1
  rcases likeOk_cases hd with (rfl | ⟨b, rfl⟩ | ⟨i, rfl⟩ | ⟨z, rfl⟩) | ⟨m, xs, rfl, (rfl | rfl | rfl), hl, hx⟩
  · walk_at "SI"
    walk_at "ST"
    walk_at "ST"
    exact hR _
  · walk_at "SI"
    walk_at "ST"
    walk_at "ST"
    walk_at "ST"
    walk_at "ST"
    walk_at "ST"
    rw [beq_self_eq_true]
    exact hR _
  · walk_at "SI"
    walk_at "ST"
    walk_at "ST"
    walk_at "ST"
    walk_at "ST"
    walk_at "ST"
    rw [beq_self_eq_true]
    exact hR _
  · walk_at "SI"
    walk_at "ST"
    walk_at "ST"
    walk_at "ST"
    walk_at "ST"
    walk_at "ST"
    rw [beq_self_eq_true]
    exact hR _
  · walk_at "SI"
    walk_at "ST"
    rw [beq_self_eq_true, if_pos rfl, zip_self]
    refine ⟨by rw [List.length_map]; exact Nat.le_trans hl (by decide), ?_⟩
    refine lcGo_mapg _ (fun _ => .bl true) _ _ (fun x m => ⟨_, rfl, rfl, fun Q q => ?_⟩) ?_
    · walk_at "SI"
      exact ⟨x, rfl, hx x m, fun o => q _ rfl⟩
    · rw [blsOf_const]
      have e : ((xs.map fun _ => true).all id) = true := List.all_eq_true.mpr fun b hb => by rw [List.mem_map] at hb; obtain ⟨_, _, rfl⟩ := hb; rfl
      simp only [e]
      exact hR _
  · walk_at "SI"
    walk_at "ST"
    rw [beq_self_eq_true, if_pos rfl, zip_self]
    refine ⟨by rw [List.length_map]; exact Nat.le_trans hl (by decide), ?_⟩
    refine lcGo_mapg _ (fun _ => .bl true) _ _ (fun x m => ⟨_, rfl, rfl, fun Q q => ?_⟩) ?_
    · walk_at "SI"
      exact ⟨x, rfl, hx x m, fun o => q _ rfl⟩
    · rw [blsOf_const]
      have e : ((xs.map fun _ => true).all id) = true := List.all_eq_true.mpr fun b hb => by rw [List.mem_map] at hb; obtain ⟨_, _, rfl⟩ := hb; rfl
      simp only [e]
      exact hR _
  · walk_at "SI"
    walk_at "ST"
    rw [beq_self_eq_true, if_pos rfl, zip_self]
    refine ⟨by rw [List.length_map]; exact Nat.le_trans hl (by decide), ?_⟩
    refine lcGo_mapg _ (fun _ => .bl true) _ _ (fun x m => ⟨_, rfl, rfl, fun Q q => ?_⟩) ?_
    · walk_at "SI"
      exact ⟨x, rfl, hx x m, fun o => q _ rfl⟩
    · rw [blsOf_const]
      have e : ((xs.map fun _ => true).all id) = true := List.all_eq_true.mpr fun b hb => by rw [List.mem_map] at hb; obtain ⟨_, _, rfl⟩ := hb; rfl
      simp only [e]
      exact hR _
theorem like_flat {n : Nat} {xs : List D} (h : xs.all flatD = true) (hl : xs.length ≤ 1000000) : likeOk (n + 1) (.lst xs) :=
  .inr (.inl ⟨xs, rfl, hl, fun x m => by
    have := List.all_eq_true.mp h x m
    cases n with
    | zero => exact this
    | succ n => exact .inl this⟩)
end DL

namespace DL
variable [TB]
open PySem PySem.Spec PyProof.Rows
open L2 (V FnOk FunD CX0 SqL)
/-! ### the end of a law -/
theorem law_end {P : Program} {l : PySem.W.OpenLaw} {w : World} {K : PySem.W.Frag} {h : Heap} {mg : Str → Option Value} {fa_ : Addr} {FR : List Str} {fa : List He.Fa} {fn : List He.DefD} {lamD : List (He.Defn × Str)} {EX : PySem.W.Frag → Bool} {k : Nat} {x : Str} {F : FS}
    (KX : K.In h) (c : He.SaysX (fa ++ FR.map He.Fa.free) fn [] (lamD.map (·.1)) EX w h K) (ht : ∀ K, TB.tabs K = lamD.map fun p => (((He.cT K p.1).2, (p.2 ++ (".<locals>." : Str)) ++ ("<lambda>" : Str)) : Addr × Str)) (hE : EX = fun K => (TB.tabs K).all fun p => (TB.tabs K).all fun q => !decide (p.1 = q.1) || decide (p.2 = q.2)) (hP : P = l.prog)
    (facts : (∀ p ∈ TB.tabs K, ∀ q ∈ TB.tabs K, p.1 = q.1 → p.2 = q.2) → ∃ fd : FuncData, (∀ (s : Shared) (v : Value), PySem.BindsTo s fd ⟨[v], []⟩ [(x, v)]) ∧ ∀ base : Heap, K.In base → base.Ns mainGlobals mg → (∀ p ∈ lamD.map (fun p => He.cT K p.1), LamX.TabB base mg p.1 p.2) → FnOk P w K mg base CX0 k fa_ fd [x] (spOf K F))
    (hF : ∀ ns : List Int, ns.length ≤ 63 → ∀ R : Sl → List Sl → Prop, (∀ o, R (.sh (.bl true)) o) → F [.sh (.klst (ns.map .int))] R) : ∃ K : PySem.W.Frag, K.In h ∧ LamX.LawAtS l w K CX0 k 63 x mg fa_ h := by
  have hu : ∀ p ∈ TB.tabs K, ∀ q ∈ TB.tabs K, p.1 = q.1 → p.2 = q.2 := fun p hp q hq e => by
    have m := c.more
    rw [hE] at m
    have m2 := List.all_eq_true.mp (List.all_eq_true.mp m p hp) q hq
    rw [Bool.or_eq_true, Bool.not_eq_true'] at m2
    rcases m2 with m2 | m2
    · exact absurd e (of_decide_eq_false m2)
    · exact of_decide_eq_true m2
  obtain ⟨fd, hb, hf⟩ := facts hu
  subst hP
  have mem : ∀ p ∈ lamD.map (fun p => He.cT K p.1), ∃ q ∈ lamD.map (·.1), p = He.cT K q := fun p hp => by
    obtain ⟨q, hq, rfl⟩ := List.mem_map.mp hp
    exact ⟨q.1, List.mem_map_of_mem hq, rfl⟩
  refine ⟨K, KX, fd, lamD.map (fun p => He.cT K p.1), spOf K F, fun p hp => ?_, fun p hp => ?_, fun p hp => ?_, hb, fun H a ns hl _ hH hS => ?_, hf⟩
  · obtain ⟨q, hq, rfl⟩ := mem p hp
    exact c.empty q hq
  · obtain ⟨q, hq, rfl⟩ := mem p hp
    exact c.out q hq
  · obtain ⟨q, hq, rfl⟩ := mem p hp
    exact PySem.W.codeHd_of_K KX (c.hd q hq)
  · refine law_sp hF hl hS fun p hp => ?_
    rw [ht] at hp
    obtain ⟨q, hq, rfl⟩ := List.mem_map.mp hp
    exact LamX.TabS.nil (hH _ (List.mem_map_of_mem hq))
end DL

namespace DL
variable [TB]
open PySem PySem.Spec PyProof.Rows L2
/-! ### defs with a star, their instances made -/
def isShS : Sl → Bool
  | .sh _ => true
  | _ => false
/-- the arguments behind the k-th are taken into one tuple -/
def starF (k : Nat) (F : FS) : FS := fun args R => ((args.drop k).all isShS = true ∧ k ≤ args.length ∧ (args.drop k).length ≤ sizeLine) ∧
  F (args.take k ++ [.sh (.tup ((args.drop k).map frz))]) fun r out => R r (out.take k ++ List.replicate (args.length - k) .no)
section
variable {K : PySem.W.Frag}
theorem reps_sh {G : Hp} : ∀ (as : List Sl) (vs : List V), as.length = vs.length → as.all isShS = true → (∀ (i : Nat) d, as[i]? = some (.sh d) → ∃ v, vs[i]? = some v ∧ Rep K G d v) → Reps K G (as.map frz) vs
  | [], [], _, _, _ => rfl
  | [], _ :: _, h, _, _ => by cases h
  | _ :: _, [], h, _, _ => by cases h
  | a :: as, v :: vs, h, hs, r => by
    rw [List.all_cons, Bool.and_eq_true] at hs
    cases a with
    | sh d =>
      obtain ⟨v', e, q⟩ := r 0 d rfl
      cases e
      exact ⟨v, vs, rfl, q, reps_sh as vs (Nat.succ.inj h) hs.2 fun i d e => r (i + 1) d e⟩
    | no => cases hs.1
    | ow d => cases hs.1
theorem StRep.takeN {B G H : Hp} {s : DSt} {vs : List V} (S : StRep K B G s (vs.map some) H) (k : Nat) : StRep K B G (s.take k) ((vs.take k).map some) H := by
  have get : ∀ {i : Nat} {x : Sl}, (s.take k)[i]? = some x → i < k ∧ s[i]? = some x := fun {i x} e => by
    rw [List.getElem?_take] at e
    split at e
    · exact ⟨by assumption, e⟩
    · cases e
  have up : ∀ {i : Nat} {y : Option V}, i < k → (vs.map some)[i]? = some y → ((vs.take k).map some)[i]? = some y := fun {i y} hi e => by
    rw [List.map_take, List.getElem?_take, if_pos hi]
    exact e
  have dn : ∀ {i : Nat} {y : Option V}, ((vs.take k).map some)[i]? = some y → (vs.map some)[i]? = some y := fun {i y} e => by
    rw [List.map_take, List.getElem?_take] at e
    split at e
    · exact e
    · cases e
  refine ⟨S.bH, S.gH, S.dj, S.tb, ?_, fun i d e => ?_, fun i d e => ?_, fun i j d e a h1 h2 h3 h4 => S.ap i j d e a (get h1).2 (get h2).2 (dn h3) (dn h4)⟩
  · have := S.len
    rw [List.length_map] at this
    rw [List.length_take, List.length_map, List.length_take, this]
  · obtain ⟨hi, e2⟩ := get e
    obtain ⟨v, h1, h2⟩ := S.sh i d e2
    exact ⟨v, up hi h1, h2⟩
  · obtain ⟨hi, e2⟩ := get e
    obtain ⟨a, o, h1, h2⟩ := S.ow i d e2
    exact ⟨a, o, up hi h1, h2⟩
theorem StRep.snoc {B G H : Hp} {s : DSt} {σ : L2.St} {d : D} {v : V} (S : StRep K B G s σ H) (r : Rep K G d v) : StRep K B G (s ++ [.sh d]) (σ ++ [some v]) H := by
  have get : ∀ {i : Nat} {x : Sl}, (s ++ [.sh d])[i]? = some x → s[i]? = some x ∨ (i = s.length ∧ x = .sh d) := fun {i x} e => by
    rcases Nat.lt_or_ge i s.length with h | h
    · rw [List.getElem?_append_left h] at e; exact .inl e
    · rw [List.getElem?_append_right h] at e
      cases hi : i - s.length with
      | zero => rw [hi] at e; cases e; exact .inr ⟨by omega, rfl⟩
      | succ n => rw [hi] at e; cases e
  have up : ∀ {i : Nat} {y : Option V}, σ[i]? = some y → (σ ++ [some v])[i]? = some y := fun {i y} e => by
    rw [List.getElem?_append_left (getElem?_lt e)]; exact e
  have ow : ∀ {i : Nat} {e : D}, (s ++ [.sh d])[i]? = some (.ow e) → s[i]? = some (.ow e) ∧ i < σ.length := fun {i e} h => by
    rcases get h with h | ⟨_, h⟩
    · exact ⟨h, by rw [← S.len]; exact getElem?_lt h⟩
    · cases h
  refine ⟨S.bH, S.gH, S.dj, S.tb, by rw [List.length_append, List.length_append, S.len]; rfl, fun i x e => ?_, fun i x e => ?_, fun i j x e a h1 h2 h3 h4 => ?_⟩
  · rcases get e with e | ⟨hi, e⟩
    · obtain ⟨u, h1, h2⟩ := S.sh i x e
      exact ⟨u, up h1, h2⟩
    · injection e with e
      subst e
      refine ⟨v, ?_, r⟩
      rw [hi, S.len, List.getElem?_append_right (Nat.le_refl _), Nat.sub_self]
      rfl
  · obtain ⟨e, _⟩ := ow e
    obtain ⟨a, o, h1, h2⟩ := S.ow i x e
    exact ⟨a, o, up h1, h2⟩
  · obtain ⟨h1, l1⟩ := ow h1
    obtain ⟨h2, l2⟩ := ow h2
    rw [List.getElem?_append_left l1] at h3
    rw [List.getElem?_append_left l2] at h4
    exact S.ap i j x e a h1 h2 h3 h4
/-- slots with nothing in them are put behind -/
theorem pad_get {s : DSt} {m i : Nat} {x : Sl} (e : (s ++ List.replicate m .no)[i]? = some x) (n : x ≠ .no) : s[i]? = some x := by
  rcases Nat.lt_or_ge i s.length with h | h
  · rw [List.getElem?_append_left h] at e; exact e
  · rw [List.getElem?_append_right h] at e
    rw [List.getElem?_replicate] at e
    split at e
    · cases e; exact absurd rfl n
    · cases e
theorem StRep.pad {B G H : Hp} {s : DSt} {σ : L2.St} (S : StRep K B G s σ H) (τ : L2.St) : StRep K B G (s ++ List.replicate τ.length .no) (σ ++ τ) H := by
  have up : ∀ {i : Nat} {y : Option V}, σ[i]? = some y → (σ ++ τ)[i]? = some y := fun {i y} e => by
    rw [List.getElem?_append_left (getElem?_lt e)]; exact e
  refine ⟨S.bH, S.gH, S.dj, S.tb, by rw [List.length_append, List.length_append, S.len, List.length_replicate], fun i d e => ?_, fun i d e => ?_, fun i j d e a h1 h2 h3 h4 => ?_⟩
  · obtain ⟨v, h1, h2⟩ := S.sh i d (pad_get e (by intro z; cases z))
    exact ⟨v, up h1, h2⟩
  · obtain ⟨a, o, h1, h2⟩ := S.ow i d (pad_get e (by intro z; cases z))
    exact ⟨a, o, up h1, h2⟩
  · have h1 := pad_get h1 (by intro z; cases z)
    have h2 := pad_get h2 (by intro z; cases z)
    rw [List.getElem?_append_left (by rw [← S.len]; exact getElem?_lt h1)] at h3
    rw [List.getElem?_append_left (by rw [← S.len]; exact getElem?_lt h2)] at h4
    exact S.ap i j d e a h1 h2 h3 h4
theorem star_sp {k : Nat} {F : FS} {vs : List V} {H : Hp} {Q : VK} {E : XK} (h : spOf K (starF k F) vs H Q E) : ∃ ws rest, vs = ws ++ rest ∧ ws.length = k ∧ rest.length ≤ sizeLine ∧ ∀ p, H p = none → spOf K F (ws ++ [V.ref p]) (upd H p (.tup rest)) Q E := by
  obtain ⟨B, G, args, R, S, ⟨⟨a1, a2, a3⟩, a4⟩, kk⟩ := h
  have ln : args.length = vs.length := by have := S.len; rwa [List.length_map] at this
  refine ⟨vs.take k, vs.drop k, (List.take_append_drop k vs).symm, by rw [List.length_take]; omega, by rw [List.length_drop, ← ln, ← List.length_drop]; exact a3, fun p hp => ?_⟩
  have g : Gr G H (upd G p (.tup (vs.drop k))) (upd H p (.tup (vs.drop k))) := Gr.laidG S.gH hp
  have rp : Reps K G ((args.drop k).map frz) (vs.drop k) := reps_sh _ _ (by rw [List.length_drop, List.length_drop, ln]) a1 fun i d e => by
    rw [List.getElem?_drop] at e
    obtain ⟨v, h1, h2⟩ := S.sh (k + i) d e
    rw [List.getElem?_map] at h1
    cases q : vs[k + i]? with
    | none => rw [q] at h1; cases h1
    | some u => rw [q] at h1; cases h1; exact ⟨_, by rw [List.getElem?_drop]; exact q, h2⟩
  have S1 := ((S.takeN k).grow g).snoc (d := .tup ((args.drop k).map frz)) (v := .ref p) ⟨p, vs.drop k, rfl, .of upd_same, Reps.mono g.g _ _ rp⟩
  refine ⟨B, _, _, _, by rw [List.map_append]; exact S1, a4, fun r out G2 H2 v S2 sm rr q => ?_⟩
  have T := (S2.takeN k).pad ((vs.drop k).map some)
  have e1 : ((vs.take k ++ [V.ref p]).take k) = vs.take k := by
    rw [List.take_append_of_le_length (by rw [List.length_take]; omega), List.take_take, Nat.min_self]
  rw [e1, ← List.map_append, List.take_append_drop, List.length_map, List.length_drop, ← ln] at T
  refine kk r _ G2 H2 v T (g.g.trans sm) ?_ q
  cases r with
  | no => exact rr
  | sh d => exact rr
  | ow d =>
    obtain ⟨p', o, z1, z2, z3, z4, z5, z6, z7⟩ := rr
    refine ⟨p', o, z1, z2, z3, z4, z5, z6, fun i e hi he => ?_⟩
    have hi := pad_get hi (by intro z; cases z)
    rw [List.getElem?_take] at hi
    split at hi
    · rename_i hk
      refine z7 i e hi ?_
      rw [List.getElem?_map, List.getElem?_append_left (by rw [List.length_take]; omega), List.getElem?_take, if_pos hk]
      rw [List.getElem?_map] at he
      exact he
    · cases hi
theorem bind_star1 {x qual : Str} {a pv : Arg} {body : List Stmt} {scope : Scope} {kV doc pm cdv ct : Value} {an : Option Addr} (us rest : List Value) (h : us.length = 1) :
    bindArgs (PySem.W.fnOf x qual ⟨[], [a], some pv, [], [], none, []⟩ body scope .none kV doc pm an cdv ct) ⟨us ++ rest, []⟩ = (newTuple rest >>= fun t => pure (([a.arg] : List Str).zip us ++ [(pv.arg, t)])) := by
  match us, h with
  | [u], _ =>
  unfold bindArgs
  simp [PySem.W.fnOf, seqItems?, notAStandIn]
/-- a def of one parameter and a star -/
theorem fn_okS {P : Program} {w : World} {mg : Str → Option Value} {base : Heap} {x qual : Str} {params : Arguments} {body : List Stmt} {scope : Scope} {kws : List (Str × V)} {f : Addr} {fd : FuncData} {C : CC} {M : Sem} {p1 pv : Arg} {b : List S} {F : FS}
    (hp : params = ⟨[], [p1], some pv, [], [], none, []⟩) (Fd : FunD K x qual params body scope [] kws f fd) (d : DefC C [p1.arg, pv.arg] params body scope b) (T : Tab P w K mg base C M) (hl : C.lam = false) (hk : M.kp = C.kp) (hF : ∀ args R, F args R → runF C.kp 2 C.N.length (wSs M b) args R) :
    FnR P w K mg base CX0 (C.lv + 1) f (fun vs H Q E => ∃ ws rest, vs = ws ++ rest ∧ ws.length = 1 ∧ rest.length ≤ sizeLine ∧ ∀ p, H p = none → spOf K F (ws ++ [V.ref p]) (upd H p (.tup rest)) Q E) := by
  have hlen : ∀ (vs : List V) (H : Hp) (Q : VK) (E : XK), spOf K F vs H Q E → vs.length = 2 := fun vs H Q E ⟨B, G, args, R, S, h, _⟩ => by
    have l := S.len
    rw [List.length_map] at l
    rw [← l]
    exact (hF args R h).1
  obtain ⟨oc, od, dV, kV, doc, pm, an, cdv, ct, osl, rfl, lk, hcd, hd, _⟩ := Fd.ex
  have hdV : dV = .none := by
    rcases hd with ⟨_, h⟩ | ⟨h, _⟩
    · exact h
    · exact absurd rfl h
  subst hdV
  subst hp
  refine StX.fn_star (ps := [p1.arg]) (pv := pv.arg) lk hcd d.sc (fun outer s H _ _ E e s' un kp q => ?_) (fun us rest h => bind_star1 us rest h) fun A outer s H vs Q E hr h => ⟨liftS K C.kp (wSs M b), PSs.nox ?_, ?t⟩
  case t =>
    have hl := hlen vs H Q E h
    obtain ⟨B, G, args, R, S, h1, k⟩ := h
    have h2 := (hF args R h1).2
    refine ⟨B, G, entry C.N.length args, _, pnOf C.kp vs, S.start (by rw [hl]; exact d.start), fun q hq => (pnOf_mem hq).1, fun q hq => ?_, h2, ?_⟩
    · obtain ⟨a1, a2⟩ := pnOf_mem hq
      refine start_get ?_
      rw [List.getElem?_map, a2]
      rfl
    · exact {
        nx := fun s' G' σ' H' S' e p q => by
          rw [← hl] at q
          exact k (.sh .non) _ G' H' .non (S'.outs p) e rfl q
        bk := fun s' G' σ' H' S' e p q => q.elim
        ct := fun s' G' σ' H' S' e p q => q.elim
        rt := fun r s' G' σ' H' v S' e p rr q => by
          rw [← hl] at q
          exact k r _ G' H' v (S'.outs p) e (rr.outs S' p) q }
  · exact fun z => z
  · rw [← d.b]
    refine pss_map (C := C) (fun st => soundS 60 C M _ ?_ st) body
    exact {
      sc := d.e.symm
      N := rfl
      nd := d.sc.nd
      calm := rfl
      xe := rfl
      room := hr
      fn := fun y hy => .inl rfl
      tab := T
      kp := hk
      fk := by rw [d.e]; exact d.sc.kind
      lam := fun h => by rw [hl] at h; cases h }
/-- a call that makes an instance, its parameters in a star -/
theorem callJ_mkS {P : Program} {w : World} {mg : Str → Option Value} {base : Heap} {lv k : Nat} {x : Str} {f : Addr} {cls : Str} {Fs : FS} (M : Mk K (He.ga K cls) f)
    (F : FnR P w K mg base CX0 k f (fun vs H Q E => ∃ ws rest, vs = ws ++ rest ∧ ws.length = 1 ∧ rest.length ≤ sizeLine ∧ ∀ p, H p = none → spOf K Fs (ws ++ [V.ref p]) (upd H p (.tup rest)) Q E)) (hk : k + 1 ≤ lv) (hm : mg x = some (.ref (He.ga K cls))) (n : Nat) (hn0 : 0 < n) : CallJ P w K mg base lv x n [] (mkF cls (starF 1 Fs)) := by
  intro X e1 e2 e3 e4 e5 hc hr hg hn es kws p pos w1 w2 hl hks hns h0 h0' ha hk2
  subst e1; subst e2; subst e3; subst e4; subst e5
  have hkw := kw_nil hks
  subst hkw
  rw [h0' rfl]
  have rm : Room (k + 1) X.A := ⟨hr.hd, by have := hr.dp; omega, by have := hr.un; omega⟩
  cases es with
  | nil => rw [← hl] at hn0; cases hn0
  | cons e es =>
    have hns' := hns
    rw [List.all_cons, Bool.and_eq_true] at hns'
    refine pe_mono (StX.pe_makeR M F rm hg hm pass0 ha (okName_ok hn).1 (starEach_cons hns'.1) (any_nil hns'.2)) fun σ H Q l => ?_
    refine liftAv_mono (lift_call2 l) fun vs H1 q => ?_
    have q1 := lift_avNil q.2
    have q2 : spOf X.K (mkF cls (starF 1 Fs)) (vs ++ []) H1 Q E0 := q1
    rw [List.append_nil] at q2
    intro p dx hp hdx hne
    exact star_sp (sp_make q2 p dx hp hdx hne)
end
end DL

namespace K06
open PySem DL
open L2 (V FnOk FunD CX0 defArgs defBody defScope SqL FnScope KBn)
local macro_rules | `(tactic| walk_at "SI") => `(tactic| simp only [wAls, wAug, wTMeth, tmD, wLcv, wSrs, wSrk, wSrl, wLc2, wTs, wCaps, wLMeth, lmD, wEnm, revD, rg1D, rg2D, wCMeth, wStf, putD, fldD, attrD, mkF, dflF, kwF, shs, pickG, pickO, consO, Option.map_some, List.take_nil, wMeth, methD, joinD, strsOf_map, wSs_cons, wSs_nil, Later_nil, wS, wE, wT, wI, wX, wVl, wOl, wAv, mk3, mkT, mkI, opd, wIf, wOr, DL.wAnd, DL.wNot, wBool, wTru, wUn, wOp, wFn, wCons, wNil, wVCons, wVNil, wAvNil, wAvVal, wAvBor, wCall2, wC, wVar, wAndV, wOrV, wNotV, wIte, wLst, wTup, wDct, wChn, wSlc, partE, varOp, asOp, entry, content, resO, resOs, frz, wRet, wRetV, wRetN, wNext, wDrop, wSet, wUnp, wPar, wSti, wBrk, wCnt, wMut, muD_append, muD_insert, muD_pop0, muD_pop1, mAppend, mInsert, mPop, mPopAt, wSeq', wFor, wWhile, wLc, wRng1, wRng2, wZip, itemsD, nth, bindTg, bindTgs, noOw, wipeS, restore, wback_val, wback_nil, wback_bor, List.nodup_nil, List.nodup_cons, List.not_mem_nil, bors, resA, pairD, keyD, le_size, List.replicate_succ, List.replicate_zero, List.length_cons, List.length_nil, List.cons_append, List.nil_append, List.getElem?_cons_zero, List.getElem?_cons_succ, List.getElem?_nil, List.set_cons_zero, List.set_cons_succ, Option.isSome_some, List.map_cons, List.map_nil, List.all_cons, List.all_nil, List.any_cons, List.any_nil, Nat.reduceSub, Nat.reduceAdd, Nat.reduceLT, Nat.reduceLeDiff, reduceIte, reduceCtorEq, Bool.not_true, Bool.not_false, Bool.false_eq_true, and_true, true_and, List.drop_zero, List.drop_succ_cons, List.take_succ_cons, List.take_zero, maxD2, minD2, lenD, intD, boolD, strD, listD, tupleD, allD, anyD, blsD, cmpB, cmpD, binD, addD, subD, mulD, fdivD, modD, powD, negD, idxD, slcD, truD, ltD, gtD, leD, geD, eqD_int, eqD_bl, eqD_str, eqD_non, L2.atI, ixN_lit, Int.reduceToNat, Option.bind_some, List.length_map, List.set_cons_zero, List.set_cons_succ, isNon, inD_ss, inStr_one, isiD, seqOf, lstOf, String.reduceNe, String.reduceEq, ne_eq, not_false_eq_true, not_true_eq_false, Bool.or_true, Bool.or_false, Bool.true_or, Bool.false_or, Bool.and_true, Bool.and_false, Bool.true_and, Bool.false_and, isT_NoneType_bool, isT_NoneType_int, isT_NoneType_str, isT_NoneType_list, isT_NoneType_tuple, isT_NoneType_dict, isT_bool_bool, isT_bool_int, isT_bool_str, isT_bool_list, isT_bool_tuple, isT_bool_dict, isT_int_bool, isT_int_int, isT_int_str, isT_int_list, isT_int_tuple, isT_int_dict, isT_str_bool, isT_str_int, isT_str_str, isT_str_list, isT_str_tuple, isT_str_dict, isT_list_bool, isT_list_int, isT_list_str, isT_list_list, isT_list_tuple, isT_list_dict, isT_tuple_bool, isT_tuple_int, isT_tuple_str, isT_tuple_list, isT_tuple_tuple, isT_tuple_dict, isT_dict_bool, isT_dict_int, isT_dict_str, isT_dict_list, isT_dict_tuple, isT_dict_dict, tyN_non, tyN_bl, tyN_int, tyN_str, tyN_lst, tyN_tup, tyN_ftup, tyN_klst, tyN_dic])
local macro_rules | `(tactic| walk_at "ST") => `(tactic| (refine later ?_; simp only [wAls, wAug, wTMeth, tmD, wLcv, wSrs, wSrk, wSrl, wLc2, wTs, wCaps, wLMeth, lmD, wEnm, revD, rg1D, rg2D, wCMeth, wStf, putD, fldD, attrD, mkF, dflF, kwF, shs, pickG, pickO, consO, Option.map_some, List.take_nil, wMeth, methD, joinD, strsOf_map, wSs_cons, wSs_nil, Later_nil, wS, wE, wT, wI, wX, wVl, wOl, wAv, mk3, mkT, mkI, opd, wIf, wOr, DL.wAnd, DL.wNot, wBool, wTru, wUn, wOp, wFn, wCons, wNil, wVCons, wVNil, wAvNil, wAvVal, wAvBor, wCall2, wC, wVar, wAndV, wOrV, wNotV, wIte, wLst, wTup, wDct, wChn, wSlc, partE, varOp, asOp, entry, content, resO, resOs, frz, wRet, wRetV, wRetN, wNext, wDrop, wSet, wUnp, wPar, wSti, wBrk, wCnt, wMut, muD_append, muD_insert, muD_pop0, muD_pop1, mAppend, mInsert, mPop, mPopAt, wSeq', wFor, wWhile, wLc, wRng1, wRng2, wZip, itemsD, nth, bindTg, bindTgs, noOw, wipeS, restore, wback_val, wback_nil, wback_bor, List.nodup_nil, List.nodup_cons, List.not_mem_nil, bors, resA, pairD, keyD, le_size, List.replicate_succ, List.replicate_zero, List.length_cons, List.length_nil, List.cons_append, List.nil_append, List.getElem?_cons_zero, List.getElem?_cons_succ, List.getElem?_nil, List.set_cons_zero, List.set_cons_succ, Option.isSome_some, List.map_cons, List.map_nil, List.all_cons, List.all_nil, List.any_cons, List.any_nil, Nat.reduceSub, Nat.reduceAdd, Nat.reduceLT, Nat.reduceLeDiff, reduceIte, reduceCtorEq, Bool.not_true, Bool.not_false, Bool.false_eq_true, and_true, true_and, List.drop_zero, List.drop_succ_cons, List.take_succ_cons, List.take_zero, maxD2, minD2, lenD, intD, boolD, strD, listD, tupleD, allD, anyD, blsD, cmpB, cmpD, binD, addD, subD, mulD, fdivD, modD, powD, negD, idxD, slcD, truD, ltD, gtD, leD, geD, eqD_int, eqD_bl, eqD_str, eqD_non, L2.atI, ixN_lit, Int.reduceToNat, Option.bind_some, List.length_map, List.set_cons_zero, List.set_cons_succ, isNon, inD_ss, inStr_one, isiD, seqOf, lstOf, String.reduceNe, String.reduceEq, ne_eq, not_false_eq_true, not_true_eq_false, Bool.or_true, Bool.or_false, Bool.true_or, Bool.false_or, Bool.and_true, Bool.and_false, Bool.true_and, Bool.false_and, isT_NoneType_bool, isT_NoneType_int, isT_NoneType_str, isT_NoneType_list, isT_NoneType_tuple, isT_NoneType_dict, isT_bool_bool, isT_bool_int, isT_bool_str, isT_bool_list, isT_bool_tuple, isT_bool_dict, isT_int_bool, isT_int_int, isT_int_str, isT_int_list, isT_int_tuple, isT_int_dict, isT_str_bool, isT_str_int, isT_str_str, isT_str_list, isT_str_tuple, isT_str_dict, isT_list_bool, isT_list_int, isT_list_str, isT_list_list, isT_list_tuple, isT_list_dict, isT_tuple_bool, isT_tuple_int, isT_tuple_str, isT_tuple_list, isT_tuple_tuple, isT_tuple_dict, isT_dict_bool, isT_dict_int, isT_dict_str, isT_dict_list, isT_dict_tuple, isT_dict_dict, tyN_non, tyN_bl, tyN_int, tyN_str, tyN_lst, tyN_tup, tyN_ftup, tyN_klst, tyN_dic]))
def top (i : Nat) : Stmt := PySem.Challenge.pw_feeblind_k06_thinned_rows_of_trade_and_o.main.body.getD i (.Pass ⟨0, 0, 0, 0⟩)
def mem (i j : Nat) : Stmt := match top i with
  | .ClassDef (body := b) .. => b.getD j (.Pass ⟨0, 0, 0, 0⟩)
  | _ => .Pass ⟨0, 0, 0, 0⟩
def dm (c m q : Str) (i j : Nat) (dfl : List He.Dv) : He.DefD := ⟨(c, some m), m, q, defArgs (mem i j), defBody (mem i j), defScope (mem i j), dfl, []⟩
def dd (x : Str) (i : Nat) (dfl : List He.Dv) : He.DefD := ⟨(x, none), x, x, defArgs (top i), defBody (top i), defScope (top i), dfl, []⟩
def FR : List Str := ["all", "any", "bool", "dict", "enumerate", "int", "isinstance", "len", "list", "range", "set", "sorted", "str", "tuple", "zip"]
def fa : List He.Fa := [.glo "is_name", .glo "_at_most", .glo "thin_rows", .glo "_within", .glo "_covers_in_order", .glo "covers", .glo "_by_price_and_size", .glo "thin_open", .glo "_law_bag", .glo "_law_draw", .glo "_law_of", .glo "_law_turned", .glo "_law_like", .glo "_law_thin", .glo "_law_over", .glo "_law_open", .glo "_law_some_rows", .glo "_law_lot", .glo "_law_some_lots", .glo "_law_thin_so", .glo "_law_covers_so", .glo "law", .int "LONGEST" 8, .str "LETTERS" "abcdefghijklmnopqrstuvwxyz", .glo "Open", .cls "Open", .mkr "Open", .glo "Trade", .cls "Trade", .mkr "Trade", .meth "Trade" "best", .meth "Open" "best", .noat "Open" "wish", .noat "Open" "stay", .noat "Trade" "_wishes", .noat "Trade" "stay"]
def fn : List He.DefD := [dd "is_name" 8 [], dd "_at_most" 13 [], dd "thin_rows" 14 [], dd "_within" 15 [], dd "_covers_in_order" 16 [], dd "covers" 17 [], dd "_by_price_and_size" 18 [], dd "thin_open" 19 [], dm "Trade" "__init__" "Trade.__init__" 21 0 [], dm "Trade" "best" "Trade.best" 21 2 [], dm "Open" "__init__" "Open.__init__" 22 0 [], dm "Open" "best" "Open.best" 22 1 [], dd "_law_bag" 24 [], dd "_law_draw" 25 [], dd "_law_of" 26 [], dd "_law_turned" 27 [], dd "_law_like" 28 [], dd "_law_thin" 29 [], dd "_law_over" 30 [], dd "_law_open" 31 [], dd "_law_some_rows" 32 [], dd "_law_lot" 33 [], dd "_law_some_lots" 34 [], dd "_law_thin_so" 35 [], dd "_law_covers_so" 36 [], dd "law" 37 []]
def lamD : List (He.Defn × Str) := []
instance tbI : TB := ⟨fun K => lamD.map fun p => ((He.cT K p.1).2, (p.2 ++ ".<locals>.") ++ "<lambda>")⟩
def CS (K : PySem.W.Frag) : List (Addr × Addr) := lamD.map fun p => He.cT K p.1
theorem lam_in {K : PySem.W.Frag} {p : He.Defn} {q : Str} (i : Nat) (h : lamD[i]? = some (p, q)) : He.cT K p ∈ CS K := List.mem_map.mpr ⟨(p, q), List.mem_of_getElem? h, rfl⟩
theorem lam_tb {K : PySem.W.Frag} {p : He.Defn} {q : Str} (i : Nat) (h : lamD[i]? = some (p, q)) : ((He.cT K p).2, (q ++ ".<locals>.") ++ "<lambda>") ∈ TB.tabs K := List.mem_map.mpr ⟨(p, q), List.mem_of_getElem? h, rfl⟩
abbrev VE (K : PySem.W.Frag) (mg : Str → Option Value) (base : Heap) : Prop := LawV FR fa fn CS K mg base
def AT : List (Str × Str) := [("Open", "wish"), ("Open", "stay"), ("Trade", "_wishes"), ("Trade", "stay")]
theorem at_ok {K : PySem.W.Frag} {mg : Str → Option Value} {base : Heap} (V : VE K mg base) : AttrOk K (atOf AT) := fun C f h => by
  have h : (C, f) ∈ AT := of_decide_eq_true h
  simp only [AT, List.mem_cons, List.not_mem_nil, or_false, Prod.mk.injEq] at h
  rcases h with ⟨rfl, rfl⟩ | ⟨rfl, rfl⟩ | ⟨rfl, rfl⟩ | ⟨rfl, rfl⟩
  · exact ⟨V.cls 25 rfl, V.noat 32 rfl⟩
  · exact ⟨V.cls 25 rfl, V.noat 33 rfl⟩
  · exact ⟨V.cls 28 rfl, V.noat 34 rfl⟩
  · exact ⟨V.cls 28 rfl, V.noat 35 rfl⟩
abbrev F__law_bag := F_bag
abbrev F__law_draw := F_draw
/-- of, its second argument given back as it was -/
def F__law_of : FS := fun args R => ∃ (d : D) (x : Sl) (t : D) (xs : List D), args = [.ow d, x] ∧ (x = .sh t ∨ x = .ow t) ∧ BagOk d ∧ itemsD t = some xs ∧ 0 < xs.length ∧ xs.length ≤ 1000000 ∧ ∀ y d', y ∈ xs → BagOk d' → R (.sh y) [.ow d', x]
abbrev F__law_like := F_like
def C__law_bag (lv : Nat) : CC := { N := ["_law_script", "_law_stir", "_law_lump"], sc := defScope (top 24), lv := lv, kp := [], brw := [], ali := [], calls := [], bis := [("int", 1), ("list", 1)], cons := [], meths := [], keys := [], lam := false, fr := FR }
def b__law_bag : List S := [(.set 1 (.int 13961)), (.for (.nm 2) (.slc (.var 0) .bad (.int 63)) [(.set 1 (.bin .Mod (.bi 0 [(.bin .Add (.bin .Add (.bin .Mult (.var 1) (.int 48271)) (.bin .Mult (.bin .Mod (.bi 0 [(.var 2)]) (.int 2147483563)) (.int 40014))) (.int 761))]) (.int 2147483629)))]), (.ret (.lst [(.bi 1 [(.slc (.var 0) .bad (.int 63))]), (.int 0), (.int 0), (.var 1), (.int 0)]))]
theorem sc__law_bag : FnScope ["_law_script", "_law_stir", "_law_lump"] ["_law_script"] (defScope (top 24)) := ⟨rfl, rfl, rfl, by decide +kernel, rfl, by decide +kernel, by decide +kernel⟩
theorem d__law_bag (lv : Nat) : DefC (C__law_bag lv) ["_law_script"] (defArgs (top 24)) (defBody (top 24)) (defScope (top 24)) b__law_bag := ⟨sc__law_bag, rfl, rfl, (show ∀ i ∈ ([] : List Nat), i < 1 by decide), by kernel_rfl⟩
abbrev M__law_bag : Sem := mkSem [] [] [intD, listD] [] [] (atOf AT)
theorem p__law_bag : ∀ args R, F__law_bag args R → runF [] 1 3 (wSs M__law_bag b__law_bag) args R := bag1
theorem ok__law_bag {P : Program} {w : World} {K : PySem.W.Frag} {mg : Str → Option Value} {base : Heap} (V : VE K mg base) : ∃ fd, FunD K "_law_bag" "_law_bag" (defArgs (top 24)) (defBody (top 24)) (defScope (top 24)) [] [] (He.ga K "_law_bag") fd ∧ FnOk P w K mg base CX0 1 (He.ga K "_law_bag") fd ["_law_script"] (spOf K F__law_bag) := by
  obtain ⟨fd, Fd⟩ := V.def_ 12 (d := dd "_law_bag" 24 []) rfl
  exact ⟨fd, Fd, fn_ok Fd (d__law_bag 0) (mkTab .nil (.cons rfl (.cons rfl .nil)) (show ([("int", 1), ("list", 1)] : List (Str × Nat)).all (fun c => decide (c.1 ∈ FR)) = true by decide +kernel) .nil .nil (at_ok V) V.free rfl) (fun h => by cases h) rfl p__law_bag⟩
theorem cj__law_bag_1 {P : Program} {w : World} {K : PySem.W.Frag} {mg : Str → Option Value} {base : Heap} {lv : Nat} (V : VE K mg base) (h : 1 ≤ lv) : CallJ P w K mg base lv "_law_bag" 1 [] F__law_bag := by
  obtain ⟨fd, Fd, F⟩ := ok__law_bag (P := P) (w := w) (base := base) V
  exact callJ F h (V.glo 8 rfl) Fd.kp (FunD.bindsN Fd (fun _ _ _ _ _ _ us hl => match us, hl with | [_], _ => rfl)) 1
def C__law_draw (lv : Nat) : CC := { N := ["_law_bag_here", "_law_sides", "_law_lump", "_law_digit"], sc := defScope (top 25), lv := lv, kp := [0], brw := [0], ali := [], calls := [], bis := [("len", 1), ("int", 1)], cons := [], meths := [], keys := [], lam := false, fr := FR }
def b__law_draw : List S := [(.sti 0 (.int 4) (.bin .Add (.idx (.var 0) (.int 4)) (.int 1))), (.ifs (.and (.cmp .Eq (.idx (.var 0) (.int 2)) (.int 0)) (.cmp .Lt (.idx (.var 0) (.int 1)) (.bi 0 [(.idx (.var 0) (.int 0))]))) [(.set 2 (.bi 1 [(.idx (.idx (.var 0) (.int 0)) (.idx (.var 0) (.int 1)))])), (.sti 0 (.int 1) (.bin .Add (.idx (.var 0) (.int 1)) (.int 1))), (.ifs (.cmp .GtE (.var 2) (.bin .Pow (.int 10) (.int 18))) [(.sti 0 (.int 2) (.var 2))] [(.sti 0 (.int 3) (.bin .Mod (.bi 1 [(.bin .Add (.bin .Add (.bin .Mult (.idx (.var 0) (.int 3)) (.int 69621)) (.bin .Mult (.bin .Mod (.var 2) (.int 2147483549)) (.int 271))) (.int 97))]) (.int 2147483579)))])] []), (.ifs (.cmp .Gt (.idx (.var 0) (.int 2)) (.int 0)) [(.set 3 (.bin .Mod (.bi 1 [(.idx (.var 0) (.int 2))]) (.var 1))), (.sti 0 (.int 2) (.bin .FloorDiv (.idx (.var 0) (.int 2)) (.var 1))), (.retv 3)] []), (.sti 0 (.int 3) (.bin .Mod (.bi 1 [(.bin .Add (.bin .Add (.bin .Pow (.idx (.var 0) (.int 3)) (.int 3)) (.bin .Mult (.idx (.var 0) (.int 4)) (.int 1299709))) (.int 60013))]) (.int 2147483579))), (.ret (.bin .Mod (.bi 1 [(.bin .Add (.bin .FloorDiv (.idx (.var 0) (.int 3)) (.int 97)) (.bin .Mult (.bin .Mod (.bi 1 [(.idx (.var 0) (.int 3))]) (.int 7907)) (.int 268435459)))]) (.var 1)))]
theorem sc__law_draw : FnScope ["_law_bag_here", "_law_sides", "_law_lump", "_law_digit"] ["_law_bag_here", "_law_sides"] (defScope (top 25)) := ⟨rfl, rfl, rfl, by decide +kernel, rfl, by decide +kernel, by decide +kernel⟩
theorem d__law_draw (lv : Nat) : DefC (C__law_draw lv) ["_law_bag_here", "_law_sides"] (defArgs (top 25)) (defBody (top 25)) (defScope (top 25)) b__law_draw := ⟨sc__law_draw, rfl, rfl, (show ∀ i ∈ ([0] : List Nat), i < 2 by decide), by kernel_rfl⟩
abbrev M__law_draw : Sem := mkSem [0] [] [lenD, intD] [] [] (atOf AT)
theorem p__law_draw : ∀ args R, F__law_draw args R → runF [0] 2 4 (wSs M__law_draw b__law_draw) args R := draw1
theorem ok__law_draw {P : Program} {w : World} {K : PySem.W.Frag} {mg : Str → Option Value} {base : Heap} (V : VE K mg base) : ∃ fd, FunD K "_law_draw" "_law_draw" (defArgs (top 25)) (defBody (top 25)) (defScope (top 25)) [] [] (He.ga K "_law_draw") fd ∧ FnOk P w K mg base CX0 1 (He.ga K "_law_draw") fd ["_law_bag_here", "_law_sides"] (spOf K F__law_draw) := by
  obtain ⟨fd, Fd⟩ := V.def_ 13 (d := dd "_law_draw" 25 []) rfl
  exact ⟨fd, Fd, fn_ok Fd (d__law_draw 0) (mkTab .nil (.cons rfl (.cons rfl .nil)) (show ([("len", 1), ("int", 1)] : List (Str × Nat)).all (fun c => decide (c.1 ∈ FR)) = true by decide +kernel) .nil .nil (at_ok V) V.free rfl) (fun h => by cases h) rfl p__law_draw⟩
theorem cj__law_draw_2 {P : Program} {w : World} {K : PySem.W.Frag} {mg : Str → Option Value} {base : Heap} {lv : Nat} (V : VE K mg base) (h : 1 ≤ lv) : CallJ P w K mg base lv "_law_draw" 2 [] F__law_draw := by
  obtain ⟨fd, Fd, F⟩ := ok__law_draw (P := P) (w := w) (base := base) V
  exact callJ F h (V.glo 9 rfl) Fd.kp (FunD.bindsN Fd (fun _ _ _ _ _ _ us hl => match us, hl with | [_, _], _ => rfl)) 2
def C__law_of (lv : Nat) : CC := { N := ["_law_bag_here", "_law_things"], sc := defScope (top 26), lv := lv, kp := [0, 1], brw := [0], ali := [], calls := [("_law_draw", 2, [])], bis := [("len", 1)], cons := [], meths := [], keys := [], lam := false, fr := FR }
def b__law_of : List S := [(.ret (.idx (.var 1) (.call 0 [(.bor 0), (.bi 0 [(.var 1)])] [])))]
theorem sc__law_of : FnScope ["_law_bag_here", "_law_things"] ["_law_bag_here", "_law_things"] (defScope (top 26)) := ⟨rfl, rfl, rfl, by decide +kernel, rfl, by decide +kernel, by decide +kernel⟩
theorem d__law_of (lv : Nat) : DefC (C__law_of lv) ["_law_bag_here", "_law_things"] (defArgs (top 26)) (defBody (top 26)) (defScope (top 26)) b__law_of := ⟨sc__law_of, rfl, rfl, (show ∀ i ∈ ([0, 1] : List Nat), i < 2 by decide), by kernel_rfl⟩
abbrev M__law_of : Sem := mkSem [0, 1] [F__law_draw] [lenD] [] [] (atOf AT)
theorem p__law_of : ∀ args R, F__law_of args R → runF [0, 1] 2 2 (wSs M__law_of b__law_of) args R := by
  rintro args R ⟨d, x, t, xs, rfl, hx, hd, ht, h0, hl, hR⟩
  refine ⟨rfl, ?_⟩
  rcases hx with rfl | rfl
  · unfold b__law_of
    simp only [wAls, wAug, wTMeth, tmD, wLcv, wSrs, wSrk, wSrl, wLc2, wTs, wCaps, wLMeth, lmD, wEnm, revD, rg1D, rg2D, wCMeth, wStf, putD, fldD, attrD, mkF, dflF, kwF, shs, pickG, pickO, consO, Option.map_some, List.take_nil, wMeth, methD, joinD, strsOf_map, wSs_cons, wSs_nil, Later_nil, wS, wE, wT, wI, wX, wVl, wOl, wAv, mk3, mkT, mkI, opd, wIf, wOr, DL.wAnd, DL.wNot, wBool, wTru, wUn, wOp, wFn, wCons, wNil, wVCons, wVNil, wAvNil, wAvVal, wAvBor, wCall2, wC, wVar, wAndV, wOrV, wNotV, wIte, wLst, wTup, wDct, wChn, wSlc, partE, varOp, asOp, entry, content, resO, resOs, frz, wRet, wRetV, wRetN, wNext, wDrop, wSet, wUnp, wPar, wSti, wBrk, wCnt, wMut, muD_append, muD_insert, muD_pop0, muD_pop1, mAppend, mInsert, mPop, mPopAt, wSeq', wFor, wWhile, wLc, wRng1, wRng2, wZip, itemsD, nth, bindTg, bindTgs, noOw, wipeS, restore, wback_val, wback_nil, wback_bor, List.nodup_nil, List.nodup_cons, List.not_mem_nil, bors, resA, pairD, keyD, le_size, List.replicate_succ, List.replicate_zero, List.length_cons, List.length_nil, List.cons_append, List.nil_append, List.getElem?_cons_zero, List.getElem?_cons_succ, List.getElem?_nil, List.set_cons_zero, List.set_cons_succ, Option.isSome_some, List.map_cons, List.map_nil, List.all_cons, List.all_nil, List.any_cons, List.any_nil, Nat.reduceSub, Nat.reduceAdd, Nat.reduceLT, Nat.reduceLeDiff, reduceIte, reduceCtorEq, Bool.not_true, Bool.not_false, Bool.false_eq_true, and_true, true_and, List.drop_zero, List.drop_succ_cons, List.take_succ_cons, List.take_zero]
    have hz : xs.length ≤ sizeLine := Nat.le_trans hl (by decide)
    refine lenD_items ht hz ⟨by decide, d, _, rfl, hd, by omega, by omega, fun v d' h1 h2 h3 => ?_⟩
    simp only [wAls, wAug, wTMeth, tmD, wLcv, wSrs, wSrk, wSrl, wLc2, wTs, wCaps, wLMeth, lmD, wEnm, revD, rg1D, rg2D, wCMeth, wStf, putD, fldD, attrD, mkF, dflF, kwF, shs, pickG, pickO, consO, Option.map_some, List.take_nil, wMeth, methD, joinD, strsOf_map, wSs_cons, wSs_nil, Later_nil, wS, wE, wT, wI, wX, wVl, wOl, wAv, mk3, mkT, mkI, opd, wIf, wOr, DL.wAnd, DL.wNot, wBool, wTru, wUn, wOp, wFn, wCons, wNil, wVCons, wVNil, wAvNil, wAvVal, wAvBor, wCall2, wC, wVar, wAndV, wOrV, wNotV, wIte, wLst, wTup, wDct, wChn, wSlc, partE, varOp, asOp, entry, content, resO, resOs, frz, wRet, wRetV, wRetN, wNext, wDrop, wSet, wUnp, wPar, wSti, wBrk, wCnt, wMut, muD_append, muD_insert, muD_pop0, muD_pop1, mAppend, mInsert, mPop, mPopAt, wSeq', wFor, wWhile, wLc, wRng1, wRng2, wZip, itemsD, nth, bindTg, bindTgs, noOw, wipeS, restore, wback_val, wback_nil, wback_bor, List.nodup_nil, List.nodup_cons, List.not_mem_nil, bors, resA, pairD, keyD, le_size, List.replicate_succ, List.replicate_zero, List.length_cons, List.length_nil, List.cons_append, List.nil_append, List.getElem?_cons_zero, List.getElem?_cons_succ, List.getElem?_nil, List.set_cons_zero, List.set_cons_succ, Option.isSome_some, List.map_cons, List.map_nil, List.all_cons, List.all_nil, List.any_cons, List.any_nil, Nat.reduceSub, Nat.reduceAdd, Nat.reduceLT, Nat.reduceLeDiff, reduceIte, reduceCtorEq, Bool.not_true, Bool.not_false, Bool.false_eq_true, and_true, true_and, List.drop_zero, List.drop_succ_cons, List.take_succ_cons, List.take_zero]
    obtain ⟨y, hy⟩ : ∃ y, xs[v.toNat]? = some y := ⟨_, List.getElem?_eq_getElem (by omega)⟩
    exact idxD_items ht hz h1 hy (hR y d' (List.mem_of_getElem? hy) h3)
  · unfold b__law_of
    simp only [wAls, wAug, wTMeth, tmD, wLcv, wSrs, wSrk, wSrl, wLc2, wTs, wCaps, wLMeth, lmD, wEnm, revD, rg1D, rg2D, wCMeth, wStf, putD, fldD, attrD, mkF, dflF, kwF, shs, pickG, pickO, consO, Option.map_some, List.take_nil, wMeth, methD, joinD, strsOf_map, wSs_cons, wSs_nil, Later_nil, wS, wE, wT, wI, wX, wVl, wOl, wAv, mk3, mkT, mkI, opd, wIf, wOr, DL.wAnd, DL.wNot, wBool, wTru, wUn, wOp, wFn, wCons, wNil, wVCons, wVNil, wAvNil, wAvVal, wAvBor, wCall2, wC, wVar, wAndV, wOrV, wNotV, wIte, wLst, wTup, wDct, wChn, wSlc, partE, varOp, asOp, entry, content, resO, resOs, frz, wRet, wRetV, wRetN, wNext, wDrop, wSet, wUnp, wPar, wSti, wBrk, wCnt, wMut, muD_append, muD_insert, muD_pop0, muD_pop1, mAppend, mInsert, mPop, mPopAt, wSeq', wFor, wWhile, wLc, wRng1, wRng2, wZip, itemsD, nth, bindTg, bindTgs, noOw, wipeS, restore, wback_val, wback_nil, wback_bor, List.nodup_nil, List.nodup_cons, List.not_mem_nil, bors, resA, pairD, keyD, le_size, List.replicate_succ, List.replicate_zero, List.length_cons, List.length_nil, List.cons_append, List.nil_append, List.getElem?_cons_zero, List.getElem?_cons_succ, List.getElem?_nil, List.set_cons_zero, List.set_cons_succ, Option.isSome_some, List.map_cons, List.map_nil, List.all_cons, List.all_nil, List.any_cons, List.any_nil, Nat.reduceSub, Nat.reduceAdd, Nat.reduceLT, Nat.reduceLeDiff, reduceIte, reduceCtorEq, Bool.not_true, Bool.not_false, Bool.false_eq_true, and_true, true_and, List.drop_zero, List.drop_succ_cons, List.take_succ_cons, List.take_zero]
    have hz : xs.length ≤ sizeLine := Nat.le_trans hl (by decide)
    refine lenD_items ht hz ⟨by decide, d, _, rfl, hd, by omega, by omega, fun v d' h1 h2 h3 => ?_⟩
    simp only [wAls, wAug, wTMeth, tmD, wLcv, wSrs, wSrk, wSrl, wLc2, wTs, wCaps, wLMeth, lmD, wEnm, revD, rg1D, rg2D, wCMeth, wStf, putD, fldD, attrD, mkF, dflF, kwF, shs, pickG, pickO, consO, Option.map_some, List.take_nil, wMeth, methD, joinD, strsOf_map, wSs_cons, wSs_nil, Later_nil, wS, wE, wT, wI, wX, wVl, wOl, wAv, mk3, mkT, mkI, opd, wIf, wOr, DL.wAnd, DL.wNot, wBool, wTru, wUn, wOp, wFn, wCons, wNil, wVCons, wVNil, wAvNil, wAvVal, wAvBor, wCall2, wC, wVar, wAndV, wOrV, wNotV, wIte, wLst, wTup, wDct, wChn, wSlc, partE, varOp, asOp, entry, content, resO, resOs, frz, wRet, wRetV, wRetN, wNext, wDrop, wSet, wUnp, wPar, wSti, wBrk, wCnt, wMut, muD_append, muD_insert, muD_pop0, muD_pop1, mAppend, mInsert, mPop, mPopAt, wSeq', wFor, wWhile, wLc, wRng1, wRng2, wZip, itemsD, nth, bindTg, bindTgs, noOw, wipeS, restore, wback_val, wback_nil, wback_bor, List.nodup_nil, List.nodup_cons, List.not_mem_nil, bors, resA, pairD, keyD, le_size, List.replicate_succ, List.replicate_zero, List.length_cons, List.length_nil, List.cons_append, List.nil_append, List.getElem?_cons_zero, List.getElem?_cons_succ, List.getElem?_nil, List.set_cons_zero, List.set_cons_succ, Option.isSome_some, List.map_cons, List.map_nil, List.all_cons, List.all_nil, List.any_cons, List.any_nil, Nat.reduceSub, Nat.reduceAdd, Nat.reduceLT, Nat.reduceLeDiff, reduceIte, reduceCtorEq, Bool.not_true, Bool.not_false, Bool.false_eq_true, and_true, true_and, List.drop_zero, List.drop_succ_cons, List.take_succ_cons, List.take_zero]
    obtain ⟨y, hy⟩ : ∃ y, xs[v.toNat]? = some y := ⟨_, List.getElem?_eq_getElem (by omega)⟩
    exact idxD_items ht hz h1 hy (hR y d' (List.mem_of_getElem? hy) h3)
theorem ok__law_of {P : Program} {w : World} {K : PySem.W.Frag} {mg : Str → Option Value} {base : Heap} (V : VE K mg base) : ∃ fd, FunD K "_law_of" "_law_of" (defArgs (top 26)) (defBody (top 26)) (defScope (top 26)) [] [] (He.ga K "_law_of") fd ∧ FnOk P w K mg base CX0 2 (He.ga K "_law_of") fd ["_law_bag_here", "_law_things"] (spOf K F__law_of) := by
  obtain ⟨fd, Fd⟩ := V.def_ 14 (d := dd "_law_of" 26 []) rfl
  exact ⟨fd, Fd, fn_ok Fd (d__law_of 1) (mkTab (.cons (cj__law_draw_2 V (by first | decide | omega)) .nil) (.cons rfl .nil) (show ([("len", 1)] : List (Str × Nat)).all (fun c => decide (c.1 ∈ FR)) = true by decide +kernel) .nil .nil (at_ok V) V.free rfl) (fun h => by cases h) rfl p__law_of⟩
theorem cj__law_of_2 {P : Program} {w : World} {K : PySem.W.Frag} {mg : Str → Option Value} {base : Heap} {lv : Nat} (V : VE K mg base) (h : 2 ≤ lv) : CallJ P w K mg base lv "_law_of" 2 [] F__law_of := by
  obtain ⟨fd, Fd, F⟩ := ok__law_of (P := P) (w := w) (base := base) V
  exact callJ F h (V.glo 10 rfl) Fd.kp (FunD.bindsN Fd (fun _ _ _ _ _ _ us hl => match us, hl with | [_, _], _ => rfl)) 2
def C__law_like (lv : Nat) : CC := { N := ["_law_told", "_law_due", "_law_a", "_law_b", "_law_k"], sc := defScope (top 28), lv := lv, kp := [], brw := [], ali := [], calls := [("_law_like", 2, [])], bis := [("len", 1), ("all", 1), ("bool", 1)], cons := [], meths := [], keys := [], lam := false, fr := FR }
def b__law_like : List S := [(.ifs (.isi (.var 1) ["list", "tuple"]) [(.ifs (.or (.cmp .NotEq (.isi (.var 0) ["list"]) (.isi (.var 1) ["list"])) (.cmp .NotEq (.isi (.var 0) ["tuple"]) (.isi (.var 1) ["tuple"]))) [(.ret (.bl false))] []), (.ret (.and (.cmp .Eq (.bi 0 [(.var 0)]) (.bi 0 [(.var 1)])) (.bi 1 [(.lc (.call 0 [(.var 2), (.var 3)] []) (.tp [(.nm 2), (.nm 3)]) (.zip [(.var 0), (.var 1)]) [] [2, 3])])))] []), (.ifs (.isi (.var 1) ["dict"]) [(.ifs (.nt (.isi (.var 0) ["dict"])) [(.ret (.bl false))] []), (.ret (.call 0 [(.lc (.lst [(.var 4), (.idx (.var 0) (.var 4))]) (.nm 4) (.var 0) [] [4]), (.lc (.lst [(.var 4), (.idx (.var 1) (.var 4))]) (.nm 4) (.var 1) [] [4])] []))] []), (.ifs (.or (.cmp .Is (.var 1) .non) (.cmp .Is (.var 0) .non)) [(.ret (.and (.cmp .Is (.var 1) .non) (.cmp .Is (.var 0) .non)))] []), (.ifs (.or (.isi (.var 0) ["list", "tuple", "dict"]) (.cmp .NotEq (.isi (.var 0) ["bool"]) (.isi (.var 1) ["bool"]))) [(.ret (.bl false))] []), (.ifs (.or (.cmp .NotEq (.isi (.var 0) ["str"]) (.isi (.var 1) ["str"])) (.cmp .NotEq (.isi (.var 0) ["int"]) (.isi (.var 1) ["int"]))) [(.ret (.bl false))] []), (.ret (.bi 2 [(.cmp .Eq (.var 0) (.var 1))]))]
theorem sc__law_like : FnScope ["_law_told", "_law_due", "_law_a", "_law_b", "_law_k"] ["_law_told", "_law_due"] (defScope (top 28)) := ⟨rfl, rfl, rfl, by decide +kernel, rfl, by decide +kernel, by decide +kernel⟩
theorem d__law_like (lv : Nat) : DefC (C__law_like lv) ["_law_told", "_law_due"] (defArgs (top 28)) (defBody (top 28)) (defScope (top 28)) b__law_like := ⟨sc__law_like, rfl, rfl, (show ∀ i ∈ ([] : List Nat), i < 2 by decide), by kernel_rfl⟩
abbrev M__law_like (n : Nat) : Sem := mkSem [] [F__law_like n] [lenD, allD, boolD] [] [] (atOf AT)
theorem p__law_like (n : Nat) : ∀ args R, F__law_like (n + 1) args R → runF [] 2 5 (wSs (M__law_like n) b__law_like) args R := like1 n
theorem ok__law_like {P : Program} {w : World} {K : PySem.W.Frag} {mg : Str → Option Value} {base : Heap} (V : VE K mg base) : ∃ fd, FunD K "_law_like" "_law_like" (defArgs (top 28)) (defBody (top 28)) (defScope (top 28)) [] [] (He.ga K "_law_like") fd ∧ ∀ n, FnOk P w K mg base CX0 (n + 0) (He.ga K "_law_like") fd ["_law_told", "_law_due"] (spOf K (F__law_like n)) := by
  obtain ⟨fd, Fd⟩ := V.def_ 16 (d := dd "_law_like" 28 []) rfl
  refine ⟨fd, Fd, fun n => ?_⟩
  induction n with
  | zero => exact fnOk_fal
  | succ n ih =>
    have cjr := callJ (lv := n + 0) ih (Nat.le_refl _) (V.glo 12 rfl) Fd.kp (FunD.bindsN Fd (fun _ _ _ _ _ _ us hl => match us, hl with | [_, _], _ => rfl)) 2
    exact ok_cast (fn_ok (F := F__law_like (n + 1)) Fd (d__law_like (n + 0)) (mkTab (.cons cjr .nil) (.cons rfl (.cons rfl (.cons rfl .nil))) (show ([("len", 1), ("all", 1), ("bool", 1)] : List (Str × Nat)).all (fun c => decide (c.1 ∈ FR)) = true by decide +kernel) .nil .nil (at_ok V) V.free rfl) (fun h => by cases h) rfl (p__law_like n)) (by show n + 0 + 1 = n + 1 + 0; omega)
theorem cj__law_like_2 {P : Program} {w : World} {K : PySem.W.Frag} {mg : Str → Option Value} {base : Heap} {lv : Nat} (V : VE K mg base) (h : 5 ≤ lv) : CallJ P w K mg base lv "_law_like" 2 [] (F__law_like 5) := by
  obtain ⟨fd, Fd, F⟩ := ok__law_like (P := P) (w := w) (base := base) V
  have F := F 5
  exact callJ F h (V.glo 12 rfl) Fd.kp (FunD.bindsN Fd (fun _ _ _ _ _ _ us hl => match us, hl with | [_, _], _ => rfl)) 2
end K06

namespace K06
open PySem DL PySem.W
/-! ### thinned lists -/
structure Thin {α : Type} (c : α → α → Prop) (L T : List α) : Prop where
  sub : ∀ x ∈ T, x ∈ L
  anti : ∀ x ∈ T, ∀ y ∈ T, c x y → x = y
  cov : ∀ z ∈ L, ∃ y ∈ T, c y z
theorem Thin.mem {α : Type} {c : α → α → Prop} (tr : ∀ x y z, c x y → c y z → c x z) (as : ∀ x y, c x y → c y x → x = y) {L T : List α} (h : Thin c L T) {x : α} : x ∈ T ↔ x ∈ L ∧ ∀ y ∈ L, c y x → y = x := by
  constructor
  · intro hx
    refine ⟨h.sub x hx, fun y hy hc => ?_⟩
    obtain ⟨z, hz, hzy⟩ := h.cov y hy
    have e := h.anti z hz x hx (tr _ _ _ hzy hc)
    subst e
    exact as _ _ hc hzy
  · rintro ⟨hx, hm⟩
    obtain ⟨y, hy, hc⟩ := h.cov x hx
    rw [← hm y (h.sub y hy) hc]; exact hy
theorem same_list {α : Type} {lt : α → α → Prop} (asym : ∀ x y, lt x y → ¬ lt y x) : ∀ {E F : List α}, E.Pairwise lt → F.Pairwise lt → (∀ x, x ∈ E ↔ x ∈ F) → E = F
  | [], [], _, _, _ => rfl
  | [], y :: F, _, _, h => by have := (h y).mpr (.head _); cases this
  | x :: E, [], _, _, h => by have := (h x).mp (.head _); cases this
  | x :: E, y :: F, h1, h2, h => by
    obtain ⟨a1, a2⟩ := List.pairwise_cons.mp h1
    obtain ⟨b1, b2⟩ := List.pairwise_cons.mp h2
    have e : x = y := by
      rcases List.mem_cons.mp ((h x).mp (.head _)) with e | m
      · exact e
      · rcases List.mem_cons.mp ((h y).mpr (.head _)) with e | m2
        · exact e.symm
        · exact absurd (b1 x m) (asym _ _ (a1 y m2))
    subst e
    refine congrArg _ (same_list asym a2 b2 fun z => ⟨fun m => ?_, fun m => ?_⟩)
    · rcases List.mem_cons.mp ((h z).mp (.tail _ m)) with rfl | m2
      · exact absurd (a1 z m) (asym _ _ (a1 z m))
      · exact m2
    · rcases List.mem_cons.mp ((h z).mpr (.tail _ m)) with rfl | m2
      · exact absurd (b1 z m) (asym _ _ (b1 z m))
      · exact m2
/-! ### orders of data -/
def leD' {α : Type} (k : α → PyData) (a b : α) : Prop := dataLe false k a b = true
section
variable {α : Type} {k : α → PyData}
theorem le_total (a b : α) : leD' k a b ∨ leD' k b a := (sortLe_total (PyProof.Rows.listOrd PyProof.Rows.itemOrd) false fun x => keyToks (k x)).total a b
theorem le_trans {a b c : α} (h1 : leD' k a b) (h2 : leD' k b c) : leD' k a c := (sortLe_total (PyProof.Rows.listOrd PyProof.Rows.itemOrd) false fun x => keyToks (k x)).trans a b c h1 h2
theorem le_iff {a b : α} : leD' k a b ↔ PyProof.Rows.lexLt PyProof.Rows.itemOrd (keyToks (k b)) (keyToks (k a)) = false := by
  unfold leD' dataLe sortLe
  show (!PyProof.Rows.lexLt PyProof.Rows.itemOrd (keyToks (k b)) (keyToks (k a))) = true ↔ _
  rw [Bool.not_eq_true']
theorem le_anti {a b : α} (inj : ∀ a b, keyToks (k a) = keyToks (k b) → a = b) (h1 : leD' k a b) (h2 : leD' k b a) : a = b :=
  inj _ _ (PyProof.Rows.lex_total _ _ (le_iff.mp h2) (le_iff.mp h1))
theorem sort_pw (l : List α) : (l.mergeSort (dataLe false k)).Pairwise (leD' k) :=
  List.pairwise_mergeSort (le := dataLe false k) (fun a b c h1 h2 => le_trans (k := k) h1 h2) (fun a b => by
    rcases le_total (k := k) a b with h | h
    · have h : dataLe false k a b = true := h
      rw [h]; rfl
    · have h : dataLe false k b a = true := h
      rw [h, Bool.or_true]) l
end
/-- rows that may be sorted and put into sets -/
structure Cod (α : Type) where
  enc : α → D
  nk : α → NestedKey
  g : NestedKey → D
  gd : ∀ k, toP (g k) = some k.data
  ge : ∀ a, g (nk a) = enc a
  tup : ∀ a, ∃ ys, enc a = .tup ys
  dep : ∀ a, (nk a).depth ≤ 8
  inj : ∀ a b, keyToks (nk a).data = keyToks (nk b).data → a = b
  al : ∀ a b, alike (nk a).data (nk b).data = true
  so : ∀ a, ∃ x r, (nk a).data = .tuple (x :: r)
namespace Cod
variable {α : Type} (C : Cod α)
def dat (a : α) : PyData := (C.nk a).data
def le (a b : α) : Prop := leD' C.dat a b
def lt (a b : α) : Prop := C.le a b ∧ a ≠ b
theorem encP (a : α) : toP (C.enc a) = some (C.dat a) := by rw [← C.ge]; exact C.gd _
theorem asym (x y : α) (h : C.lt x y) : ¬ C.lt y x := fun q => h.2 (le_anti C.inj h.1 q.1)
theorem srtOk (L : List α) : SrtOk (L.map C.dat) where
  al := fun d hd d' hd' => by
    obtain ⟨a, _, rfl⟩ := List.mem_map.mp hd
    obtain ⟨b, _, rfl⟩ := List.mem_map.mp hd'
    exact C.al a b
  so := .inl fun d hd => by
    obtain ⟨a, _, rfl⟩ := List.mem_map.mp hd
    exact C.so a
  dp := fun d hd => by
    obtain ⟨a, _, rfl⟩ := List.mem_map.mp hd
    show (C.nk a).data.depth ≤ 64
    rw [nk_depth]
    have := C.dep a
    omega
theorem sortD_map (L : List α) : sortD (L.map C.enc) = (L.mergeSort (dataLe false C.dat)).map C.enc := by
  unfold sortD sortBy
  refine (List.map_mergeSort fun a _ b _ => ?_).symm
  show dataLe false C.dat a b = dataLe false (fun x => toPD (C.enc x)) a b
  have : (fun x => toPD (C.enc x)) = C.dat := funext fun x => by unfold toPD; rw [C.encP]; rfl
  rw [this]
theorem srt {t : D} {L : List α} {R : Sl → Prop} (ht : seqOf t = some (L.map C.enc)) (h : ∀ S : List α, S.Perm L → S.Pairwise C.le → R (.ow (.lst (S.map C.enc)))) : sortedD [t] R := by
  unfold sortedD
  simp only [ht, toPs_map C.enc C.dat C.encP L]
  rw [C.sortD_map]
  exact ⟨C.srtOk L, h _ (List.mergeSort_perm _ _) (sort_pw L)⟩
theorem pre : ∀ {out : List NestedKey} {L : List α}, (∀ k ∈ out, k ∈ L.map C.nk) → ∃ O : List α, out = O.map C.nk ∧ ∀ x ∈ O, x ∈ L
  | [], _, _ => ⟨[], rfl, fun x h => by cases h⟩
  | k :: out, L, h => by
    obtain ⟨x, hx, rfl⟩ := List.mem_map.mp (h k (.head _))
    obtain ⟨O, rfl, hO⟩ := pre fun k m => h k (.tail _ m)
    exact ⟨x :: O, rfl, fun y m => (List.mem_cons.mp m).elim (fun e => e ▸ hx) (hO y)⟩
theorem set {L : List α} {R : Sl → Prop} (hl : L.length < 64) (h : ∀ S : List α, S.Nodup → (∀ x, x ∈ S ↔ x ∈ L) → S.Pairwise C.le → R (.ow (.lst (S.map C.enc)))) : srnS (.lst (L.map C.enc)) R := by
  have eg : ∀ O : List α, (O.map C.nk).map C.g = O.map C.enc := fun O => by rw [List.map_map]; exact List.map_congr_left fun a _ => C.ge a
  refine ⟨C.g, L.map C.nk, C.gd, (eg L).symm, by rw [List.length_map]; exact hl, fun k hk => ?_, fun out nd hm => ?_⟩
  · obtain ⟨a, _, rfl⟩ := List.mem_map.mp hk
    obtain ⟨ys, e⟩ := C.tup a
    exact ⟨⟨ys, by rw [C.ge, e]⟩, C.dep a⟩
  · obtain ⟨O, rfl, hO⟩ := C.pre fun k m => (hm k).mp m
    refine ⟨by rw [List.map_map]; exact C.srtOk O, ?_⟩
    rw [eg, C.sortD_map]
    have pm := List.mergeSort_perm O (dataLe false C.dat)
    refine h _ (pm.nodup_iff.mpr (List.Pairwise.of_map _ (fun a b h e => h (by rw [e])) nd)) (fun x => ⟨fun m => hO x (pm.mem_iff.mp m), fun m => ?_⟩) (sort_pw O)
    obtain ⟨y, hy, e⟩ := List.mem_map.mp ((hm (C.nk x)).mpr (List.mem_map_of_mem m))
    have : y = x := C.inj _ _ (by rw [e])
    subst this
    exact pm.mem_iff.mpr hy
end Cod
/-! ### rows of numbers -/
theorem nkDs_num : ∀ l : List Int, nkDs (l.map .num) = l.map .int
  | [] => rfl
  | a :: l => by
    show D.int a :: nkDs (l.map .num) = _
    rw [nkDs_num l]; rfl
theorem datas_num : ∀ l : List Int, NestedKey.datas (l.map .num) = l.map .int
  | [] => rfl
  | a :: l => by
    show PyData.int a :: NestedKey.datas (l.map .num) = _
    rw [datas_num l]; rfl
theorem depths_num : ∀ l : List Int, NestedKey.depthAll (l.map .num) = 0
  | [] => rfl
  | a :: l => by
    show max 0 (NestedKey.depthAll (l.map .num)) = 0
    rw [depths_num l]; rfl
theorem toks_num : ∀ {l m : List Int}, keyToksAll (l.map .int) = keyToksAll (m.map .int) → l = m
  | [], [], _ => rfl
  | [], b :: m, h => by cases h
  | a :: l, [], h => by cases h
  | a :: l, b :: m, h => by
    have h : Sum.inl 1 :: Sum.inl a :: keyToksAll (l.map .int) = Sum.inl (β := List Nat) 1 :: Sum.inl b :: keyToksAll (m.map .int) := h
    injection h with _ h
    injection h with h1 h2
    cases h1
    rw [toks_num h2]
theorem alike_num : ∀ l m : List Int, alikeAll (l.map .int) (m.map .int) = true
  | [], _ => rfl
  | a :: l, [] => rfl
  | a :: l, b :: m => alike_num l m
abbrev IR := Int × List Int
def CI : Cod IR where
  enc := fun r => .tup (.int r.1 :: r.2.map .int)
  nk := fun r => .tup ((r.1 :: r.2).map .num)
  g := nkD
  gd := nkD_toP
  ge := fun r => by
    show D.tup (nkDs ((r.1 :: r.2).map .num)) = _
    rw [nkDs_num]; rfl
  tup := fun r => ⟨_, rfl⟩
  dep := fun r => by
    show NestedKey.depthAll ((r.1 :: r.2).map .num) + 1 ≤ 8
    rw [depths_num]; decide
  inj := fun r q h => by
    have h : keyToksAll (NestedKey.datas ((r.1 :: r.2).map .num)) = keyToksAll (NestedKey.datas ((q.1 :: q.2).map .num)) := h
    rw [datas_num, datas_num] at h
    have := toks_num h
    injection this with a b
    exact Prod.ext a b
  al := fun r q => by
    show alikeAll (NestedKey.datas ((r.1 :: r.2).map .num)) (NestedKey.datas ((q.1 :: q.2).map .num)) = true
    rw [datas_num, datas_num]
    exact alike_num _ _
  so := fun r => ⟨.int r.1, NestedKey.datas (r.2.map .num), rfl⟩
/-! ### rows of Open -/
theorem nkDs_text : ∀ l : List Str, nkDs (l.map .text) = l.map .str
  | [] => rfl
  | a :: l => by
    show D.str a :: nkDs (l.map .text) = _
    rw [nkDs_text l]; rfl
theorem datas_text : ∀ l : List Str, NestedKey.datas (l.map .text) = l.map .str
  | [] => rfl
  | a :: l => by
    show PyData.str a :: NestedKey.datas (l.map .text) = _
    rw [datas_text l]; rfl
theorem depths_text : ∀ l : List Str, NestedKey.depthAll (l.map .text) = 0
  | [] => rfl
  | a :: l => by
    show max 0 (NestedKey.depthAll (l.map .text)) = 0
    rw [depths_text l]; rfl
theorem toks_text : ∀ {l m : List Str}, keyToksAll (l.map .str) = keyToksAll (m.map .str) → l = m
  | [], [], _ => rfl
  | [], b :: m, h => by cases h
  | a :: l, [], h => by cases h
  | a :: l, b :: m, h => by
    have h : Sum.inl 1 :: Sum.inr a.cps.toList :: keyToksAll (l.map .str) = Sum.inl (α := Int) 1 :: Sum.inr b.cps.toList :: keyToksAll (m.map .str) := h
    injection h with _ h
    injection h with h1 h2
    have e := str_of_cps (Sum.inr.inj h1)
    rw [toks_text h2, e]
theorem alike_text : ∀ l m : List Str, alikeAll (l.map .str) (m.map .str) = true
  | [], _ => rfl
  | a :: l, [] => rfl
  | a :: l, b :: m => alike_text l m
abbrev OR := Int × List Str
def rowO (x : OR) : D := .tup [.int x.1, .ftup (x.2.map .str)]
def gO : NestedKey → D
  | .tup [.num p, .tup js] => .tup [.int p, .ftup (nkDs js)]
  | k => nkD k
theorem gO_toP : ∀ k, toP (gO k) = some k.data := fun k => by
  unfold gO
  split
  · rename_i p js
    have h := nkD_toP (.tup [.num p, .tup js])
    exact h
  · exact nkD_toP _
def datO (x : OR) : PyData := .tuple [.int x.1, .tuple (x.2.map .str)]
theorem datO_toks (x : OR) : keyToks (datO x) = Sum.inl 1 :: Sum.inl x.1 :: Sum.inl 1 :: (keyToksAll (x.2.map .str) ++ [Sum.inl 0]) := rfl
def nkO (x : OR) : NestedKey := .tup [.num x.1, .tup (x.2.map .text)]
theorem nkO_data (x : OR) : (nkO x).data = datO x := by
  show PyData.tuple [.int x.1, .tuple (NestedKey.datas (x.2.map .text))] = _
  rw [datas_text]; rfl
def CO : Cod OR where
  enc := rowO
  nk := nkO
  g := gO
  gd := gO_toP
  ge := fun x => by
    show D.tup [.int x.1, .ftup (nkDs (x.2.map .text))] = _
    rw [nkDs_text]; rfl
  tup := fun x => ⟨_, rfl⟩
  dep := fun x => by
    show max 0 (max (NestedKey.depthAll (x.2.map .text) + 1) 0) + 1 ≤ 8
    rw [depths_text]; decide
  inj := fun x y h => by
    rw [nkO_data, nkO_data, datO_toks, datO_toks] at h
    injection h with _ h
    injection h with h1 h2
    injection h2 with _ h2
    have := toks_text (List.append_cancel_right h2)
    exact Prod.ext (Sum.inl.inj h1) this
  al := fun x y => by
    rw [nkO_data, nkO_data]
    show (true && (alikeAll (x.2.map .str) (y.2.map .str) && true)) = true
    rw [alike_text]; rfl
  so := fun x => ⟨_, _, nkO_data x⟩
theorem CO_dat : CO.dat = datO := funext nkO_data
end K06

namespace K06
open PySem DL PySem.W
/-! ### the greedy walk -/
structure Grd {α : Type} (c : α → α → Prop) (A B K : List α) : Prop where
  sub : ∀ x ∈ K, x ∈ A
  pw : K.Pairwise fun x y => ¬ c x y ∧ ¬ c y x
  cov : ∀ z ∈ A, ∃ y ∈ K, c y z
  nx : ∀ x ∈ K, ∀ z ∈ B, c z x → z = x
theorem Grd.skip {α : Type} {c : α → α → Prop} {A B K : List α} {z : α} (g : Grd c A (z :: B) K) (h : ∃ y ∈ K, c y z) : Grd c (A ++ [z]) B K where
  sub := fun x hx => List.mem_append_left _ (g.sub x hx)
  pw := g.pw
  cov := fun w hw => by
    rcases List.mem_append.mp hw with hw | hw
    · exact g.cov w hw
    · rw [List.mem_singleton.mp hw]; exact h
  nx := fun x hx w hw => g.nx x hx w (.tail _ hw)
theorem Grd.push {α : Type} {c : α → α → Prop} (rf : ∀ x, c x x) {A B K : List α} {z : α} (g : Grd c A (z :: B) K) (h : ¬ ∃ y ∈ K, c y z) (hB : ∀ w ∈ B, c w z → w = z) : Grd c (A ++ [z]) B (K ++ [z]) where
  sub := fun x hx => by
    rcases List.mem_append.mp hx with hx | hx
    · exact List.mem_append_left _ (g.sub x hx)
    · exact List.mem_append_right _ hx
  pw := by
    rw [List.pairwise_append]
    refine ⟨g.pw, List.pairwise_singleton _ _, fun x hx y hy => ?_⟩
    rw [List.mem_singleton.mp hy]
    refine ⟨fun q => h ⟨x, hx, q⟩, fun q => ?_⟩
    have := g.nx x hx z (.head _) q
    subst this
    exact h ⟨z, hx, rf z⟩
  cov := fun w hw => by
    rcases List.mem_append.mp hw with hw | hw
    · obtain ⟨y, hy, q⟩ := g.cov w hw
      exact ⟨y, List.mem_append_left _ hy, q⟩
    · rw [List.mem_singleton.mp hw]
      exact ⟨z, List.mem_append_right _ (.head _), rf z⟩
  nx := fun x hx w hw q => by
    rcases List.mem_append.mp hx with hx | hx
    · exact g.nx x hx w (.tail _ hw) q
    · rw [List.mem_singleton.mp hx] at q ⊢
      exact hB w hw q
theorem pw_mem {α : Type} {R : α → α → Prop} : ∀ {K : List α}, K.Pairwise R → ∀ x ∈ K, ∀ y ∈ K, x = y ∨ R x y ∨ R y x
  | [], _, x, hx, _, _ => by cases hx
  | a :: K, h, x, hx, y, hy => by
    obtain ⟨h1, h2⟩ := List.pairwise_cons.mp h
    rcases List.mem_cons.mp hx with e | hx
    · rcases List.mem_cons.mp hy with e2 | hy
      · exact .inl (e.trans e2.symm)
      · rw [e]; exact .inr (.inl (h1 y hy))
    · rcases List.mem_cons.mp hy with e2 | hy
      · rw [e2]; exact .inr (.inr (h1 x hx))
      · exact pw_mem h2 x hx y hy
theorem Grd.thin {α : Type} {c : α → α → Prop} {A K : List α} (g : Grd c A [] K) : Thin c A K where
  sub := g.sub
  anti := fun x hx y hy q => by
    rcases pw_mem g.pw x hx y hy with e | e | e
    · exact e
    · exact absurd q e.1
    · exact absurd q e.2
  cov := g.cov
theorem Grd.nodup {α : Type} {c : α → α → Prop} (rf : ∀ x, c x x) {A B K : List α} (g : Grd c A B K) : K.Nodup := g.pw.imp fun {a b} h (e : a = b) => h.1 (by rw [e]; exact rf _)
theorem Thin.perm {α : Type} {c : α → α → Prop} {L M T U : List α} (h : Thin c L T) (hL : ∀ x, x ∈ L ↔ x ∈ M) (hT : ∀ x, x ∈ T ↔ x ∈ U) : Thin c M U where
  sub := fun x hx => (hL x).mp (h.sub x ((hT x).mpr hx))
  anti := fun x hx y hy => h.anti x ((hT x).mpr hx) y ((hT y).mpr hy)
  cov := fun z hz => by
    obtain ⟨y, hy, q⟩ := h.cov z ((hL z).mpr hz)
    exact ⟨y, (hT y).mp hy, q⟩
theorem Thin.same {α : Type} {c lt : α → α → Prop} (asym : ∀ x y, lt x y → ¬ lt y x) {L T U : List α} (tr : ∀ x ∈ L, ∀ y ∈ L, ∀ z ∈ L, c x y → c y z → c x z) (as : ∀ x ∈ L, ∀ y ∈ L, c x y → c y x → x = y) (h : Thin c L T) (g : Thin c L U) (hT : T.Pairwise lt) (hU : U.Pairwise lt) : T = U := by
  have key : ∀ {T U : List α}, Thin c L T → Thin c L U → ∀ x ∈ T, x ∈ U := fun {T U} h g x hx => by
    obtain ⟨y, hy, q⟩ := g.cov x (h.sub x hx)
    obtain ⟨z, hz, r⟩ := h.cov y (g.sub y hy)
    have e := h.anti z hz x hx (tr z (h.sub z hz) y (g.sub y hy) x (h.sub x hx) r q)
    subst e
    rw [← as y (g.sub y hy) z (h.sub z hz) q r]; exact hy
  exact same_list asym hT hU fun x => ⟨key h g x, key g h x⟩
theorem least_of {α : Type} (f : α → Int) : ∀ {l : List α}, l ≠ [] → ∃ y ∈ l, ∀ z ∈ l, f y ≤ f z
  | [], h => absurd rfl h
  | [x], _ => ⟨x, .head _, fun z hz => by rw [List.mem_singleton.mp hz]; exact Int.le_refl _⟩
  | x :: y :: l, _ => by
    obtain ⟨m, hm, h⟩ := least_of f (l := y :: l) (by simp)
    by_cases c : f x ≤ f m
    · exact ⟨x, .head _, fun z hz => (List.mem_cons.mp hz).elim (fun e => by rw [e]; exact Int.le_refl _) fun q => Int.le_trans c (h z q)⟩
    · exact ⟨m, .tail _ hm, fun z hz => (List.mem_cons.mp hz).elim (fun e => by rw [e]; omega) fun q => h z q⟩
def minC {α : Type} [DecidableEq α] (c : α → α → Bool) (S : List α) (x : α) : Bool := !(S.any fun y => !decide (y = x) && c y x)
theorem minC_iff {α : Type} [DecidableEq α] {c : α → α → Bool} {S : List α} {x : α} : minC c S x = true ↔ ∀ y ∈ S, y ≠ x → ¬ c y x = true := by
  unfold minC
  rw [Bool.not_eq_true', List.any_eq_false]
  constructor
  · intro h y hy hne l
    refine h y hy ?_
    rw [decide_eq_false hne, l]; rfl
  · intro h y hy q
    rw [Bool.and_eq_true, Bool.not_eq_true', decide_eq_false_iff_not] at q
    exact h y hy q.1 q.2
theorem thin_min {α : Type} [DecidableEq α] {c : α → α → Bool} (f : α → Int) (rf : ∀ x, c x x = true) {L S : List α} (hs : ∀ x, x ∈ S ↔ x ∈ L) (tr : ∀ x ∈ L, ∀ y ∈ L, ∀ z ∈ L, c x y = true → c y z = true → c x z = true) (mono : ∀ x ∈ L, ∀ y ∈ L, c y x = true → y ≠ x → f y < f x) :
    Thin (fun x y => c x y = true) L (S.filter (minC c S)) where
  sub := fun x hx => (hs x).mp (List.mem_filter.mp hx).1
  anti := fun x hx y hy q => Classical.byContradiction fun ne => minC_iff.mp (List.mem_filter.mp hy).2 x (List.mem_filter.mp hx).1 ne q
  cov := fun z hz => by
    obtain ⟨y, hy, hm⟩ := least_of f (l := S.filter fun y => c y z) (fun e => by
      have : z ∈ S.filter fun y => c y z := List.mem_filter.mpr ⟨(hs z).mpr hz, rf z⟩
      rw [e] at this; cases this)
    obtain ⟨y1, y2⟩ := List.mem_filter.mp hy
    refine ⟨y, List.mem_filter.mpr ⟨y1, minC_iff.mpr fun w hw ne q => ?_⟩, y2⟩
    have := hm w (List.mem_filter.mpr ⟨hw, tr w ((hs w).mp hw) y ((hs y).mp y1) z hz q y2⟩)
    have := mono y ((hs y).mp y1) w ((hs w).mp hw) q ne
    omega
/-! ### rows of numbers -/
def cL : List Int → List Int → Bool
  | a :: l, b :: m => decide (a ≤ b) && cL l m
  | _, _ => true
theorem cL_zip : ∀ l m : List Int, (l.zip m).all (fun p => decide (p.1 ≤ p.2)) = cL l m
  | [], _ => by cases ‹List Int› <;> rfl
  | a :: l, [] => rfl
  | a :: l, b :: m => by
    show (decide (a ≤ b) && (l.zip m).all fun p => decide (p.1 ≤ p.2)) = _
    rw [cL_zip l m]; rfl
theorem cL_refl : ∀ l : List Int, cL l l = true
  | [] => rfl
  | a :: l => by
    show (decide (a ≤ a) && cL l l) = true
    rw [cL_refl l, decide_eq_true (Int.le_refl a)]; rfl
theorem cL_cons {a b : Int} {l m : List Int} : cL (a :: l) (b :: m) = true ↔ a ≤ b ∧ cL l m = true := by
  show (decide (a ≤ b) && cL l m) = true ↔ _
  rw [Bool.and_eq_true, decide_eq_true_eq]
theorem cL_trans : ∀ {l m k : List Int}, l.length = m.length → m.length = k.length → cL l m = true → cL m k = true → cL l k = true
  | [], _, k, _, _, _, _ => by cases k <;> rfl
  | a :: l, b :: m, [], _, h, _, _ => by cases h
  | a :: l, [], _, h, _, _, _ => by cases h
  | a :: l, b :: m, c :: k, h1, h2, p, q => by
    rw [cL_cons] at p q ⊢
    exact ⟨Int.le_trans p.1 q.1, cL_trans (Nat.succ.inj h1) (Nat.succ.inj h2) p.2 q.2⟩
theorem cL_sum : ∀ {l m : List Int}, l.length = m.length → cL l m = true → l.sum ≤ m.sum ∧ (l.sum = m.sum → l = m)
  | [], [], _, _ => ⟨Int.le_refl _, fun _ => rfl⟩
  | a :: l, [], h, _ => by cases h
  | [], b :: m, h, _ => by cases h
  | a :: l, b :: m, h, p => by
    rw [cL_cons] at p
    obtain ⟨h1, h2⟩ := cL_sum (Nat.succ.inj h) p.2
    have pa := p.1
    rw [List.sum_cons, List.sum_cons]
    refine ⟨by omega, fun e => ?_⟩
    rw [h2 (by omega), show a = b by omega]
theorem cL_lex : ∀ {l m : List Int}, l.length = m.length → cL l m = true → PyProof.Rows.lexLt PyProof.Rows.itemOrd (keyToksAll (m.map .int)) (keyToksAll (l.map .int)) = false
  | [], [], _, _ => PyProof.Rows.lex_irrefl _
  | a :: l, [], h, _ => by cases h
  | [], b :: m, h, _ => by cases h
  | a :: l, b :: m, h, p => by
    rw [cL_cons] at p
    have ih := cL_lex (Nat.succ.inj h) p.2
    show PyProof.Rows.lexLt PyProof.Rows.itemOrd (Sum.inl 1 :: Sum.inl b :: keyToksAll (m.map .int)) (Sum.inl 1 :: Sum.inl a :: keyToksAll (l.map .int)) = false
    rw [PyProof.Rows.lex_self (O := PyProof.Rows.itemOrd)]
    by_cases e : b = a
    · rw [e, PyProof.Rows.lex_self (O := PyProof.Rows.itemOrd)]; exact ih
    · rw [PyProof.Rows.lex_diff (O := PyProof.Rows.itemOrd) (fun q => e (Sum.inl.inj q))]
      show decide (b < a) = false
      have := p.1
      exact decide_eq_false (by omega)
/-- at most everywhere -/
def cI (x y : IR) : Bool := decide (x.1 ≤ y.1) && cL x.2 y.2
theorem cI_iff {x y : IR} : cI x y = true ↔ x.1 ≤ y.1 ∧ cL x.2 y.2 = true := by
  unfold cI
  rw [Bool.and_eq_true, decide_eq_true_eq]
theorem cI_refl (x : IR) : cI x x = true := cI_iff.mpr ⟨Int.le_refl _, cL_refl _⟩
theorem CI_dat (x : IR) : keyToks (CI.dat x) = Sum.inl 1 :: Sum.inl x.1 :: keyToksAll (x.2.map .int) := by
  show keyToksAll (NestedKey.datas ((x.1 :: x.2).map .num)) = _
  rw [datas_num]; rfl
theorem cI_le {x y : IR} (hl : x.2.length = y.2.length) (h : cI x y = true) : CI.le x y := by
  obtain ⟨h1, h2⟩ := cI_iff.mp h
  refine le_iff.mpr ?_
  rw [CI_dat, CI_dat, PyProof.Rows.lex_self (O := PyProof.Rows.itemOrd)]
  by_cases e : y.1 = x.1
  · rw [e, PyProof.Rows.lex_self (O := PyProof.Rows.itemOrd)]; exact cL_lex hl h2
  · rw [PyProof.Rows.lex_diff (O := PyProof.Rows.itemOrd) (fun q => e (Sum.inl.inj q))]
    show decide (y.1 < x.1) = false
    exact decide_eq_false (by omega)
theorem CI_head {x y : IR} (h : CI.le x y) : x.1 < y.1 ∨ x.1 = y.1 ∧ PyProof.Rows.lexLt PyProof.Rows.itemOrd (keyToksAll (y.2.map .int)) (keyToksAll (x.2.map .int)) = false := by
  have h := le_iff.mp h
  rw [CI_dat, CI_dat, PyProof.Rows.lex_self (O := PyProof.Rows.itemOrd)] at h
  by_cases e : y.1 = x.1
  · rw [e, PyProof.Rows.lex_self (O := PyProof.Rows.itemOrd)] at h
    exact .inr ⟨e.symm, h⟩
  · rw [PyProof.Rows.lex_diff (O := PyProof.Rows.itemOrd) (fun q => e (Sum.inl.inj q))] at h
    have h : decide (y.1 < x.1) = false := h
    have := of_decide_eq_false h
    exact .inl (by omega)
theorem CI_snd {a b : Int} (h : PyProof.Rows.lexLt PyProof.Rows.itemOrd (keyToksAll ([b].map .int)) (keyToksAll ([a].map .int)) = false) : a ≤ b := by
  have h : PyProof.Rows.lexLt PyProof.Rows.itemOrd (Sum.inl 1 :: Sum.inl b :: [Sum.inl 0]) (Sum.inl 1 :: Sum.inl a :: [Sum.inl 0]) = false := h
  rw [PyProof.Rows.lex_self (O := PyProof.Rows.itemOrd)] at h
  by_cases e : b = a
  · omega
  · rw [PyProof.Rows.lex_diff (O := PyProof.Rows.itemOrd) (fun q => e (Sum.inl.inj q))] at h
    have h : decide (b < a) = false := h
    have := of_decide_eq_false h
    omega
/-- narrow rows: the last rival is enough -/
theorem last_rival {w : Nat} (hw : w ≤ 1) {K : List IR} {l z : IR} (hlen : ∀ x ∈ K ++ [l], x.2.length = w) (hz : z.2.length = w) (pw : (K ++ [l]).Pairwise fun x y => CI.le x y ∧ ¬ cI x y = true) (lz : CI.le l z) {y : IR} (hy : y ∈ K ++ [l]) (h : cI y z = true) : cI l z = true := by
  have ll := hlen l (List.mem_append_right _ (.head _))
  have yl := hlen y hy
  rcases List.mem_append.mp hy with hy | hy
  · have q := (List.pairwise_append.mp pw).2.2 y hy l (.head _)
    obtain ⟨h1, h2⟩ := cI_iff.mp h
    have hd := CI_head lz
    have hd2 := CI_head q.1
    refine cI_iff.mpr ⟨by omega, ?_⟩
    match w, hw with
    | 0, _ =>
      rw [List.length_eq_zero_iff.mp ll, List.length_eq_zero_iff.mp hz]; rfl
    | 1, _ =>
      obtain ⟨bl, el⟩ := List.length_eq_one_iff.mp ll
      obtain ⟨bz, ez⟩ := List.length_eq_one_iff.mp hz
      obtain ⟨by', ey⟩ := List.length_eq_one_iff.mp yl
      rw [ey, ez, cL_cons] at h2
      have n : ¬ (y.1 ≤ l.1 ∧ by' ≤ bl) := fun k => q.2 (cI_iff.mpr ⟨k.1, by rw [ey, el, cL_cons]; exact ⟨k.2, rfl⟩⟩)
      rw [el, ez, cL_cons]
      have h3 := h2.1
      refine ⟨?_, rfl⟩
      have : y.1 ≤ l.1 := by omega
      have : ¬ by' ≤ bl := fun k => n ⟨this, k⟩
      omega
  · rw [List.mem_singleton.mp hy] at h; exact h
theorem cI_trans {x y z : IR} (h1 : x.2.length = y.2.length) (h2 : y.2.length = z.2.length) (p : cI x y = true) (q : cI y z = true) : cI x z = true := by
  rw [cI_iff] at *
  exact ⟨Int.le_trans p.1 q.1, cL_trans h1 h2 p.2 q.2⟩
theorem cI_anti {x y : IR} (h1 : x.2.length = y.2.length) (p : cI x y = true) (q : cI y x = true) : x = y := by
  rw [cI_iff] at *
  have a := cL_sum h1 p.2
  have b := cL_sum h1.symm q.2
  exact Prod.ext (Int.le_antisymm p.1 q.1) (a.2 (by omega))
def szI (x : IR) : Int := x.1 + x.2.sum
theorem szI_mono {x y : IR} (h1 : y.2.length = x.2.length) (p : cI y x = true) (ne : y ≠ x) : szI y < szI x := by
  rw [cI_iff] at p
  have a := cL_sum h1 p.2
  unfold szI
  by_cases e : y.1 = x.1 ∧ y.2.sum = x.2.sum
  · exact absurd (Prod.ext e.1 (a.2 e.2)) ne
  · omega
end K06

namespace K06
open PySem DL PySem.W
/-! ### names in order -/
def leS (a b : Str) : Prop := leD' PyData.str a b
def ltS (a b : Str) : Bool := dataLt (.str a) (.str b)
theorem leS_iff {a b : Str} : leS a b ↔ ltS b a = false := le_iff (k := PyData.str)
theorem strInj (a b : Str) (h : keyToks (.str a) = keyToks (.str b)) : a = b := by
  have h : [Sum.inr (α := Int) a.cps.toList] = [Sum.inr b.cps.toList] := h
  injection h with h _
  exact str_of_cps (Sum.inr.inj h)
theorem leS_anti {a b : Str} (h1 : leS a b) (h2 : leS b a) : a = b := le_anti strInj h1 h2
theorem leS_trans {a b c : Str} (h1 : leS a b) (h2 : leS b c) : leS a c := le_trans (k := PyData.str) h1 h2
theorem ltS_irr (a : Str) : ltS a a = false := PyProof.Rows.lex_irrefl _
theorem ltS_ne {a b : Str} (h : ltS a b = true) : a ≠ b := fun e => by rw [e, ltS_irr] at h; cases h
theorem ltS_le {a b : Str} (h : ltS a b = true) : leS a b := (le_total (k := PyData.str) a b).elim id fun q => by
  have := leS_iff.mp q
  rw [h] at this; cases this
def srtS (l : List Str) : List Str := l.mergeSort (dataLe false PyData.str)
theorem srtS_perm (l : List Str) : (srtS l).Perm l := List.mergeSort_perm _ _
theorem srtS_pw (l : List Str) : (srtS l).Pairwise leS := sort_pw l
theorem perm_sorted {α : Type} {le : α → α → Prop} (as : ∀ x y, le x y → le y x → x = y) : ∀ {E F : List α}, E.Perm F → E.Pairwise le → F.Pairwise le → E = F
  | [], F, p, _, _ => p.symm.eq_nil.symm
  | x :: E, [], p, _, _ => absurd p.eq_nil (by simp)
  | x :: E, y :: F, p, h1, h2 => by
    obtain ⟨a1, a2⟩ := List.pairwise_cons.mp h1
    obtain ⟨b1, b2⟩ := List.pairwise_cons.mp h2
    have e : x = y := by
      rcases List.mem_cons.mp (p.mem_iff.mp (.head _)) with e | m
      · exact e
      · rcases List.mem_cons.mp (p.mem_iff.mpr (.head F)) with e | m2
        · exact e.symm
        · exact as _ _ (a1 y m2) (b1 x m)
    subst e
    rw [perm_sorted as p.cons_inv a2 b2]
theorem srtS_eq {l m : List Str} (p : l.Perm m) : srtS l = srtS m := perm_sorted (fun _ _ => leS_anti) ((srtS_perm l).trans (p.trans (srtS_perm m).symm)) (srtS_pw l) (srtS_pw m)
theorem srtS_self {l : List Str} (h : l.Pairwise leS) : srtS l = l := perm_sorted (fun _ _ => leS_anti) (srtS_perm l) (srtS_pw l) h
theorem str_sorted {t : D} {l : List Str} {R : Sl → Prop} (ht : seqOf t = some (l.map .str)) (h : R (.ow (.lst ((srtS l).map .str)))) : sortedD [t] R := by
  unfold sortedD
  simp only [ht, toPs_map D.str PyData.str (fun _ => rfl) l]
  have e : sortD (l.map .str) = (srtS l).map .str := by
    unfold sortD sortBy srtS
    refine (List.map_mergeSort fun a _ b _ => ?_).symm
    rfl
  rw [e]
  refine ⟨⟨fun d hd d' hd' => ?_, .inr fun d hd => ?_, fun d hd => ?_⟩, h⟩
  · obtain ⟨a, _, rfl⟩ := List.mem_map.mp hd
    obtain ⟨b, _, rfl⟩ := List.mem_map.mp hd'
    rfl
  · obtain ⟨a, _, rfl⟩ := List.mem_map.mp hd
    exact ⟨nofun, nofun⟩
  · obtain ⟨a, _, rfl⟩ := List.mem_map.mp hd
    exact Nat.zero_le _
/-! ### a lot within another one -/
def within : List Str → List Str → Bool
  | [], _ => true
  | n :: l, o => match o.dropWhile fun x => ltS x n with
    | [] => false
    | m :: o' => if m = n then within l o' else false
theorem drop_split (p : Str → Bool) : ∀ o : List Str, ∃ u, o = u ++ o.dropWhile p ∧ ∀ x ∈ u, p x = true
  | [] => ⟨[], rfl, fun x h => by cases h⟩
  | x :: o => by
    rw [List.dropWhile_cons]
    cases hp : p x with
    | true =>
      obtain ⟨u, e, h⟩ := drop_split p o
      rw [if_pos rfl]
      exact ⟨x :: u, by rw [List.cons_append, ← e], fun y m => (List.mem_cons.mp m).elim (fun q => by rw [q]; exact hp) (h y)⟩
    | false =>
      rw [if_neg (by simp)]
      exact ⟨[], rfl, fun y h => by cases h⟩
theorem drop_head {p : Str → Bool} : ∀ {o : List Str} {m : Str} {o' : List Str}, o.dropWhile p = m :: o' → p m = false
  | [], _, _, h => by cases h
  | x :: o, m, o', h => by
    rw [List.dropWhile_cons] at h
    cases hp : p x with
    | true => rw [hp, if_pos rfl] at h; exact drop_head h
    | false => rw [hp, if_neg (by simp)] at h; cases h; exact hp
theorem within_iff : ∀ {l o : List Str}, l.Pairwise leS → o.Pairwise leS → (within l o = true ↔ ∀ s, l.count s ≤ o.count s)
  | [], o, _, _ => ⟨fun _ s => by rw [List.count_nil]; exact Nat.zero_le _, fun _ => rfl⟩
  | n :: l, o, hl, ho => by
    obtain ⟨l1, l2⟩ := List.pairwise_cons.mp hl
    obtain ⟨u, eu, hu⟩ := drop_split (fun x => ltS x n) o
    have cu : ∀ s, leS n s → u.count s = 0 := fun s hs => List.count_eq_zero.mpr fun m => by
      have h1 := hu s m
      have h2 := leS_iff.mp hs
      rw [show ltS s n = true from h1] at h2; cases h2
    unfold within
    cases ed : o.dropWhile fun x => ltS x n with
    | nil =>
      rw [ed, List.append_nil] at eu
      refine ⟨fun h => (by cases h), fun h => ?_⟩
      have := h n
      rw [List.count_cons_self, eu, cu n (leS_iff.mpr (ltS_irr n))] at this
      omega
    | cons m o' =>
      rw [ed] at eu
      have hm := drop_head ed
      have ho' : (m :: o').Pairwise leS := by rw [eu] at ho; exact (List.pairwise_append.mp ho).2.1
      obtain ⟨o1, o2⟩ := List.pairwise_cons.mp ho'
      have ih := within_iff l2 o2
      by_cases e : m = n
      · subst e
        simp only [if_true]
        rw [ih]
        constructor
        · intro h s
          have := h s
          rw [eu, List.count_append, List.count_cons, List.count_cons]
          omega
        · intro h s
          have := h s
          by_cases q : s ∈ l
          · have z := cu s (l1 s q)
            rw [eu, List.count_append, z, List.count_cons, List.count_cons] at this
            omega
          · rw [List.count_eq_zero.mpr q]; exact Nat.zero_le _
      · simp only [if_neg e]
        refine ⟨fun h => (by cases h), fun h => ?_⟩
        exfalso
        have h1 := h n
        rw [List.count_cons_self, eu, List.count_append, cu n (leS_iff.mpr (ltS_irr n)), List.count_cons] at h1
        have hb : (m == n) = false := beq_eq_false_iff_ne.mpr e
        rw [hb] at h1
        have pos : 0 < o'.count n := by simp at h1; omega
        have hin := List.count_pos_iff.mp pos
        exact e (leS_anti (o1 n hin) (leS_iff.mpr hm))
/-! ### covering -/
def cO (x y : OR) : Bool := decide (x.1 ≤ y.1) && x.2.all fun s => decide (x.2.count s ≤ y.2.count s)
theorem cO_iff {x y : OR} : cO x y = true ↔ x.1 ≤ y.1 ∧ ∀ s, x.2.count s ≤ y.2.count s := by
  unfold cO
  rw [Bool.and_eq_true, decide_eq_true_eq, List.all_eq_true]
  refine and_congr_right fun _ => ⟨fun h s => ?_, fun h s _ => decide_eq_true (h s)⟩
  by_cases q : s ∈ x.2
  · exact of_decide_eq_true (h s q)
  · rw [List.count_eq_zero.mpr q]; exact Nat.zero_le _
theorem cO_refl (x : OR) : cO x x = true := cO_iff.mpr ⟨Int.le_refl _, fun _ => Nat.le_refl _⟩
theorem cO_trans (x y z : OR) (h : cO x y = true) (g : cO y z = true) : cO x z = true := by
  rw [cO_iff] at *
  exact ⟨Int.le_trans h.1 g.1, fun s => Nat.le_trans (h.2 s) (g.2 s)⟩
theorem count_len : ∀ {l m : List Str}, (∀ s, l.count s ≤ m.count s) → l.length ≤ m.length ∧ (l.length = m.length → l.Perm m)
  | [], m, _ => ⟨Nat.zero_le _, fun e => by rw [List.length_eq_zero_iff.mp e.symm]⟩
  | a :: l, m, h => by
    have ha : a ∈ m := List.count_pos_iff.mp (by have := h a; rw [List.count_cons_self] at this; omega)
    have pm := List.perm_cons_erase ha
    obtain ⟨h1, h2⟩ := count_len (l := l) (m := m.erase a) fun s => by
      have := h s
      rw [pm.count_eq s, List.count_cons, List.count_cons] at this
      omega
    have e := pm.length_eq
    simp only [List.length_cons] at *
    exact ⟨by omega, fun q => ((h2 (by omega)).cons a).trans pm.symm⟩
def nO (x : OR) : OR := (x.1, srtS x.2)
def Srtd (x : OR) : Prop := x.2.Pairwise leS
theorem nO_srtd (x : OR) : Srtd (nO x) := srtS_pw _
theorem cO_anti {x y : OR} (hx : Srtd x) (hy : Srtd y) (h : cO x y = true) (g : cO y x = true) : x = y := by
  rw [cO_iff] at h g
  have p := (count_len h.2).2 (Nat.le_antisymm (count_len h.2).1 (count_len g.2).1)
  exact Prod.ext (Int.le_antisymm h.1 g.1) (perm_sorted (fun _ _ => leS_anti) p hx hy)
/-- the least that falls -/
def szO (x : OR) : Int := x.1 + x.2.length
theorem szO_mono {x y : OR} (hx : Srtd x) (hy : Srtd y) (h : cO y x = true) (ne : y ≠ x) : szO y < szO x := by
  rw [cO_iff] at h
  have l := (count_len h.2).1
  unfold szO
  by_cases e : y.2.length = x.2.length ∧ y.1 = x.1
  · exact absurd (Prod.ext e.2 (perm_sorted (fun _ _ => leS_anti) ((count_len h.2).2 e.1) hy hx)) ne
  · have := h.1
    omega
/-- the key by price and size -/
def datK (x : OR) : PyData := .tuple [.int x.1, .int x.2.length, .tuple (x.2.map .str)]
theorem datK_toks (x : OR) : keyToks (datK x) = Sum.inl 1 :: Sum.inl x.1 :: Sum.inl 1 :: Sum.inl (x.2.length : Int) :: Sum.inl 1 :: (keyToksAll (x.2.map .str) ++ [Sum.inl 0]) := rfl
theorem datK_cov {x y : OR} (hx : Srtd x) (hy : Srtd y) (h : leD' datK x y) (g : cO y x = true) : y = x := by
  have h := le_iff.mp h
  rw [cO_iff] at g
  have l := (count_len g.2).1
  rw [datK_toks, datK_toks, PyProof.Rows.lex_self (O := PyProof.Rows.itemOrd)] at h
  by_cases e : y.1 = x.1
  · rw [e, PyProof.Rows.lex_self (O := PyProof.Rows.itemOrd), PyProof.Rows.lex_self (O := PyProof.Rows.itemOrd)] at h
    by_cases e2 : y.2.length = x.2.length
    · exact Prod.ext e (perm_sorted (fun _ _ => leS_anti) ((count_len g.2).2 e2) hy hx)
    · rw [PyProof.Rows.lex_diff (O := PyProof.Rows.itemOrd) (fun q => e2 (by have := Sum.inl.inj q; omega))] at h
      have h : decide ((y.2.length : Int) < x.2.length) = false := h
      have := of_decide_eq_false h
      omega
  · rw [PyProof.Rows.lex_diff (O := PyProof.Rows.itemOrd) (fun q => e (Sum.inl.inj q))] at h
    have h : decide (y.1 < x.1) = false := h
    have := of_decide_eq_false h
    omega
end K06

namespace K06
open PySem DL
open L2 (V FnOk FunD CX0 defArgs defBody defScope SqL FnScope KBn)
local macro_rules | `(tactic| walk_at "SI") => `(tactic| simp only [wAls, wAug, wTMeth, tmD, wLcv, wSrs, wSrk, wSrl, wLc2, wTs, wCaps, wLMeth, lmD, wEnm, revD, rg1D, rg2D, wCMeth, wStf, putD, fldD, attrD, mkF, dflF, kwF, shs, pickG, pickO, consO, Option.map_some, List.take_nil, wMeth, methD, joinD, strsOf_map, wSs_cons, wSs_nil, Later_nil, wS, wE, wT, wI, wX, wVl, wOl, wAv, mk3, mkT, mkI, opd, wIf, wOr, DL.wAnd, DL.wNot, wBool, wTru, wUn, wOp, wFn, wCons, wNil, wVCons, wVNil, wAvNil, wAvVal, wAvBor, wCall2, wC, wVar, wAndV, wOrV, wNotV, wIte, wLst, wTup, wDct, wChn, wSlc, partE, varOp, asOp, entry, content, resO, resOs, frz, wRet, wRetV, wRetN, wNext, wDrop, wSet, wUnp, wPar, wSti, wBrk, wCnt, wMut, muD_append, muD_insert, muD_pop0, muD_pop1, mAppend, mInsert, mPop, mPopAt, wSeq', wFor, wWhile, wLc, wRng1, wRng2, wZip, itemsD, nth, bindTg, bindTgs, noOw, wipeS, restore, wback_val, wback_nil, wback_bor, List.nodup_nil, List.nodup_cons, List.not_mem_nil, bors, resA, pairD, keyD, le_size, List.replicate_succ, List.replicate_zero, List.length_cons, List.length_nil, List.cons_append, List.nil_append, List.getElem?_cons_zero, List.getElem?_cons_succ, List.getElem?_nil, List.set_cons_zero, List.set_cons_succ, Option.isSome_some, List.map_cons, List.map_nil, List.all_cons, List.all_nil, List.any_cons, List.any_nil, Nat.reduceSub, Nat.reduceAdd, Nat.reduceLT, Nat.reduceLeDiff, reduceIte, reduceCtorEq, Bool.not_true, Bool.not_false, Bool.false_eq_true, and_true, true_and, List.drop_zero, List.drop_succ_cons, List.take_succ_cons, List.take_zero, maxD2, minD2, lenD, intD, boolD, strD, listD, tupleD, allD, anyD, blsD, cmpB, cmpD, binD, addD, subD, mulD, fdivD, modD, powD, negD, idxD, slcD, truD, ltD, gtD, leD, geD, eqD_int, eqD_bl, eqD_str, eqD_non, L2.atI, ixN_lit, Int.reduceToNat, Option.bind_some, List.length_map, List.set_cons_zero, List.set_cons_succ, isNon, inD_ss, inStr_one, isiD, seqOf, lstOf, String.reduceNe, String.reduceEq, ne_eq, not_false_eq_true, not_true_eq_false, Bool.or_true, Bool.or_false, Bool.true_or, Bool.false_or, Bool.and_true, Bool.and_false, Bool.true_and, Bool.false_and, isT_NoneType_bool, isT_NoneType_int, isT_NoneType_str, isT_NoneType_list, isT_NoneType_tuple, isT_NoneType_dict, isT_bool_bool, isT_bool_int, isT_bool_str, isT_bool_list, isT_bool_tuple, isT_bool_dict, isT_int_bool, isT_int_int, isT_int_str, isT_int_list, isT_int_tuple, isT_int_dict, isT_str_bool, isT_str_int, isT_str_str, isT_str_list, isT_str_tuple, isT_str_dict, isT_list_bool, isT_list_int, isT_list_str, isT_list_list, isT_list_tuple, isT_list_dict, isT_tuple_bool, isT_tuple_int, isT_tuple_str, isT_tuple_list, isT_tuple_tuple, isT_tuple_dict, isT_dict_bool, isT_dict_int, isT_dict_str, isT_dict_list, isT_dict_tuple, isT_dict_dict, tyN_non, tyN_bl, tyN_int, tyN_str, tyN_lst, tyN_tup, tyN_ftup, tyN_klst, tyN_dic])
local macro_rules | `(tactic| walk_at "ST") => `(tactic| (refine later ?_; simp only [wAls, wAug, wTMeth, tmD, wLcv, wSrs, wSrk, wSrl, wLc2, wTs, wCaps, wLMeth, lmD, wEnm, revD, rg1D, rg2D, wCMeth, wStf, putD, fldD, attrD, mkF, dflF, kwF, shs, pickG, pickO, consO, Option.map_some, List.take_nil, wMeth, methD, joinD, strsOf_map, wSs_cons, wSs_nil, Later_nil, wS, wE, wT, wI, wX, wVl, wOl, wAv, mk3, mkT, mkI, opd, wIf, wOr, DL.wAnd, DL.wNot, wBool, wTru, wUn, wOp, wFn, wCons, wNil, wVCons, wVNil, wAvNil, wAvVal, wAvBor, wCall2, wC, wVar, wAndV, wOrV, wNotV, wIte, wLst, wTup, wDct, wChn, wSlc, partE, varOp, asOp, entry, content, resO, resOs, frz, wRet, wRetV, wRetN, wNext, wDrop, wSet, wUnp, wPar, wSti, wBrk, wCnt, wMut, muD_append, muD_insert, muD_pop0, muD_pop1, mAppend, mInsert, mPop, mPopAt, wSeq', wFor, wWhile, wLc, wRng1, wRng2, wZip, itemsD, nth, bindTg, bindTgs, noOw, wipeS, restore, wback_val, wback_nil, wback_bor, List.nodup_nil, List.nodup_cons, List.not_mem_nil, bors, resA, pairD, keyD, le_size, List.replicate_succ, List.replicate_zero, List.length_cons, List.length_nil, List.cons_append, List.nil_append, List.getElem?_cons_zero, List.getElem?_cons_succ, List.getElem?_nil, List.set_cons_zero, List.set_cons_succ, Option.isSome_some, List.map_cons, List.map_nil, List.all_cons, List.all_nil, List.any_cons, List.any_nil, Nat.reduceSub, Nat.reduceAdd, Nat.reduceLT, Nat.reduceLeDiff, reduceIte, reduceCtorEq, Bool.not_true, Bool.not_false, Bool.false_eq_true, and_true, true_and, List.drop_zero, List.drop_succ_cons, List.take_succ_cons, List.take_zero, maxD2, minD2, lenD, intD, boolD, strD, listD, tupleD, allD, anyD, blsD, cmpB, cmpD, binD, addD, subD, mulD, fdivD, modD, powD, negD, idxD, slcD, truD, ltD, gtD, leD, geD, eqD_int, eqD_bl, eqD_str, eqD_non, L2.atI, ixN_lit, Int.reduceToNat, Option.bind_some, List.length_map, List.set_cons_zero, List.set_cons_succ, isNon, inD_ss, inStr_one, isiD, seqOf, lstOf, String.reduceNe, String.reduceEq, ne_eq, not_false_eq_true, not_true_eq_false, Bool.or_true, Bool.or_false, Bool.true_or, Bool.false_or, Bool.and_true, Bool.and_false, Bool.true_and, Bool.false_and, isT_NoneType_bool, isT_NoneType_int, isT_NoneType_str, isT_NoneType_list, isT_NoneType_tuple, isT_NoneType_dict, isT_bool_bool, isT_bool_int, isT_bool_str, isT_bool_list, isT_bool_tuple, isT_bool_dict, isT_int_bool, isT_int_int, isT_int_str, isT_int_list, isT_int_tuple, isT_int_dict, isT_str_bool, isT_str_int, isT_str_str, isT_str_list, isT_str_tuple, isT_str_dict, isT_list_bool, isT_list_int, isT_list_str, isT_list_list, isT_list_tuple, isT_list_dict, isT_tuple_bool, isT_tuple_int, isT_tuple_str, isT_tuple_list, isT_tuple_tuple, isT_tuple_dict, isT_dict_bool, isT_dict_int, isT_dict_str, isT_dict_list, isT_dict_tuple, isT_dict_dict, tyN_non, tyN_bl, tyN_int, tyN_str, tyN_lst, tyN_tup, tyN_ftup, tyN_klst, tyN_dic]))
def okS (z : Str) : Prop := z.length ≤ 1000 ∧ ∀ c ∈ z.cps.toList, c < 0x110000
def Thing (d : D) : Prop := tyN d ≠ "?" ∧ ∀ z, d = .str z → okS z
def letters : Str := "abcdefghijklmnopqrstuvwxyz"
def nameB : D → Bool
  | .str z => decide (1 ≤ z.length) && decide (z.length ≤ 8) && z.cps.toList.all fun c => decide (c ∈ letters.cps.toList)
  | _ => false
def F_is_name : FS := fun args R => ∃ d, args = [.sh d] ∧ Thing d ∧ ∀ o, R (.sh (.bl (nameB d))) o
def C_is_name (lv : Nat) : CC := { N := ["value", "char"], sc := defScope (top 8), lv := lv, kp := [], brw := [], ali := [], calls := [], bis := [("len", 1), ("all", 1)], cons := ["LONGEST", "LETTERS"], meths := [], keys := [], lam := false, fr := FR }
def b_is_name : List S := [(.ifs (.or (.nt (.isi (.var 0) ["str"])) (.nt (.chn .LtE .LtE (.int 1) (.bi 0 [(.var 0)]) (.con 0)))) [(.ret (.bl false))] []), (.ret (.bi 1 [(.lc (.cmp .In (.var 1) (.con 1)) (.nm 1) (.var 0) [] [1])]))]
theorem sc_is_name : FnScope ["value", "char"] ["value"] (defScope (top 8)) := ⟨rfl, rfl, rfl, by decide +kernel, rfl, by decide +kernel, by decide +kernel⟩
theorem d_is_name (lv : Nat) : DefC (C_is_name lv) ["value"] (defArgs (top 8)) (defBody (top 8)) (defScope (top 8)) b_is_name := ⟨sc_is_name, rfl, rfl, (show ∀ i ∈ ([] : List Nat), i < 1 by decide), by kernel_rfl⟩
abbrev M_is_name : Sem := mkSem [] [] [lenD, allD] [.int 8, .str "abcdefghijklmnopqrstuvwxyz"] [] (atOf AT)
theorem isT_str {d : D} (h : tyN d ≠ "?") (hn : ∀ z, d ≠ .str z) : isT (tyN d) "str" = false := by
  cases d <;> first | rfl | exact absurd rfl (hn _) | exact absurd rfl h
theorem p_is_name : ∀ args R, F_is_name args R → runF [] 1 2 (wSs M_is_name b_is_name) args R := by
  rintro args R ⟨d, rfl, hd, hR⟩
  refine ⟨rfl, ?_⟩
  unfold b_is_name
  by_cases hs : ∃ z, d = .str z
  · obtain ⟨z, rfl⟩ := hs
    obtain ⟨hl, hc⟩ := hd.2 z rfl
    walk_at "SI"
    refine ⟨Nat.le_trans hl (by decide), ?_⟩
    have nf : ¬ (1 ≤ (z.length : Int) ∧ (z.length : Int) ≤ 8) → nameB (.str z) = false := fun h => by
      show (decide (1 ≤ z.length) && decide (z.length ≤ 8) && _) = false
      by_cases c1 : 1 ≤ z.length
      · by_cases c2 : z.length ≤ 8
        · exact absurd ⟨by omega, by omega⟩ h
        · simp [c2]
      · simp [c1]
    split
    · rename_i h1
      have h1 := of_decide_eq_true h1
      split
      · rename_i h2
        rw [← nf fun h => by simp [h.2] at h2]
        exact hR _
      · rename_i h2
        have h2 : (z.length : Int) ≤ 8 := by simpa using h2
        walk_at "ST"
        refine ⟨by rw [charsD_len]; exact Nat.le_trans hl (by decide), ?_⟩
        unfold charsD
        refine lcGo_mapg _ (fun c => .bl (decide (c ∈ letters.cps.toList))) _ _ (fun c hc => ⟨_, rfl, rfl, fun Q q => ?_⟩) ?_
        · walk_at "SI"
          exact q _ rfl
        · walk_at "SI"
          rw [show (z.cps.toList.map fun c => D.bl (decide (c ∈ letters.cps.toList))) = (z.cps.toList.map fun c => decide (c ∈ letters.cps.toList)).map D.bl from by rw [List.map_map]; rfl]
          simp only [blsOf_map]
          have e : nameB (.str z) = (z.cps.toList.map fun c => decide (c ∈ letters.cps.toList)).all id := by
            show (decide (1 ≤ z.length) && decide (z.length ≤ 8) && _) = _
            rw [decide_eq_true (by omega : 1 ≤ z.length), decide_eq_true (by omega : z.length ≤ 8), List.all_map]
            rfl
          rw [← e]
          exact hR _
    · rename_i h1
      rw [← nf fun h => by simp [h.1] at h1]
      exact hR _
  · have hn : ∀ z, d ≠ .str z := fun z e => hs ⟨z, e⟩
    walk_at "SI"
    rw [isT_str hd.1 hn]
    refine ⟨hd.1, ?_⟩
    walk_at "SI"
    have e : nameB d = false := by
      cases d <;> first | rfl | exact absurd rfl (hn _)
    rw [e] at hR
    exact hR _
theorem ok_is_name {P : Program} {w : World} {K : PySem.W.Frag} {mg : Str → Option Value} {base : Heap} (V : VE K mg base) : ∃ fd, FunD K "is_name" "is_name" (defArgs (top 8)) (defBody (top 8)) (defScope (top 8)) [] [] (He.ga K "is_name") fd ∧ FnOk P w K mg base CX0 1 (He.ga K "is_name") fd ["value"] (spOf K F_is_name) := by
  obtain ⟨fd, Fd⟩ := V.def_ 0 (d := dd "is_name" 8 []) rfl
  exact ⟨fd, Fd, fn_ok Fd (d_is_name 0) (mkTab .nil (.cons rfl (.cons rfl .nil)) (show ([("len", 1), ("all", 1)] : List (Str × Nat)).all (fun c => decide (c.1 ∈ FR)) = true by decide +kernel) (.cons (V.int 22 rfl) (.cons (V.str 23 rfl) .nil)) .nil (at_ok V) V.free rfl) (fun h => by cases h) rfl p_is_name⟩
theorem cj_is_name_1 {P : Program} {w : World} {K : PySem.W.Frag} {mg : Str → Option Value} {base : Heap} {lv : Nat} (V : VE K mg base) (h : 1 ≤ lv) : CallJ P w K mg base lv "is_name" 1 [] F_is_name := by
  obtain ⟨fd, Fd, F⟩ := ok_is_name (P := P) (w := w) (base := base) V
  exact callJ F h (V.glo 0 rfl) Fd.kp (FunD.bindsN Fd (fun _ _ _ _ _ _ us hl => match us, hl with | [_], _ => rfl)) 1
/-! ### rows -/
theorem zip_ints : ∀ l m : List Int, zipD (l.map .int) (m.map .int) = (l.zip m).map fun p => D.tup [.int p.1, .int p.2]
  | [], m => by cases m <;> rfl
  | a :: l, [] => rfl
  | a :: l, b :: m => by
    show D.tup [.int a, .int b] :: zipD (l.map .int) (m.map .int) = _
    rw [zip_ints l m]; rfl
theorem CI_enc (x : IR) : CI.enc x = .tup ((x.1 :: x.2).map .int) := rfl
def C__at_most (lv : Nat) : CC := { N := ["row", "other", "left", "right"], sc := defScope (top 13), lv := lv, kp := [], brw := [], ali := [], calls := [], bis := [("all", 1)], cons := [], meths := [], keys := [], lam := false, fr := FR }
def b__at_most : List S := [(.ret (.bi 0 [(.lc (.cmp .LtE (.var 2) (.var 3)) (.tp [(.nm 2), (.nm 3)]) (.zip [(.var 0), (.var 1)]) [] [2, 3])]))]
theorem sc__at_most : FnScope ["row", "other", "left", "right"] ["row", "other"] (defScope (top 13)) := ⟨rfl, rfl, rfl, by decide +kernel, rfl, by decide +kernel, by decide +kernel⟩
theorem d__at_most (lv : Nat) : DefC (C__at_most lv) ["row", "other"] (defArgs (top 13)) (defBody (top 13)) (defScope (top 13)) b__at_most := ⟨sc__at_most, rfl, rfl, (show ∀ i ∈ ([] : List Nat), i < 2 by decide), by kernel_rfl⟩
abbrev M__at_most : Sem := mkSem [] [] [allD] [] [] (atOf AT)
def F__at_most : FS := fun args R => ∃ x y : IR, args = [.sh (CI.enc x), .sh (CI.enc y)] ∧ x.2.length ≤ 1000 ∧ ∀ o, R (.sh (.bl (cI x y))) o
theorem p__at_most : ∀ args R, F__at_most args R → runF [] 2 4 (wSs M__at_most b__at_most) args R := by
  rintro args R ⟨x, y, rfl, hl, hR⟩
  refine ⟨rfl, ?_⟩
  unfold b__at_most
  rw [CI_enc, CI_enc]
  walk_at "SI"
  rw [← List.map_cons (f := D.int), ← List.map_cons (f := D.int), zip_ints]
  refine ⟨by rw [List.length_map, List.length_zip]; exact Nat.le_trans (show _ ≤ 1001 from Nat.le_trans (Nat.min_le_left _ _) (by simp only [List.length_cons]; omega)) (by decide), ?_⟩
  refine lcGo_mapg (fun p : Int × Int => D.tup [.int p.1, .int p.2]) (fun p => .bl (decide (p.1 ≤ p.2))) _ _ (fun p _ => ⟨_, rfl, rfl, fun Q q => ?_⟩) ?_
  · walk_at "SI"
    exact q _ rfl
  rw [show ((((x.1 :: x.2).zip (y.1 :: y.2))).map fun p => D.bl (decide (p.1 ≤ p.2))) = (((x.1 :: x.2).zip (y.1 :: y.2)).map fun p => decide (p.1 ≤ p.2)).map D.bl by rw [List.map_map]; rfl]
  have e : ((((x.1 :: x.2).zip (y.1 :: y.2)).map fun p => decide (p.1 ≤ p.2)).all id) = cI x y := by
    rw [List.all_map]
    exact cL_zip (x.1 :: x.2) (y.1 :: y.2)
  simp only [blsOf_map, e]
  exact hR _
theorem ok__at_most {P : Program} {w : World} {K : PySem.W.Frag} {mg : Str → Option Value} {base : Heap} (V : VE K mg base) : ∃ fd, FunD K "_at_most" "_at_most" (defArgs (top 13)) (defBody (top 13)) (defScope (top 13)) [] [] (He.ga K "_at_most") fd ∧ FnOk P w K mg base CX0 1 (He.ga K "_at_most") fd ["row", "other"] (spOf K F__at_most) := by
  obtain ⟨fd, Fd⟩ := V.def_ 1 (d := dd "_at_most" 13 []) rfl
  exact ⟨fd, Fd, fn_ok Fd (d__at_most 0) (mkTab .nil (.cons rfl .nil) (show ([("all", 1)] : List (Str × Nat)).all (fun c => decide (c.1 ∈ FR)) = true by decide +kernel) .nil .nil (at_ok V) V.free rfl) (fun h => by cases h) rfl p__at_most⟩
theorem cj__at_most_2 {P : Program} {w : World} {K : PySem.W.Frag} {mg : Str → Option Value} {base : Heap} {lv : Nat} (V : VE K mg base) (h : 1 ≤ lv) : CallJ P w K mg base lv "_at_most" 2 [] F__at_most := by
  obtain ⟨fd, Fd, F⟩ := ok__at_most (P := P) (w := w) (base := base) V
  exact callJ F h (V.glo 1 rfl) Fd.kp (FunD.bindsN Fd (fun _ _ _ _ _ _ us hl => match us, hl with | [_, _], _ => rfl)) 2
theorem cut_last {α : Type} (A : List α) (x : α) : cutL (A ++ [x]) (some (-1)) none = [x] := by
  unfold cutL
  have e : HT.sIx (A ++ [x]).length 0 (some (-1)) = A.length := by
    unfold HT.sIx
    simp only [List.length_append, List.length_singleton]
    split <;> omega
  rw [e, HT.sIx_none, List.drop_left, List.length_append, List.length_singleton]
  exact List.take_of_length_le (by rw [List.length_singleton]; omega)
theorem cut_nil {α : Type} : cutL ([] : List α) (some (-1)) none = [] := rfl
def ThinR (L : List IR) (r : D) : Prop := (L = [] ∧ r = .non) ∨ ∃ T : List IR, T ≠ [] ∧ r = .tup (T.map CI.enc) ∧ Thin (fun x y => cI x y = true) L T ∧ T.Pairwise CI.lt ∧ T.length ≤ L.length
def C_thin_rows (lv : Nat) : CC := { N := ["rows", "kept", "row", "rivals", "rival"], sc := defScope (top 14), lv := lv, kp := [], brw := [3], ali := [1], calls := [("_at_most", 2, [])], bis := [("sorted", 1), ("len", 1), ("any", 1), ("tuple", 1)], cons := [], meths := [], keys := [], lam := false, fr := FR }
def b_thin_rows : List S := [(.set 1 (.lst [])), (.for (.nm 2) (.bi 0 [(.var 0)]) [(.set 3 (.ite (.cmp .LtE (.bi 1 [(.var 2)]) (.int 2)) (.slc (.var 1) (.neg (.int 1)) .bad) (.als 1))), (.ifs (.nt (.bi 2 [(.lcv (.call 0 [(.var 4), (.var 2)] []) (.nm 4) 3 [] [4])])) [(.expr (.mut "append" 1 [(.var 2)]))] [])]), (.ret (.ite (.var 1) (.bi 3 [(.var 1)]) .non))]
theorem sc_thin_rows : FnScope ["rows", "kept", "row", "rivals", "rival"] ["rows"] (defScope (top 14)) := ⟨rfl, rfl, rfl, by decide +kernel, rfl, by decide +kernel, by decide +kernel⟩
theorem d_thin_rows (lv : Nat) : DefC (C_thin_rows lv) ["rows"] (defArgs (top 14)) (defBody (top 14)) (defScope (top 14)) b_thin_rows := ⟨sc_thin_rows, rfl, rfl, (show ∀ i ∈ ([] : List Nat), i < 1 by decide), by kernel_rfl⟩
abbrev M_thin_rows : Sem := mkSem [] [F__at_most] [sortedD, lenD, anyD, tupleD] [] [] (atOf AT)
def F_thin_rows : FS := fun args R => ∃ (t : D) (L : List IR) (w : Nat), args = [.sh t] ∧ seqOf t = some (L.map CI.enc) ∧ (∀ r ∈ L, r.2.length = w) ∧ w ≤ 10 ∧ L.length ≤ 1000 ∧ ∀ r, ThinR L r → ∀ o, R (.sh r) o
theorem concat_cases {α : Type} : ∀ K : List α, K = [] ∨ ∃ K' l, K = K' ++ [l]
  | [] => .inl rfl
  | a :: K => .inr (by
    rcases concat_cases K with rfl | ⟨K', l, rfl⟩
    · exact ⟨[], a, rfl⟩
    · exact ⟨a :: K', l, rfl⟩)
theorem any_bls {α : Type} (f : α → Bool) (L : List α) : (L.map fun x => D.bl (f x)) = (L.map f).map D.bl := by rw [List.map_map]; rfl
theorem p_thin_rows : ∀ args R, F_thin_rows args R → runF [] 1 5 (wSs M_thin_rows b_thin_rows) args R := by
  rintro args R ⟨t, L, w, rfl, ht, hw, hw10, hl, hR⟩
  refine ⟨rfl, ?_⟩
  unfold b_thin_rows
  walk_at "SI"
  walk_at "ST"
  refine CI.srt ht fun S pm so => ?_
  walk_at "SI"
  have hwS : ∀ r ∈ S, r.2.length = w := fun r hr => hw r (pm.mem_iff.mp hr)
  have hlS : S.length = L.length := pm.length_eq
  refine forGo_ind (fun ds s => ∃ (A B K : List IR) (c a2 a3 : Sl), S = A ++ B ∧ ds = B.map CI.enc ∧ s = [.sh t, c, a2, a3, .no] ∧ (c = .ow (.lst (K.map CI.enc)) ∨ 2 ≤ w ∧ ∃ a, c = .ow (.pin a (K.map CI.enc))) ∧ Grd (fun x y => cI x y = true) A B K ∧ K.Pairwise CI.le ∧ K.length ≤ A.length) ?_ ?_ _ _ ⟨[], S, [], _, .no, .no, rfl, rfl, rfl, .inl rfl, ⟨fun x h => (by cases h), .nil, fun x h => (by cases h), fun x h => (by cases h)⟩, .nil, Nat.le_refl _⟩
  · rintro s ⟨A, B, K, c, a2, a3, h0, h1, rfl, hc, g, hp, hk⟩
    cases B with
    | cons x B => cases h1
    | nil =>
    rw [List.append_nil] at h0
    subst h0
    have fin : (K = [] → ∀ o, R (.sh .non) o) ∧ (K ≠ [] → ∀ o, R (.sh (.tup (K.map CI.enc))) o) := by
      constructor
      · intro hK o
        refine hR _ (.inl ⟨?_, rfl⟩) o
        cases L with
        | nil => rfl
        | cons z L =>
          obtain ⟨y, hy, _⟩ := g.cov z (pm.mem_iff.mpr (.head _))
          rw [hK] at hy; cases hy
      · intro hK o
        exact hR _ (.inr ⟨K, hK, rfl, g.thin.perm (fun x => pm.mem_iff) fun x => Iff.rfl, (hp.and g.pw).imp fun {a b} h => ⟨h.1, fun e => h.2.1 (by rw [e]; exact cI_refl b)⟩, by omega⟩) o
    refine later ?_
    rcases hc with rfl | ⟨_, a, rfl⟩
    · walk_at "SI"
      cases K with
      | nil => exact fin.1 rfl _
      | cons k K => exact .inl (fin.2 (by simp) _)
    · walk_at "SI"
      cases K with
      | nil => exact fin.1 rfl _
      | cons k K => exact .inl (fin.2 (by simp) _)
  · rintro d ds s ⟨A, B, K, c, a2, a3, h0, h1, rfl, hc, g, hp, hk⟩ J hJ
    cases B with
    | nil => cases h1
    | cons z B =>
    cases h1
    refine ⟨_, rfl, ?_⟩
    have hz := hwS z (by rw [h0]; exact List.mem_append_right _ (.head _))
    have so' := so
    rw [h0] at so'
    obtain ⟨_, soB, soX⟩ := List.pairwise_append.mp so'
    have lz : ∀ x ∈ K, CI.le x z := fun x hx => soX x (g.sub x hx) z (.head _)
    have hlenK : (K.map CI.enc).length < sizeLine := Nat.lt_of_le_of_lt (show (K.map CI.enc).length ≤ 1000 by rw [List.length_map]; have := congrArg List.length h0; simp only [List.length_append, List.length_cons] at this; omega) (by decide)
    have skip : ∀ (c a3 : Sl), (c = .ow (.lst (K.map CI.enc)) ∨ 2 ≤ w ∧ ∃ a, c = .ow (.pin a (K.map CI.enc))) → (∃ y ∈ K, cI y z = true) → J [.sh t, c, .sh (CI.enc z), a3, .no] := fun c a3 hc h =>
      hJ _ ⟨A ++ [z], B, K, c, _, a3, by rw [h0, List.append_assoc]; rfl, rfl, rfl, hc, g.skip h, hp, by rw [List.length_append]; exact Nat.le_succ_of_le hk⟩
    have push : ∀ (c a3 : Sl), (c = .ow (.lst (K.map CI.enc ++ [CI.enc z])) ∨ 2 ≤ w ∧ ∃ a, c = .ow (.pin a (K.map CI.enc ++ [CI.enc z]))) → (¬ ∃ y ∈ K, cI y z = true) → J [.sh t, c, .sh (CI.enc z), a3, .no] := fun c a3 hc h => by
      refine hJ _ ⟨A ++ [z], B, K ++ [z], c, _, a3, by rw [h0, List.append_assoc]; rfl, rfl, rfl, by rw [List.map_append]; exact hc, g.push cI_refl h fun v hv q => ?_, ?_, by rw [List.length_append, List.length_append]; exact Nat.succ_le_succ hk⟩
      · have h3 := (List.pairwise_cons.mp soB).1 v hv
        have lv := hwS v (by rw [h0]; exact List.mem_append_right _ (.tail _ hv))
        exact le_anti CI.inj (cI_le (by rw [lv, hz]) q) h3
      · rw [List.pairwise_append]
        exact ⟨hp, List.pairwise_singleton _ _, fun x hx y hy => by rw [List.mem_singleton.mp hy]; exact lz x hx⟩
    have hlz : ((z.2.map D.int).length + 1 : Nat) = w + 1 := by rw [List.length_map, hz]
    by_cases w1 : w ≤ 1
    · obtain rfl : c = .ow (.lst (K.map CI.enc)) := by
        rcases hc with e | ⟨e, _⟩
        · exact e
        · omega
      rw [CI_enc z]
      walk_at "SI"
      rw [if_pos (decide_eq_true (by rw [hz]; omega))]
      rcases concat_cases K with rfl | ⟨K', l, rfl⟩
      · simp only [List.map_nil, cut_nil]
        walk_at "ST"
        refine ⟨hlenK, push _ _ (.inl rfl) fun ⟨y, hy, _⟩ => by cases hy⟩
      · have ec : cutL (List.map CI.enc (K' ++ [l])) (some (-1)) none = [l].map CI.enc := by rw [List.map_append]; exact cut_last _ _
        rw [ec]
        refine later ?_
        simp only [wAls, wAug, wTMeth, tmD, wLcv, wSrs, wSrk, wSrl, wLc2, wTs, wCaps, wLMeth, lmD, wEnm, revD, rg1D, rg2D, wCMeth, wStf, putD, fldD, attrD, mkF, dflF, kwF, shs, pickG, pickO, consO, Option.map_some, List.take_nil, wMeth, methD, joinD, strsOf_map, wSs_cons, wSs_nil, Later_nil, wS, wE, wT, wI, wX, wVl, wOl, wAv, mk3, mkT, mkI, opd, wIf, wOr, DL.wAnd, DL.wNot, wBool, wTru, wUn, wOp, wFn, wCons, wNil, wVCons, wVNil, wAvNil, wAvVal, wAvBor, wCall2, wC, wVar, wAndV, wOrV, wNotV, wIte, wLst, wTup, wDct, wChn, wSlc, partE, varOp, asOp, entry, content, resO, resOs, frz, wRet, wRetV, wRetN, wNext, wDrop, wSet, wUnp, wPar, wSti, wBrk, wCnt, wMut, muD_append, muD_insert, muD_pop0, muD_pop1, mAppend, mInsert, mPop, mPopAt, wSeq', wFor, wWhile, wLc, wRng1, wRng2, wZip, itemsD, nth, bindTg, bindTgs, noOw, wipeS, restore, wback_val, wback_nil, wback_bor, List.nodup_nil, List.nodup_cons, List.not_mem_nil, bors, resA, pairD, keyD, le_size, List.replicate_succ, List.replicate_zero, List.length_cons, List.length_nil, List.cons_append, List.nil_append, List.getElem?_cons_zero, List.getElem?_cons_succ, List.getElem?_nil, List.set_cons_zero, List.set_cons_succ, Option.isSome_some, List.map_cons, List.map_nil, List.all_cons, List.all_nil, List.any_cons, List.any_nil, Nat.reduceSub, Nat.reduceAdd, Nat.reduceLT, Nat.reduceLeDiff, reduceIte, reduceCtorEq, Bool.not_true, Bool.not_false, Bool.false_eq_true, and_true, true_and, List.drop_zero, List.drop_succ_cons, List.take_succ_cons, List.take_zero, maxD2, minD2, lenD, intD, boolD, strD, listD, tupleD, allD, anyD, blsD, cmpB, cmpD, binD, addD, subD, mulD, fdivD, modD, powD, negD, idxD, slcD, truD, ltD, gtD, leD, geD, eqD_int, eqD_bl, eqD_str, eqD_non, L2.atI, ixN_lit, Int.reduceToNat, Option.bind_some, List.length_map, List.set_cons_zero, List.set_cons_succ, isNon, inD_ss, inStr_one, isiD, seqOf, lstOf, String.reduceNe, String.reduceEq, ne_eq, not_false_eq_true, not_true_eq_false, Bool.or_true, Bool.or_false, Bool.true_or, Bool.false_or, Bool.and_true, Bool.and_false, Bool.true_and, Bool.false_and, isT_NoneType_bool, isT_NoneType_int, isT_NoneType_str, isT_NoneType_list, isT_NoneType_tuple, isT_NoneType_dict, isT_bool_bool, isT_bool_int, isT_bool_str, isT_bool_list, isT_bool_tuple, isT_bool_dict, isT_int_bool, isT_int_int, isT_int_str, isT_int_list, isT_int_tuple, isT_int_dict, isT_str_bool, isT_str_int, isT_str_str, isT_str_list, isT_str_tuple, isT_str_dict, isT_list_bool, isT_list_int, isT_list_str, isT_list_list, isT_list_tuple, isT_list_dict, isT_tuple_bool, isT_tuple_int, isT_tuple_str, isT_tuple_list, isT_tuple_tuple, isT_tuple_dict, isT_dict_bool, isT_dict_int, isT_dict_str, isT_dict_list, isT_dict_tuple, isT_dict_dict, tyN_non, tyN_bl, tyN_int, tyN_str, tyN_lst, tyN_tup, tyN_ftup, tyN_klst, tyN_dic]
        refine lcGo_mapg CI.enc (fun x => .bl (cI x z)) [l] _ (fun p hp' => ⟨_, rfl, rfl, fun Q q => ?_⟩) ?_
        · walk_at "SI"
          exact ⟨p, z, rfl, by rw [List.mem_singleton.mp hp', hwS l (by rw [h0]; exact List.mem_append_left _ (g.sub l (List.mem_append_right _ (.head _))))]; omega, fun o => q _ rfl⟩
        rw [any_bls]
        simp only [blsOf_map]
        have e1 : (([l].map fun x => cI x z).any id) = cI l z := by simp
        rw [e1]
        cases hcl : cI l z with
        | true =>
          walk_at "SI"
          exact skip _ _ (.inl rfl) ⟨l, List.mem_append_right _ (.head _), hcl⟩
        | false =>
          walk_at "SI"
          refine ⟨by rw [List.length_map] at hlenK; exact hlenK, push _ _ (.inl rfl) fun ⟨y, hy, q⟩ => ?_⟩
          rw [last_rival w1 (fun x hx => hwS x (by rw [h0]; exact List.mem_append_left _ (g.sub x hx))) hz ((hp.and g.pw).imp fun h => ⟨h.1, h.2.1⟩) (lz l (List.mem_append_right _ (.head _))) hy q] at hcl
          cases hcl
    · have go : ∀ (a : Addr) (hc2 : 2 ≤ w), Later M_thin_rows
          [DL.S.ifs (E.bi 2 [(E.call 0 [E.var 4, E.var 2] []).lcv (Tg.nm 4) 3 [] [4]]).nt
              [DL.S.expr (E.mut (Str.ofString "append") 1 [E.var 2])] []]
          { nx := J, rt := fun r s => R r (outA [] 1 s),
            bk :=
              Later M_thin_rows [DL.S.ret ((E.var 1).ite (E.bi 3 [E.var 1]) E.non)]
                { nx := fun s => R (Sl.sh D.non) (outA [] 1 s), rt := fun r s => R r (outA [] 1 s),
                  bk := fun x => False, ct := fun x => False },
            ct := J }
          [Sl.sh t, Sl.ow (D.pin a (List.map CI.enc K)), Sl.sh (D.tup (D.int z.fst :: List.map D.int z.snd)), Sl.sh (.gl a), Sl.no] := fun a hc2 => by
        refine later ?_
        simp only [wAls, wAug, wTMeth, tmD, wLcv, wSrs, wSrk, wSrl, wLc2, wTs, wCaps, wLMeth, lmD, wEnm, revD, rg1D, rg2D, wCMeth, wStf, putD, fldD, attrD, mkF, dflF, kwF, shs, pickG, pickO, consO, Option.map_some, List.take_nil, wMeth, methD, joinD, strsOf_map, wSs_cons, wSs_nil, Later_nil, wS, wE, wT, wI, wX, wVl, wOl, wAv, mk3, mkT, mkI, opd, wIf, wOr, DL.wAnd, DL.wNot, wBool, wTru, wUn, wOp, wFn, wCons, wNil, wVCons, wVNil, wAvNil, wAvVal, wAvBor, wCall2, wC, wVar, wAndV, wOrV, wNotV, wIte, wLst, wTup, wDct, wChn, wSlc, partE, varOp, asOp, entry, content, resO, resOs, frz, wRet, wRetV, wRetN, wNext, wDrop, wSet, wUnp, wPar, wSti, wBrk, wCnt, wMut, muD_append, muD_insert, muD_pop0, muD_pop1, mAppend, mInsert, mPop, mPopAt, wSeq', wFor, wWhile, wLc, wRng1, wRng2, wZip, itemsD, nth, bindTg, bindTgs, noOw, wipeS, restore, wback_val, wback_nil, wback_bor, List.nodup_nil, List.nodup_cons, List.not_mem_nil, bors, resA, pairD, keyD, le_size, List.replicate_succ, List.replicate_zero, List.length_cons, List.length_nil, List.cons_append, List.nil_append, List.getElem?_cons_zero, List.getElem?_cons_succ, List.getElem?_nil, List.set_cons_zero, List.set_cons_succ, Option.isSome_some, List.map_cons, List.map_nil, List.all_cons, List.all_nil, List.any_cons, List.any_nil, Nat.reduceSub, Nat.reduceAdd, Nat.reduceLT, Nat.reduceLeDiff, reduceIte, reduceCtorEq, Bool.not_true, Bool.not_false, Bool.false_eq_true, and_true, true_and, List.drop_zero, List.drop_succ_cons, List.take_succ_cons, List.take_zero, maxD2, minD2, lenD, intD, boolD, strD, listD, tupleD, allD, anyD, blsD, cmpB, cmpD, binD, addD, subD, mulD, fdivD, modD, powD, negD, idxD, slcD, truD, ltD, gtD, leD, geD, eqD_int, eqD_bl, eqD_str, eqD_non, L2.atI, ixN_lit, Int.reduceToNat, Option.bind_some, List.length_map, List.set_cons_zero, List.set_cons_succ, isNon, inD_ss, inStr_one, isiD, seqOf, lstOf, String.reduceNe, String.reduceEq, ne_eq, not_false_eq_true, not_true_eq_false, Bool.or_true, Bool.or_false, Bool.true_or, Bool.false_or, Bool.and_true, Bool.and_false, Bool.true_and, Bool.false_and, isT_NoneType_bool, isT_NoneType_int, isT_NoneType_str, isT_NoneType_list, isT_NoneType_tuple, isT_NoneType_dict, isT_bool_bool, isT_bool_int, isT_bool_str, isT_bool_list, isT_bool_tuple, isT_bool_dict, isT_int_bool, isT_int_int, isT_int_str, isT_int_list, isT_int_tuple, isT_int_dict, isT_str_bool, isT_str_int, isT_str_str, isT_str_list, isT_str_tuple, isT_str_dict, isT_list_bool, isT_list_int, isT_list_str, isT_list_list, isT_list_tuple, isT_list_dict, isT_tuple_bool, isT_tuple_int, isT_tuple_str, isT_tuple_list, isT_tuple_tuple, isT_tuple_dict, isT_dict_bool, isT_dict_int, isT_dict_str, isT_dict_list, isT_dict_tuple, isT_dict_dict, tyN_non, tyN_bl, tyN_int, tyN_str, tyN_lst, tyN_tup, tyN_ftup, tyN_klst, tyN_dic]
        refine ⟨1, _, rfl, ⟨Nat.le_of_lt hlenK, rfl⟩, ?_⟩
        refine lcGo_mapg CI.enc (fun x => .bl (cI x z)) K _ (fun p hp' => ⟨_, rfl, rfl, fun Q q => ?_⟩) ?_
        · walk_at "SI"
          exact ⟨p, z, rfl, by rw [hwS p (by rw [h0]; exact List.mem_append_left _ (g.sub p hp'))]; omega, fun o => q _ rfl⟩
        rw [any_bls]
        simp only [blsOf_map, wAls, wAug, wTMeth, tmD, wLcv, wSrs, wSrk, wSrl, wLc2, wTs, wCaps, wLMeth, lmD, wEnm, revD, rg1D, rg2D, wCMeth, wStf, putD, fldD, attrD, mkF, dflF, kwF, shs, pickG, pickO, consO, Option.map_some, List.take_nil, wMeth, methD, joinD, strsOf_map, wSs_cons, wSs_nil, Later_nil, wS, wE, wT, wI, wX, wVl, wOl, wAv, mk3, mkT, mkI, opd, wIf, wOr, DL.wAnd, DL.wNot, wBool, wTru, wUn, wOp, wFn, wCons, wNil, wVCons, wVNil, wAvNil, wAvVal, wAvBor, wCall2, wC, wVar, wAndV, wOrV, wNotV, wIte, wLst, wTup, wDct, wChn, wSlc, partE, varOp, asOp, entry, content, resO, resOs, frz, wRet, wRetV, wRetN, wNext, wDrop, wSet, wUnp, wPar, wSti, wBrk, wCnt, wMut, muD_append, muD_insert, muD_pop0, muD_pop1, mAppend, mInsert, mPop, mPopAt, wSeq', wFor, wWhile, wLc, wRng1, wRng2, wZip, itemsD, nth, bindTg, bindTgs, noOw, wipeS, restore, wback_val, wback_nil, wback_bor, List.nodup_nil, List.nodup_cons, List.not_mem_nil, bors, resA, pairD, keyD, le_size, List.replicate_succ, List.replicate_zero, List.length_cons, List.length_nil, List.cons_append, List.nil_append, List.getElem?_cons_zero, List.getElem?_cons_succ, List.getElem?_nil, List.set_cons_zero, List.set_cons_succ, Option.isSome_some, List.map_cons, List.map_nil, List.all_cons, List.all_nil, List.any_cons, List.any_nil, Nat.reduceSub, Nat.reduceAdd, Nat.reduceLT, Nat.reduceLeDiff, reduceIte, reduceCtorEq, Bool.not_true, Bool.not_false, Bool.false_eq_true, and_true, true_and, List.drop_zero, List.drop_succ_cons, List.take_succ_cons, List.take_zero, maxD2, minD2, lenD, intD, boolD, strD, listD, tupleD, allD, anyD, blsD, cmpB, cmpD, binD, addD, subD, mulD, fdivD, modD, powD, negD, idxD, slcD, truD, ltD, gtD, leD, geD, eqD_int, eqD_bl, eqD_str, eqD_non, L2.atI, ixN_lit, Int.reduceToNat, Option.bind_some, List.length_map, List.set_cons_zero, List.set_cons_succ, isNon, inD_ss, inStr_one, isiD, seqOf, lstOf, String.reduceNe, String.reduceEq, ne_eq, not_false_eq_true, not_true_eq_false, Bool.or_true, Bool.or_false, Bool.true_or, Bool.false_or, Bool.and_true, Bool.and_false, Bool.true_and, Bool.false_and, isT_NoneType_bool, isT_NoneType_int, isT_NoneType_str, isT_NoneType_list, isT_NoneType_tuple, isT_NoneType_dict, isT_bool_bool, isT_bool_int, isT_bool_str, isT_bool_list, isT_bool_tuple, isT_bool_dict, isT_int_bool, isT_int_int, isT_int_str, isT_int_list, isT_int_tuple, isT_int_dict, isT_str_bool, isT_str_int, isT_str_str, isT_str_list, isT_str_tuple, isT_str_dict, isT_list_bool, isT_list_int, isT_list_str, isT_list_list, isT_list_tuple, isT_list_dict, isT_tuple_bool, isT_tuple_int, isT_tuple_str, isT_tuple_list, isT_tuple_tuple, isT_tuple_dict, isT_dict_bool, isT_dict_int, isT_dict_str, isT_dict_list, isT_dict_tuple, isT_dict_dict, tyN_non, tyN_bl, tyN_int, tyN_str, tyN_lst, tyN_tup, tyN_ftup, tyN_klst, tyN_dic]
        cases hcl : (K.map fun x => cI x z).any id with
        | true =>
          walk_at "SI"
          refine skip _ _ (.inr ⟨hc2, a, rfl⟩) ?_
          rw [List.any_map] at hcl
          obtain ⟨y, hy, q⟩ := List.any_eq_true.mp hcl
          exact ⟨y, hy, q⟩
        | false =>
          walk_at "SI"
          refine ⟨by rw [List.length_map] at hlenK; exact hlenK, push _ _ (.inr ⟨hc2, a, rfl⟩) fun ⟨y, hy, q⟩ => ?_⟩
          rw [List.any_map, List.any_eq_false] at hcl
          exact hcl y hy q
      rcases hc with rfl | ⟨hw2, a, rfl⟩
      · rw [CI_enc z]
        walk_at "SI"
        rw [if_neg (by rw [decide_eq_true_eq]; rw [hz]; omega)]
        exact fun a => go a (by omega)
      · rw [CI_enc z]
        walk_at "SI"
        rw [if_neg (by rw [decide_eq_true_eq]; rw [hz]; omega)]
        exact go a hw2
theorem ok_thin_rows {P : Program} {w : World} {K : PySem.W.Frag} {mg : Str → Option Value} {base : Heap} (V : VE K mg base) : ∃ fd, FunD K "thin_rows" "thin_rows" (defArgs (top 14)) (defBody (top 14)) (defScope (top 14)) [] [] (He.ga K "thin_rows") fd ∧ FnOk P w K mg base CX0 2 (He.ga K "thin_rows") fd ["rows"] (spOf K F_thin_rows) := by
  obtain ⟨fd, Fd⟩ := V.def_ 2 (d := dd "thin_rows" 14 []) rfl
  exact ⟨fd, Fd, fn_ok Fd (d_thin_rows 1) (mkTab (.cons (cj__at_most_2 V (by first | decide | omega)) .nil) (.cons rfl (.cons rfl (.cons rfl (.cons rfl .nil)))) (show ([("sorted", 1), ("len", 1), ("any", 1), ("tuple", 1)] : List (Str × Nat)).all (fun c => decide (c.1 ∈ FR)) = true by decide +kernel) .nil .nil (at_ok V) V.free rfl) (fun h => by cases h) rfl p_thin_rows⟩
theorem cj_thin_rows_1 {P : Program} {w : World} {K : PySem.W.Frag} {mg : Str → Option Value} {base : Heap} {lv : Nat} (V : VE K mg base) (h : 2 ≤ lv) : CallJ P w K mg base lv "thin_rows" 1 [] F_thin_rows := by
  obtain ⟨fd, Fd, F⟩ := ok_thin_rows (P := P) (w := w) (base := base) V
  exact callJ F h (V.glo 2 rfl) Fd.kp (FunD.bindsN Fd (fun _ _ _ _ _ _ us hl => match us, hl with | [_], _ => rfl)) 1
theorem cj_thin_rows_0_rows {P : Program} {w : World} {K : PySem.W.Frag} {mg : Str → Option Value} {base : Heap} {lv : Nat} (V : VE K mg base) (h : 2 ≤ lv) : CallJ P w K mg base lv "thin_rows" 0 ["rows"] (kwF 0 1 (fun as bs => pickG [(1, 0)] [] as bs) F_thin_rows) := by
  obtain ⟨fd, Fd, F⟩ := ok_thin_rows (P := P) (w := w) (base := base) V
  have hb := kbindsN Fd (ps := ["rows"]) 0 ["rows"] [(1, 0)] (fun kV doc pmd an cdv ct us ws l1 l2 => match us, l1, ws, l2 with | [], _, [_], _ => rfl)
  exact callJ_kw F h (V.glo 2 rfl) Fd.kp hb (fun G as bs vs zs r1 r2 _ _ => pick_reps [(1, 0)] r1 rfl r2)
end K06

namespace K06
open PySem DL
open L2 (V FnOk FunD CX0 defArgs defBody defScope SqL FnScope KBn)
local macro_rules | `(tactic| walk_at "SI") => `(tactic| simp only [wAls, wAug, wTMeth, tmD, wLcv, wSrs, wSrk, wSrl, wLc2, wTs, wCaps, wLMeth, lmD, wEnm, revD, rg1D, rg2D, wCMeth, wStf, putD, fldD, attrD, mkF, dflF, kwF, shs, pickG, pickO, consO, Option.map_some, List.take_nil, wMeth, methD, joinD, strsOf_map, wSs_cons, wSs_nil, Later_nil, wS, wE, wT, wI, wX, wVl, wOl, wAv, mk3, mkT, mkI, opd, wIf, wOr, DL.wAnd, DL.wNot, wBool, wTru, wUn, wOp, wFn, wCons, wNil, wVCons, wVNil, wAvNil, wAvVal, wAvBor, wCall2, wC, wVar, wAndV, wOrV, wNotV, wIte, wLst, wTup, wDct, wChn, wSlc, partE, varOp, asOp, entry, content, resO, resOs, frz, wRet, wRetV, wRetN, wNext, wDrop, wSet, wUnp, wPar, wSti, wBrk, wCnt, wMut, muD_append, muD_insert, muD_pop0, muD_pop1, mAppend, mInsert, mPop, mPopAt, wSeq', wFor, wWhile, wLc, wRng1, wRng2, wZip, itemsD, nth, bindTg, bindTgs, noOw, wipeS, restore, wback_val, wback_nil, wback_bor, List.nodup_nil, List.nodup_cons, List.not_mem_nil, bors, resA, pairD, keyD, le_size, List.replicate_succ, List.replicate_zero, List.length_cons, List.length_nil, List.cons_append, List.nil_append, List.getElem?_cons_zero, List.getElem?_cons_succ, List.getElem?_nil, List.set_cons_zero, List.set_cons_succ, Option.isSome_some, List.map_cons, List.map_nil, List.all_cons, List.all_nil, List.any_cons, List.any_nil, Nat.reduceSub, Nat.reduceAdd, Nat.reduceLT, Nat.reduceLeDiff, reduceIte, reduceCtorEq, Bool.not_true, Bool.not_false, Bool.false_eq_true, and_true, true_and, List.drop_zero, List.drop_succ_cons, List.take_succ_cons, List.take_zero, maxD2, minD2, lenD, intD, boolD, strD, listD, tupleD, allD, anyD, blsD, cmpB, cmpD, binD, addD, subD, mulD, fdivD, modD, powD, negD, idxD, slcD, truD, ltD, gtD, leD, geD, eqD_int, eqD_bl, eqD_str, eqD_non, L2.atI, ixN_lit, Int.reduceToNat, Option.bind_some, List.length_map, List.set_cons_zero, List.set_cons_succ, isNon, inD_ss, inStr_one, isiD, seqOf, lstOf, String.reduceNe, String.reduceEq, ne_eq, not_false_eq_true, not_true_eq_false, Bool.or_true, Bool.or_false, Bool.true_or, Bool.false_or, Bool.and_true, Bool.and_false, Bool.true_and, Bool.false_and, isT_NoneType_bool, isT_NoneType_int, isT_NoneType_str, isT_NoneType_list, isT_NoneType_tuple, isT_NoneType_dict, isT_bool_bool, isT_bool_int, isT_bool_str, isT_bool_list, isT_bool_tuple, isT_bool_dict, isT_int_bool, isT_int_int, isT_int_str, isT_int_list, isT_int_tuple, isT_int_dict, isT_str_bool, isT_str_int, isT_str_str, isT_str_list, isT_str_tuple, isT_str_dict, isT_list_bool, isT_list_int, isT_list_str, isT_list_list, isT_list_tuple, isT_list_dict, isT_tuple_bool, isT_tuple_int, isT_tuple_str, isT_tuple_list, isT_tuple_tuple, isT_tuple_dict, isT_dict_bool, isT_dict_int, isT_dict_str, isT_dict_list, isT_dict_tuple, isT_dict_dict, tyN_non, tyN_bl, tyN_int, tyN_str, tyN_lst, tyN_tup, tyN_ftup, tyN_klst, tyN_dic])
local macro_rules | `(tactic| walk_at "ST") => `(tactic| (refine later ?_; simp only [wAls, wAug, wTMeth, tmD, wLcv, wSrs, wSrk, wSrl, wLc2, wTs, wCaps, wLMeth, lmD, wEnm, revD, rg1D, rg2D, wCMeth, wStf, putD, fldD, attrD, mkF, dflF, kwF, shs, pickG, pickO, consO, Option.map_some, List.take_nil, wMeth, methD, joinD, strsOf_map, wSs_cons, wSs_nil, Later_nil, wS, wE, wT, wI, wX, wVl, wOl, wAv, mk3, mkT, mkI, opd, wIf, wOr, DL.wAnd, DL.wNot, wBool, wTru, wUn, wOp, wFn, wCons, wNil, wVCons, wVNil, wAvNil, wAvVal, wAvBor, wCall2, wC, wVar, wAndV, wOrV, wNotV, wIte, wLst, wTup, wDct, wChn, wSlc, partE, varOp, asOp, entry, content, resO, resOs, frz, wRet, wRetV, wRetN, wNext, wDrop, wSet, wUnp, wPar, wSti, wBrk, wCnt, wMut, muD_append, muD_insert, muD_pop0, muD_pop1, mAppend, mInsert, mPop, mPopAt, wSeq', wFor, wWhile, wLc, wRng1, wRng2, wZip, itemsD, nth, bindTg, bindTgs, noOw, wipeS, restore, wback_val, wback_nil, wback_bor, List.nodup_nil, List.nodup_cons, List.not_mem_nil, bors, resA, pairD, keyD, le_size, List.replicate_succ, List.replicate_zero, List.length_cons, List.length_nil, List.cons_append, List.nil_append, List.getElem?_cons_zero, List.getElem?_cons_succ, List.getElem?_nil, List.set_cons_zero, List.set_cons_succ, Option.isSome_some, List.map_cons, List.map_nil, List.all_cons, List.all_nil, List.any_cons, List.any_nil, Nat.reduceSub, Nat.reduceAdd, Nat.reduceLT, Nat.reduceLeDiff, reduceIte, reduceCtorEq, Bool.not_true, Bool.not_false, Bool.false_eq_true, and_true, true_and, List.drop_zero, List.drop_succ_cons, List.take_succ_cons, List.take_zero, maxD2, minD2, lenD, intD, boolD, strD, listD, tupleD, allD, anyD, blsD, cmpB, cmpD, binD, addD, subD, mulD, fdivD, modD, powD, negD, idxD, slcD, truD, ltD, gtD, leD, geD, eqD_int, eqD_bl, eqD_str, eqD_non, L2.atI, ixN_lit, Int.reduceToNat, Option.bind_some, List.length_map, List.set_cons_zero, List.set_cons_succ, isNon, inD_ss, inStr_one, isiD, seqOf, lstOf, String.reduceNe, String.reduceEq, ne_eq, not_false_eq_true, not_true_eq_false, Bool.or_true, Bool.or_false, Bool.true_or, Bool.false_or, Bool.and_true, Bool.and_false, Bool.true_and, Bool.false_and, isT_NoneType_bool, isT_NoneType_int, isT_NoneType_str, isT_NoneType_list, isT_NoneType_tuple, isT_NoneType_dict, isT_bool_bool, isT_bool_int, isT_bool_str, isT_bool_list, isT_bool_tuple, isT_bool_dict, isT_int_bool, isT_int_int, isT_int_str, isT_int_list, isT_int_tuple, isT_int_dict, isT_str_bool, isT_str_int, isT_str_str, isT_str_list, isT_str_tuple, isT_str_dict, isT_list_bool, isT_list_int, isT_list_str, isT_list_list, isT_list_tuple, isT_list_dict, isT_tuple_bool, isT_tuple_int, isT_tuple_str, isT_tuple_list, isT_tuple_tuple, isT_tuple_dict, isT_dict_bool, isT_dict_int, isT_dict_str, isT_dict_list, isT_dict_tuple, isT_dict_dict, tyN_non, tyN_bl, tyN_int, tyN_str, tyN_lst, tyN_tup, tyN_ftup, tyN_klst, tyN_dic]))
theorem str_canLay {z : Str} (h : okS z) : PyData.canLay0 (.str z) = true := by
  show PyData.strOk z = true
  unfold PyData.strOk
  rw [← Array.all_toList]
  exact List.all_eq_true.mpr fun c hc => by simpa using h.2 c hc
theorem str_shaped {z : Str} (h : okS z) : SeqAt.shaped (.str z) = true := by
  show (PyData.canLay0 (.str z) && decide (PyData.depth (.str z) ≤ 64)) = true
  rw [str_canLay h]; rfl
theorem ltD_str {m n : Str} (hm : okS m) (hn : okS n) {Q : Bool → Prop} (h : Q (ltS m n)) : ltD (.str m) (.str n) Q := ⟨⟨str_shaped hm, str_shaped hn, rfl, nofun⟩, h⟩
def SqD (l : D) (a : List Str) : Prop := l = .lst (a.map .str) ∨ l = .ftup (a.map .str)
theorem str_at {b : List Str} {i : Nat} {m : Str} (h : b[i]? = some m) : ((L2.ixN b.length (i : Int)).bind fun j => (b.map D.str)[j]?) = some (.str m) := by
  have := atI_nat (xs := b.map D.str) (i := (i : Int)) (x := .str m) (by omega) (by rw [List.getElem?_map, Int.toNat_natCast, h]; rfl)
  unfold L2.atI at this
  rw [List.length_map] at this
  exact this
theorem ordD_str {m n : Str} (hm : okS m) (hn : okS n) {Q : Bool → Prop} (h : Q (ltS m n)) : ordD PySem.W.dataLt (.str m) (.str n) Q := ⟨⟨str_shaped hm, str_shaped hn, rfl, nofun⟩, h⟩
theorem within_cc {n m : Str} {B o o2 : List Str} (h : o.dropWhile (fun x => ltS x n) = m :: o2) : within (n :: B) o = if m = n then within B o2 else false := by
  rw [within]; simp only [h]
theorem within_cn {n : Str} {B o : List Str} (h : o.dropWhile (fun x => ltS x n) = []) : within (n :: B) o = false := by
  rw [within]; simp only [h]
def C__within (lv : Nat) : CC := { N := ["lot", "other", "at", "name"], sc := defScope (top 15), lv := lv, kp := [], brw := [], ali := [], calls := [], bis := [("len", 1)], cons := [], meths := [], keys := [], lam := false, fr := FR }
def b__within : List S := [(.set 2 (.int 0)), (.for (.nm 3) (.var 0) [(.whl (.and (.cmp .Lt (.var 2) (.bi 0 [(.var 1)])) (.cmp .Lt (.idx (.var 1) (.var 2)) (.var 3))) [(.aug 2 (.int 1))]), (.ifs (.or (.cmp .Eq (.var 2) (.bi 0 [(.var 1)])) (.cmp .NotEq (.idx (.var 1) (.var 2)) (.var 3))) [(.ret (.bl false))] []), (.aug 2 (.int 1))]), (.ret (.bl true))]
theorem sc__within : FnScope ["lot", "other", "at", "name"] ["lot", "other"] (defScope (top 15)) := ⟨rfl, rfl, rfl, by decide +kernel, rfl, by decide +kernel, by decide +kernel⟩
theorem d__within (lv : Nat) : DefC (C__within lv) ["lot", "other"] (defArgs (top 15)) (defBody (top 15)) (defScope (top 15)) b__within := ⟨sc__within, rfl, rfl, (show ∀ i ∈ ([] : List Nat), i < 2 by decide), by kernel_rfl⟩
abbrev M__within : Sem := mkSem [] [] [lenD] [] [] (atOf AT)
def F__within : FS := fun args R => ∃ (l1 l2 : D) (a b : List Str), args = [.sh l1, .sh l2] ∧ SqD l1 a ∧ SqD l2 b ∧ b.length ≤ 1000 ∧ (∀ x ∈ a, okS x) ∧ (∀ x ∈ b, okS x) ∧ ∀ o, R (.sh (.bl (within a b))) o
theorem drop_next {b : List Str} {i : Nat} {m : Str} (h : b[i]? = some m) : b.drop i = m :: b.drop (i + 1) := by
  obtain ⟨hi, e⟩ := List.getElem?_eq_some_iff.mp h
  rw [List.drop_eq_getElem_cons hi, e]
theorem p__within : ∀ args R, F__within args R → runF [] 2 4 (wSs M__within b__within) args R := by
  rintro args R ⟨l1, l2, a, b, rfl, h1, h2, hb, oa, ob, hR⟩
  refine ⟨rfl, ?_⟩
  unfold b__within
  have fwd : ∀ j : Nat, (j : Int) + 1 = ((j + 1 : Nat) : Int) := fun j => by omega
  rcases h1 with rfl | rfl <;> rcases h2 with rfl | rfl
  all_goals (
    walk_at "SI"
    refine later ?_
    walk_at "SI"
    refine forGo_ind (fun ds s => ∃ (B : List Str) (i : Nat) (a3 : Sl), ds = B.map .str ∧ s = [_, _, .sh (.int (i : Int)), a3] ∧ i ≤ b.length ∧ (∀ x ∈ B, okS x) ∧ within a b = within B (b.drop i)) ?_ ?_ _ _ ⟨a, 0, .no, rfl, rfl, Nat.zero_le _, oa, rfl⟩
    · rintro s ⟨B, i, a3, h0, rfl, hi, hB, he⟩
      cases B with
      | cons x B => cases h0
      | nil =>
      walk_at "ST"
      rw [he] at hR
      exact hR _
    · rintro d ds s ⟨B, i, a3, h0, rfl, hi, hB, he⟩ J hJ
      cases B with
      | nil => cases h0
      | cons n B =>
      cases h0
      refine ⟨_, rfl, ?_⟩
      have on := hB n (.head _)
      walk_at "SI"
      refine wWhile_ind (fun k s => ∃ j : Nat, k = b.length - j ∧ j ≤ b.length ∧ s = [_, _, .sh (.int (j : Int)), .sh (.str n)] ∧ (b.drop i).dropWhile (fun x => ltS x n) = (b.drop j).dropWhile (fun x => ltS x n)) ?_ _ _ ⟨i, rfl, hi, rfl, rfl⟩
      rintro k s ⟨j, rfl, hj, rfl, hd⟩ J2 hJ2
      walk_at "SI"
      by_cases lt : j < b.length
      · obtain ⟨m, hm⟩ : ∃ m, b[j]? = some m := ⟨_, List.getElem?_eq_getElem lt⟩
        rw [if_pos (decide_eq_true (by omega)), str_at hm]
        refine ordD_str (ob m (List.mem_of_getElem? hm)) on ?_
        cases hlt : ltS m n with
        | true =>
          walk_at "SI"
          rw [fwd j]
          exact hJ2 _ ⟨b.length - (j + 1), by omega, j + 1, rfl, lt, rfl, by rw [hd, drop_next hm, List.dropWhile_cons, if_pos hlt]⟩
        | false =>
          have wi := he.trans (within_cc (B := B) (n := n) (hd.trans (by rw [drop_next hm, List.dropWhile_cons, if_neg (by rw [hlt]; simp)])))
          walk_at "SI"
          refine later ?_
          simp only [wAls, wAug, wTMeth, tmD, wLcv, wSrs, wSrk, wSrl, wLc2, wTs, wCaps, wLMeth, lmD, wEnm, revD, rg1D, rg2D, wCMeth, wStf, putD, fldD, attrD, mkF, dflF, kwF, shs, pickG, pickO, consO, Option.map_some, List.take_nil, wMeth, methD, joinD, strsOf_map, wSs_cons, wSs_nil, Later_nil, wS, wE, wT, wI, wX, wVl, wOl, wAv, mk3, mkT, mkI, opd, wIf, wOr, DL.wAnd, DL.wNot, wBool, wTru, wUn, wOp, wFn, wCons, wNil, wVCons, wVNil, wAvNil, wAvVal, wAvBor, wCall2, wC, wVar, wAndV, wOrV, wNotV, wIte, wLst, wTup, wDct, wChn, wSlc, partE, varOp, asOp, entry, content, resO, resOs, frz, wRet, wRetV, wRetN, wNext, wDrop, wSet, wUnp, wPar, wSti, wBrk, wCnt, wMut, muD_append, muD_insert, muD_pop0, muD_pop1, mAppend, mInsert, mPop, mPopAt, wSeq', wFor, wWhile, wLc, wRng1, wRng2, wZip, itemsD, nth, bindTg, bindTgs, noOw, wipeS, restore, wback_val, wback_nil, wback_bor, List.nodup_nil, List.nodup_cons, List.not_mem_nil, bors, resA, pairD, keyD, le_size, List.replicate_succ, List.replicate_zero, List.length_cons, List.length_nil, List.cons_append, List.nil_append, List.getElem?_cons_zero, List.getElem?_cons_succ, List.getElem?_nil, List.set_cons_zero, List.set_cons_succ, Option.isSome_some, List.map_cons, List.map_nil, List.all_cons, List.all_nil, List.any_cons, List.any_nil, Nat.reduceSub, Nat.reduceAdd, Nat.reduceLT, Nat.reduceLeDiff, reduceIte, reduceCtorEq, Bool.not_true, Bool.not_false, Bool.false_eq_true, and_true, true_and, List.drop_zero, List.drop_succ_cons, List.take_succ_cons, List.take_zero, maxD2, minD2, lenD, intD, boolD, strD, listD, tupleD, allD, anyD, blsD, cmpB, cmpD, binD, addD, subD, mulD, fdivD, modD, powD, negD, idxD, slcD, truD, ltD, gtD, leD, geD, eqD_int, eqD_bl, eqD_str, eqD_non, L2.atI, ixN_lit, Int.reduceToNat, Option.bind_some, List.length_map, List.set_cons_zero, List.set_cons_succ, isNon, inD_ss, inStr_one, isiD, seqOf, lstOf, String.reduceNe, String.reduceEq, ne_eq, not_false_eq_true, not_true_eq_false, Bool.or_true, Bool.or_false, Bool.true_or, Bool.false_or, Bool.and_true, Bool.and_false, Bool.true_and, Bool.false_and, isT_NoneType_bool, isT_NoneType_int, isT_NoneType_str, isT_NoneType_list, isT_NoneType_tuple, isT_NoneType_dict, isT_bool_bool, isT_bool_int, isT_bool_str, isT_bool_list, isT_bool_tuple, isT_bool_dict, isT_int_bool, isT_int_int, isT_int_str, isT_int_list, isT_int_tuple, isT_int_dict, isT_str_bool, isT_str_int, isT_str_str, isT_str_list, isT_str_tuple, isT_str_dict, isT_list_bool, isT_list_int, isT_list_str, isT_list_list, isT_list_tuple, isT_list_dict, isT_tuple_bool, isT_tuple_int, isT_tuple_str, isT_tuple_list, isT_tuple_tuple, isT_tuple_dict, isT_dict_bool, isT_dict_int, isT_dict_str, isT_dict_list, isT_dict_tuple, isT_dict_dict, tyN_non, tyN_bl, tyN_int, tyN_str, tyN_lst, tyN_tup, tyN_ftup, tyN_klst, tyN_dic, str_at hm]
          rw [if_neg (show ¬ ((j : Int) == (b.length : Int)) = true by simp; omega)]
          by_cases e : m = n
          · subst e
            rw [if_neg (show ¬ (!(m == m)) = true by simp)]
            walk_at "ST"
            rw [fwd j]
            exact hJ _ ⟨B, j + 1, _, rfl, rfl, lt, fun x m => hB x (.tail _ m), by rw [wi]; simp⟩
          · rw [if_pos (show (!(m == n)) = true by simp [e])]
            rw [wi] at hR
            simp only [if_neg e] at hR
            exact hR _
      · have ej : j = b.length := by omega
        have wi := he.trans (within_cn (B := B) (n := n) (hd.trans (by rw [List.drop_eq_nil_of_le (by omega)]; rfl)))
        rw [if_neg (by rw [decide_eq_true_eq]; omega)]
        refine later ?_
        walk_at "SI"
        rw [if_pos (show ((j : Int) == (b.length : Int)) = true by rw [ej]; simp)]
        rw [wi] at hR
        exact hR _)
theorem ok__within {P : Program} {w : World} {K : PySem.W.Frag} {mg : Str → Option Value} {base : Heap} (V : VE K mg base) : ∃ fd, FunD K "_within" "_within" (defArgs (top 15)) (defBody (top 15)) (defScope (top 15)) [] [] (He.ga K "_within") fd ∧ FnOk P w K mg base CX0 1 (He.ga K "_within") fd ["lot", "other"] (spOf K F__within) := by
  obtain ⟨fd, Fd⟩ := V.def_ 3 (d := dd "_within" 15 []) rfl
  exact ⟨fd, Fd, fn_ok Fd (d__within 0) (mkTab .nil (.cons rfl .nil) (show ([("len", 1)] : List (Str × Nat)).all (fun c => decide (c.1 ∈ FR)) = true by decide +kernel) .nil .nil (at_ok V) V.free rfl) (fun h => by cases h) rfl p__within⟩
theorem cj__within_2 {P : Program} {w : World} {K : PySem.W.Frag} {mg : Str → Option Value} {base : Heap} {lv : Nat} (V : VE K mg base) (h : 1 ≤ lv) : CallJ P w K mg base lv "_within" 2 [] F__within := by
  obtain ⟨fd, Fd, F⟩ := ok__within (P := P) (w := w) (base := base) V
  exact callJ F h (V.glo 3 rfl) Fd.kp (FunD.bindsN Fd (fun _ _ _ _ _ _ us hl => match us, hl with | [_, _], _ => rfl)) 2
end K06

namespace K06
open PySem DL
open L2 (V FnOk FunD CX0 defArgs defBody defScope SqL FnScope KBn)
local macro_rules | `(tactic| walk_at "SI") => `(tactic| simp only [wAls, wAug, wTMeth, tmD, wLcv, wSrs, wSrk, wSrl, wLc2, wTs, wCaps, wLMeth, lmD, wEnm, revD, rg1D, rg2D, wCMeth, wStf, putD, fldD, attrD, mkF, dflF, kwF, shs, pickG, pickO, consO, Option.map_some, List.take_nil, wMeth, methD, joinD, strsOf_map, wSs_cons, wSs_nil, Later_nil, wS, wE, wT, wI, wX, wVl, wOl, wAv, mk3, mkT, mkI, opd, wIf, wOr, DL.wAnd, DL.wNot, wBool, wTru, wUn, wOp, wFn, wCons, wNil, wVCons, wVNil, wAvNil, wAvVal, wAvBor, wCall2, wC, wVar, wAndV, wOrV, wNotV, wIte, wLst, wTup, wDct, wChn, wSlc, partE, varOp, asOp, entry, content, resO, resOs, frz, wRet, wRetV, wRetN, wNext, wDrop, wSet, wUnp, wPar, wSti, wBrk, wCnt, wMut, muD_append, muD_insert, muD_pop0, muD_pop1, mAppend, mInsert, mPop, mPopAt, wSeq', wFor, wWhile, wLc, wRng1, wRng2, wZip, itemsD, nth, bindTg, bindTgs, noOw, wipeS, restore, wback_val, wback_nil, wback_bor, List.nodup_nil, List.nodup_cons, List.not_mem_nil, bors, resA, pairD, keyD, le_size, List.replicate_succ, List.replicate_zero, List.length_cons, List.length_nil, List.cons_append, List.nil_append, List.getElem?_cons_zero, List.getElem?_cons_succ, List.getElem?_nil, List.set_cons_zero, List.set_cons_succ, Option.isSome_some, List.map_cons, List.map_nil, List.all_cons, List.all_nil, List.any_cons, List.any_nil, Nat.reduceSub, Nat.reduceAdd, Nat.reduceLT, Nat.reduceLeDiff, reduceIte, reduceCtorEq, Bool.not_true, Bool.not_false, Bool.false_eq_true, and_true, true_and, List.drop_zero, List.drop_succ_cons, List.take_succ_cons, List.take_zero, maxD2, minD2, lenD, intD, boolD, strD, listD, tupleD, allD, anyD, blsD, cmpB, cmpD, binD, addD, subD, mulD, fdivD, modD, powD, negD, idxD, slcD, truD, ltD, gtD, leD, geD, eqD_int, eqD_bl, eqD_str, eqD_non, L2.atI, ixN_lit, Int.reduceToNat, Option.bind_some, List.length_map, List.set_cons_zero, List.set_cons_succ, isNon, inD_ss, inStr_one, isiD, seqOf, lstOf, String.reduceNe, String.reduceEq, ne_eq, not_false_eq_true, not_true_eq_false, Bool.or_true, Bool.or_false, Bool.true_or, Bool.false_or, Bool.and_true, Bool.and_false, Bool.true_and, Bool.false_and, isT_NoneType_bool, isT_NoneType_int, isT_NoneType_str, isT_NoneType_list, isT_NoneType_tuple, isT_NoneType_dict, isT_bool_bool, isT_bool_int, isT_bool_str, isT_bool_list, isT_bool_tuple, isT_bool_dict, isT_int_bool, isT_int_int, isT_int_str, isT_int_list, isT_int_tuple, isT_int_dict, isT_str_bool, isT_str_int, isT_str_str, isT_str_list, isT_str_tuple, isT_str_dict, isT_list_bool, isT_list_int, isT_list_str, isT_list_list, isT_list_tuple, isT_list_dict, isT_tuple_bool, isT_tuple_int, isT_tuple_str, isT_tuple_list, isT_tuple_tuple, isT_tuple_dict, isT_dict_bool, isT_dict_int, isT_dict_str, isT_dict_list, isT_dict_tuple, isT_dict_dict, tyN_non, tyN_bl, tyN_int, tyN_str, tyN_lst, tyN_tup, tyN_ftup, tyN_klst, tyN_dic])
local macro_rules | `(tactic| walk_at "ST") => `(tactic| (refine later ?_; simp only [wAls, wAug, wTMeth, tmD, wLcv, wSrs, wSrk, wSrl, wLc2, wTs, wCaps, wLMeth, lmD, wEnm, revD, rg1D, rg2D, wCMeth, wStf, putD, fldD, attrD, mkF, dflF, kwF, shs, pickG, pickO, consO, Option.map_some, List.take_nil, wMeth, methD, joinD, strsOf_map, wSs_cons, wSs_nil, Later_nil, wS, wE, wT, wI, wX, wVl, wOl, wAv, mk3, mkT, mkI, opd, wIf, wOr, DL.wAnd, DL.wNot, wBool, wTru, wUn, wOp, wFn, wCons, wNil, wVCons, wVNil, wAvNil, wAvVal, wAvBor, wCall2, wC, wVar, wAndV, wOrV, wNotV, wIte, wLst, wTup, wDct, wChn, wSlc, partE, varOp, asOp, entry, content, resO, resOs, frz, wRet, wRetV, wRetN, wNext, wDrop, wSet, wUnp, wPar, wSti, wBrk, wCnt, wMut, muD_append, muD_insert, muD_pop0, muD_pop1, mAppend, mInsert, mPop, mPopAt, wSeq', wFor, wWhile, wLc, wRng1, wRng2, wZip, itemsD, nth, bindTg, bindTgs, noOw, wipeS, restore, wback_val, wback_nil, wback_bor, List.nodup_nil, List.nodup_cons, List.not_mem_nil, bors, resA, pairD, keyD, le_size, List.replicate_succ, List.replicate_zero, List.length_cons, List.length_nil, List.cons_append, List.nil_append, List.getElem?_cons_zero, List.getElem?_cons_succ, List.getElem?_nil, List.set_cons_zero, List.set_cons_succ, Option.isSome_some, List.map_cons, List.map_nil, List.all_cons, List.all_nil, List.any_cons, List.any_nil, Nat.reduceSub, Nat.reduceAdd, Nat.reduceLT, Nat.reduceLeDiff, reduceIte, reduceCtorEq, Bool.not_true, Bool.not_false, Bool.false_eq_true, and_true, true_and, List.drop_zero, List.drop_succ_cons, List.take_succ_cons, List.take_zero, maxD2, minD2, lenD, intD, boolD, strD, listD, tupleD, allD, anyD, blsD, cmpB, cmpD, binD, addD, subD, mulD, fdivD, modD, powD, negD, idxD, slcD, truD, ltD, gtD, leD, geD, eqD_int, eqD_bl, eqD_str, eqD_non, L2.atI, ixN_lit, Int.reduceToNat, Option.bind_some, List.length_map, List.set_cons_zero, List.set_cons_succ, isNon, inD_ss, inStr_one, isiD, seqOf, lstOf, String.reduceNe, String.reduceEq, ne_eq, not_false_eq_true, not_true_eq_false, Bool.or_true, Bool.or_false, Bool.true_or, Bool.false_or, Bool.and_true, Bool.and_false, Bool.true_and, Bool.false_and, isT_NoneType_bool, isT_NoneType_int, isT_NoneType_str, isT_NoneType_list, isT_NoneType_tuple, isT_NoneType_dict, isT_bool_bool, isT_bool_int, isT_bool_str, isT_bool_list, isT_bool_tuple, isT_bool_dict, isT_int_bool, isT_int_int, isT_int_str, isT_int_list, isT_int_tuple, isT_int_dict, isT_str_bool, isT_str_int, isT_str_str, isT_str_list, isT_str_tuple, isT_str_dict, isT_list_bool, isT_list_int, isT_list_str, isT_list_list, isT_list_tuple, isT_list_dict, isT_tuple_bool, isT_tuple_int, isT_tuple_str, isT_tuple_list, isT_tuple_tuple, isT_tuple_dict, isT_dict_bool, isT_dict_int, isT_dict_str, isT_dict_list, isT_dict_tuple, isT_dict_dict, tyN_non, tyN_bl, tyN_int, tyN_str, tyN_lst, tyN_tup, tyN_ftup, tyN_klst, tyN_dic]))
theorem srt_count {a : List Str} (s : Str) : (srtS a).count s = a.count s := (srtS_perm a).count_eq s
theorem cov_within {x y : OR} (hx : Srtd x) (hy : Srtd y) : cO x y = (decide (x.1 ≤ y.1) && (decide (x.2.length ≤ y.2.length) && within x.2 y.2)) := by
  rw [Bool.eq_iff_iff, cO_iff, Bool.and_eq_true, Bool.and_eq_true, decide_eq_true_eq, decide_eq_true_eq, within_iff hx hy]
  exact ⟨fun h => ⟨h.1, (count_len h.2).1, h.2⟩, fun h => ⟨h.1, h.2.2⟩⟩
theorem cO_nO (x y : OR) : cO (nO x) (nO y) = cO x y := by
  rw [Bool.eq_iff_iff, cO_iff, cO_iff]
  unfold nO
  simp only [srt_count]
def okR (x : OR) : Prop := (∀ s ∈ x.2, okS s) ∧ x.2.length ≤ 1000
theorem okR_nO {x : OR} (h : okR x) : okR (nO x) := ⟨fun s hs => h.1 s ((srtS_perm _).mem_iff.mp hs), by have := (srtS_perm x.2).length_eq; have := h.2; show (srtS x.2).length ≤ 1000; omega⟩
def C__covers_in_order (lv : Nat) : CC := { N := ["one", "other"], sc := defScope (top 16), lv := lv, kp := [], brw := [], ali := [], calls := [("_within", 2, [])], bis := [("len", 1)], cons := [], meths := [], keys := [], lam := false, fr := FR }
def b__covers_in_order : List S := [(.ret (.and (.cmp .LtE (.idx (.var 0) (.int 0)) (.idx (.var 1) (.int 0))) (.and (.cmp .LtE (.bi 0 [(.idx (.var 0) (.int 1))]) (.bi 0 [(.idx (.var 1) (.int 1))])) (.call 0 [(.idx (.var 0) (.int 1)), (.idx (.var 1) (.int 1))] []))))]
theorem sc__covers_in_order : FnScope ["one", "other"] ["one", "other"] (defScope (top 16)) := ⟨rfl, rfl, rfl, by decide +kernel, rfl, by decide +kernel, by decide +kernel⟩
theorem d__covers_in_order (lv : Nat) : DefC (C__covers_in_order lv) ["one", "other"] (defArgs (top 16)) (defBody (top 16)) (defScope (top 16)) b__covers_in_order := ⟨sc__covers_in_order, rfl, rfl, (show ∀ i ∈ ([] : List Nat), i < 2 by decide), by kernel_rfl⟩
abbrev M__covers_in_order : Sem := mkSem [] [F__within] [lenD] [] [] (atOf AT)
def F__covers_in_order : FS := fun args R => ∃ (x y : OR) (l1 l2 : D), args = [.sh (.tup [.int x.1, l1]), .sh (.tup [.int y.1, l2])] ∧ SqD l1 x.2 ∧ SqD l2 y.2 ∧ Srtd x ∧ Srtd y ∧ okR x ∧ okR y ∧ ∀ o, R (.sh (.bl (cO x y))) o
theorem p__covers_in_order : ∀ args R, F__covers_in_order args R → runF [] 2 2 (wSs M__covers_in_order b__covers_in_order) args R := by
  rintro args R ⟨x, y, l1, l2, rfl, h1, h2, s1, s2, o1, o2, hR⟩
  refine ⟨rfl, ?_⟩
  unfold b__covers_in_order
  rw [cov_within s1 s2] at hR
  have e1 : ∀ Q : Sl → Prop, Q (.sh (.int x.2.length)) → lenD [l1] Q := fun Q q => by
    rcases h1 with rfl | rfl
    · show Q (.sh (.int ((x.2.map D.str).length : Nat))); rw [List.length_map]; exact q
    · show Q (.sh (.int ((x.2.map D.str).length : Nat))); rw [List.length_map]; exact q
  have e2 : ∀ Q : Sl → Prop, Q (.sh (.int y.2.length)) → lenD [l2] Q := fun Q q => by
    rcases h2 with rfl | rfl
    · show Q (.sh (.int ((y.2.map D.str).length : Nat))); rw [List.length_map]; exact q
    · show Q (.sh (.int ((y.2.map D.str).length : Nat))); rw [List.length_map]; exact q
  cases c1 : decide (x.1 ≤ y.1) with
  | false =>
    simp only [c1, Bool.false_and] at hR
    rcases h1 with rfl | rfl <;> rcases h2 with rfl | rfl
    all_goals (
      walk_at "SI"
      simp only [c1, wAls, wAug, wTMeth, tmD, wLcv, wSrs, wSrk, wSrl, wLc2, wTs, wCaps, wLMeth, lmD, wEnm, revD, rg1D, rg2D, wCMeth, wStf, putD, fldD, attrD, mkF, dflF, kwF, shs, pickG, pickO, consO, Option.map_some, List.take_nil, wMeth, methD, joinD, strsOf_map, wSs_cons, wSs_nil, Later_nil, wS, wE, wT, wI, wX, wVl, wOl, wAv, mk3, mkT, mkI, opd, wIf, wOr, DL.wAnd, DL.wNot, wBool, wTru, wUn, wOp, wFn, wCons, wNil, wVCons, wVNil, wAvNil, wAvVal, wAvBor, wCall2, wC, wVar, wAndV, wOrV, wNotV, wIte, wLst, wTup, wDct, wChn, wSlc, partE, varOp, asOp, entry, content, resO, resOs, frz, wRet, wRetV, wRetN, wNext, wDrop, wSet, wUnp, wPar, wSti, wBrk, wCnt, wMut, muD_append, muD_insert, muD_pop0, muD_pop1, mAppend, mInsert, mPop, mPopAt, wSeq', wFor, wWhile, wLc, wRng1, wRng2, wZip, itemsD, nth, bindTg, bindTgs, noOw, wipeS, restore, wback_val, wback_nil, wback_bor, List.nodup_nil, List.nodup_cons, List.not_mem_nil, bors, resA, pairD, keyD, le_size, List.replicate_succ, List.replicate_zero, List.length_cons, List.length_nil, List.cons_append, List.nil_append, List.getElem?_cons_zero, List.getElem?_cons_succ, List.getElem?_nil, List.set_cons_zero, List.set_cons_succ, Option.isSome_some, List.map_cons, List.map_nil, List.all_cons, List.all_nil, List.any_cons, List.any_nil, Nat.reduceSub, Nat.reduceAdd, Nat.reduceLT, Nat.reduceLeDiff, reduceIte, reduceCtorEq, Bool.not_true, Bool.not_false, Bool.false_eq_true, and_true, true_and, List.drop_zero, List.drop_succ_cons, List.take_succ_cons, List.take_zero, maxD2, minD2, lenD, intD, boolD, strD, listD, tupleD, allD, anyD, blsD, cmpB, cmpD, binD, addD, subD, mulD, fdivD, modD, powD, negD, idxD, slcD, truD, ltD, gtD, leD, geD, eqD_int, eqD_bl, eqD_str, eqD_non, L2.atI, ixN_lit, Int.reduceToNat, Option.bind_some, List.length_map, List.set_cons_zero, List.set_cons_succ, isNon, inD_ss, inStr_one, isiD, seqOf, lstOf, String.reduceNe, String.reduceEq, ne_eq, not_false_eq_true, not_true_eq_false, Bool.or_true, Bool.or_false, Bool.true_or, Bool.false_or, Bool.and_true, Bool.and_false, Bool.true_and, Bool.false_and, isT_NoneType_bool, isT_NoneType_int, isT_NoneType_str, isT_NoneType_list, isT_NoneType_tuple, isT_NoneType_dict, isT_bool_bool, isT_bool_int, isT_bool_str, isT_bool_list, isT_bool_tuple, isT_bool_dict, isT_int_bool, isT_int_int, isT_int_str, isT_int_list, isT_int_tuple, isT_int_dict, isT_str_bool, isT_str_int, isT_str_str, isT_str_list, isT_str_tuple, isT_str_dict, isT_list_bool, isT_list_int, isT_list_str, isT_list_list, isT_list_tuple, isT_list_dict, isT_tuple_bool, isT_tuple_int, isT_tuple_str, isT_tuple_list, isT_tuple_tuple, isT_tuple_dict, isT_dict_bool, isT_dict_int, isT_dict_str, isT_dict_list, isT_dict_tuple, isT_dict_dict, tyN_non, tyN_bl, tyN_int, tyN_str, tyN_lst, tyN_tup, tyN_ftup, tyN_klst, tyN_dic]
      exact hR _)
  | true =>
    cases c2 : decide (x.2.length ≤ y.2.length) with
    | false =>
      have c3 : decide ((x.2.length : Int) ≤ (y.2.length : Int)) = false := by rw [decide_eq_false_iff_not] at *; omega
      simp only [c1, c2, Bool.false_and, Bool.true_and] at hR
      rcases h1 with rfl | rfl <;> rcases h2 with rfl | rfl
      all_goals (
        walk_at "SI"
        simp only [c1, c3, wAls, wAug, wTMeth, tmD, wLcv, wSrs, wSrk, wSrl, wLc2, wTs, wCaps, wLMeth, lmD, wEnm, revD, rg1D, rg2D, wCMeth, wStf, putD, fldD, attrD, mkF, dflF, kwF, shs, pickG, pickO, consO, Option.map_some, List.take_nil, wMeth, methD, joinD, strsOf_map, wSs_cons, wSs_nil, Later_nil, wS, wE, wT, wI, wX, wVl, wOl, wAv, mk3, mkT, mkI, opd, wIf, wOr, DL.wAnd, DL.wNot, wBool, wTru, wUn, wOp, wFn, wCons, wNil, wVCons, wVNil, wAvNil, wAvVal, wAvBor, wCall2, wC, wVar, wAndV, wOrV, wNotV, wIte, wLst, wTup, wDct, wChn, wSlc, partE, varOp, asOp, entry, content, resO, resOs, frz, wRet, wRetV, wRetN, wNext, wDrop, wSet, wUnp, wPar, wSti, wBrk, wCnt, wMut, muD_append, muD_insert, muD_pop0, muD_pop1, mAppend, mInsert, mPop, mPopAt, wSeq', wFor, wWhile, wLc, wRng1, wRng2, wZip, itemsD, nth, bindTg, bindTgs, noOw, wipeS, restore, wback_val, wback_nil, wback_bor, List.nodup_nil, List.nodup_cons, List.not_mem_nil, bors, resA, pairD, keyD, le_size, List.replicate_succ, List.replicate_zero, List.length_cons, List.length_nil, List.cons_append, List.nil_append, List.getElem?_cons_zero, List.getElem?_cons_succ, List.getElem?_nil, List.set_cons_zero, List.set_cons_succ, Option.isSome_some, List.map_cons, List.map_nil, List.all_cons, List.all_nil, List.any_cons, List.any_nil, Nat.reduceSub, Nat.reduceAdd, Nat.reduceLT, Nat.reduceLeDiff, reduceIte, reduceCtorEq, Bool.not_true, Bool.not_false, Bool.false_eq_true, and_true, true_and, List.drop_zero, List.drop_succ_cons, List.take_succ_cons, List.take_zero, maxD2, minD2, lenD, intD, boolD, strD, listD, tupleD, allD, anyD, blsD, cmpB, cmpD, binD, addD, subD, mulD, fdivD, modD, powD, negD, idxD, slcD, truD, ltD, gtD, leD, geD, eqD_int, eqD_bl, eqD_str, eqD_non, L2.atI, ixN_lit, Int.reduceToNat, Option.bind_some, List.length_map, List.set_cons_zero, List.set_cons_succ, isNon, inD_ss, inStr_one, isiD, seqOf, lstOf, String.reduceNe, String.reduceEq, ne_eq, not_false_eq_true, not_true_eq_false, Bool.or_true, Bool.or_false, Bool.true_or, Bool.false_or, Bool.and_true, Bool.and_false, Bool.true_and, Bool.false_and, isT_NoneType_bool, isT_NoneType_int, isT_NoneType_str, isT_NoneType_list, isT_NoneType_tuple, isT_NoneType_dict, isT_bool_bool, isT_bool_int, isT_bool_str, isT_bool_list, isT_bool_tuple, isT_bool_dict, isT_int_bool, isT_int_int, isT_int_str, isT_int_list, isT_int_tuple, isT_int_dict, isT_str_bool, isT_str_int, isT_str_str, isT_str_list, isT_str_tuple, isT_str_dict, isT_list_bool, isT_list_int, isT_list_str, isT_list_list, isT_list_tuple, isT_list_dict, isT_tuple_bool, isT_tuple_int, isT_tuple_str, isT_tuple_list, isT_tuple_tuple, isT_tuple_dict, isT_dict_bool, isT_dict_int, isT_dict_str, isT_dict_list, isT_dict_tuple, isT_dict_dict, tyN_non, tyN_bl, tyN_int, tyN_str, tyN_lst, tyN_tup, tyN_ftup, tyN_klst, tyN_dic]
        exact hR _)
    | true =>
      have c3 : decide ((x.2.length : Int) ≤ (y.2.length : Int)) = true := by rw [decide_eq_true_eq] at *; omega
      simp only [c1, c2, Bool.true_and] at hR
      have go : ∀ l1 l2, SqD l1 x.2 → SqD l2 y.2 → ∀ S : Sl → List Sl → Prop, (∀ o, S (.sh (.bl (within x.2 y.2))) o) → F__within [.sh l1, .sh l2] S := fun l1 l2 h1 h2 S hS => ⟨l1, l2, x.2, y.2, rfl, h1, h2, o2.2, o1.1, o2.1, hS⟩
      rcases h1 with rfl | rfl <;> rcases h2 with rfl | rfl
      all_goals (
        walk_at "SI"
        simp only [c1, c3, wAls, wAug, wTMeth, tmD, wLcv, wSrs, wSrk, wSrl, wLc2, wTs, wCaps, wLMeth, lmD, wEnm, revD, rg1D, rg2D, wCMeth, wStf, putD, fldD, attrD, mkF, dflF, kwF, shs, pickG, pickO, consO, Option.map_some, List.take_nil, wMeth, methD, joinD, strsOf_map, wSs_cons, wSs_nil, Later_nil, wS, wE, wT, wI, wX, wVl, wOl, wAv, mk3, mkT, mkI, opd, wIf, wOr, DL.wAnd, DL.wNot, wBool, wTru, wUn, wOp, wFn, wCons, wNil, wVCons, wVNil, wAvNil, wAvVal, wAvBor, wCall2, wC, wVar, wAndV, wOrV, wNotV, wIte, wLst, wTup, wDct, wChn, wSlc, partE, varOp, asOp, entry, content, resO, resOs, frz, wRet, wRetV, wRetN, wNext, wDrop, wSet, wUnp, wPar, wSti, wBrk, wCnt, wMut, muD_append, muD_insert, muD_pop0, muD_pop1, mAppend, mInsert, mPop, mPopAt, wSeq', wFor, wWhile, wLc, wRng1, wRng2, wZip, itemsD, nth, bindTg, bindTgs, noOw, wipeS, restore, wback_val, wback_nil, wback_bor, List.nodup_nil, List.nodup_cons, List.not_mem_nil, bors, resA, pairD, keyD, le_size, List.replicate_succ, List.replicate_zero, List.length_cons, List.length_nil, List.cons_append, List.nil_append, List.getElem?_cons_zero, List.getElem?_cons_succ, List.getElem?_nil, List.set_cons_zero, List.set_cons_succ, Option.isSome_some, List.map_cons, List.map_nil, List.all_cons, List.all_nil, List.any_cons, List.any_nil, Nat.reduceSub, Nat.reduceAdd, Nat.reduceLT, Nat.reduceLeDiff, reduceIte, reduceCtorEq, Bool.not_true, Bool.not_false, Bool.false_eq_true, and_true, true_and, List.drop_zero, List.drop_succ_cons, List.take_succ_cons, List.take_zero, maxD2, minD2, lenD, intD, boolD, strD, listD, tupleD, allD, anyD, blsD, cmpB, cmpD, binD, addD, subD, mulD, fdivD, modD, powD, negD, idxD, slcD, truD, ltD, gtD, leD, geD, eqD_int, eqD_bl, eqD_str, eqD_non, L2.atI, ixN_lit, Int.reduceToNat, Option.bind_some, List.length_map, List.set_cons_zero, List.set_cons_succ, isNon, inD_ss, inStr_one, isiD, seqOf, lstOf, String.reduceNe, String.reduceEq, ne_eq, not_false_eq_true, not_true_eq_false, Bool.or_true, Bool.or_false, Bool.true_or, Bool.false_or, Bool.and_true, Bool.and_false, Bool.true_and, Bool.false_and, isT_NoneType_bool, isT_NoneType_int, isT_NoneType_str, isT_NoneType_list, isT_NoneType_tuple, isT_NoneType_dict, isT_bool_bool, isT_bool_int, isT_bool_str, isT_bool_list, isT_bool_tuple, isT_bool_dict, isT_int_bool, isT_int_int, isT_int_str, isT_int_list, isT_int_tuple, isT_int_dict, isT_str_bool, isT_str_int, isT_str_str, isT_str_list, isT_str_tuple, isT_str_dict, isT_list_bool, isT_list_int, isT_list_str, isT_list_list, isT_list_tuple, isT_list_dict, isT_tuple_bool, isT_tuple_int, isT_tuple_str, isT_tuple_list, isT_tuple_tuple, isT_tuple_dict, isT_dict_bool, isT_dict_int, isT_dict_str, isT_dict_list, isT_dict_tuple, isT_dict_dict, tyN_non, tyN_bl, tyN_int, tyN_str, tyN_lst, tyN_tup, tyN_ftup, tyN_klst, tyN_dic]
        refine go _ _ (by first | exact .inl rfl | exact .inr rfl) (by first | exact .inl rfl | exact .inr rfl) _ fun o => ?_
        exact hR _)
theorem ok__covers_in_order {P : Program} {w : World} {K : PySem.W.Frag} {mg : Str → Option Value} {base : Heap} (V : VE K mg base) : ∃ fd, FunD K "_covers_in_order" "_covers_in_order" (defArgs (top 16)) (defBody (top 16)) (defScope (top 16)) [] [] (He.ga K "_covers_in_order") fd ∧ FnOk P w K mg base CX0 2 (He.ga K "_covers_in_order") fd ["one", "other"] (spOf K F__covers_in_order) := by
  obtain ⟨fd, Fd⟩ := V.def_ 4 (d := dd "_covers_in_order" 16 []) rfl
  exact ⟨fd, Fd, fn_ok Fd (d__covers_in_order 1) (mkTab (.cons (cj__within_2 V (by first | decide | omega)) .nil) (.cons rfl .nil) (show ([("len", 1)] : List (Str × Nat)).all (fun c => decide (c.1 ∈ FR)) = true by decide +kernel) .nil .nil (at_ok V) V.free rfl) (fun h => by cases h) rfl p__covers_in_order⟩
theorem cj__covers_in_order_2 {P : Program} {w : World} {K : PySem.W.Frag} {mg : Str → Option Value} {base : Heap} {lv : Nat} (V : VE K mg base) (h : 2 ≤ lv) : CallJ P w K mg base lv "_covers_in_order" 2 [] F__covers_in_order := by
  obtain ⟨fd, Fd, F⟩ := ok__covers_in_order (P := P) (w := w) (base := base) V
  exact callJ F h (V.glo 4 rfl) Fd.kp (FunD.bindsN Fd (fun _ _ _ _ _ _ us hl => match us, hl with | [_, _], _ => rfl)) 2
def C_covers (lv : Nat) : CC := { N := ["one", "other"], sc := defScope (top 17), lv := lv, kp := [], brw := [], ali := [], calls := [("_covers_in_order", 2, [])], bis := [("sorted", 1)], cons := [], meths := [], keys := [], lam := false, fr := FR }
def b_covers : List S := [(.ret (.call 0 [(.tup [(.idx (.var 0) (.int 0)), (.bi 0 [(.idx (.var 0) (.int 1))])]), (.tup [(.idx (.var 1) (.int 0)), (.bi 0 [(.idx (.var 1) (.int 1))])])] []))]
theorem sc_covers : FnScope ["one", "other"] ["one", "other"] (defScope (top 17)) := ⟨rfl, rfl, rfl, by decide +kernel, rfl, by decide +kernel, by decide +kernel⟩
theorem d_covers (lv : Nat) : DefC (C_covers lv) ["one", "other"] (defArgs (top 17)) (defBody (top 17)) (defScope (top 17)) b_covers := ⟨sc_covers, rfl, rfl, (show ∀ i ∈ ([] : List Nat), i < 2 by decide), by kernel_rfl⟩
abbrev M_covers : Sem := mkSem [] [F__covers_in_order] [sortedD] [] [] (atOf AT)
def F_covers : FS := fun args R => ∃ (x y : OR), args = [.sh (rowO x), .sh (rowO y)] ∧ okR x ∧ okR y ∧ ∀ o, R (.sh (.bl (cO x y))) o
theorem p_covers : ∀ args R, F_covers args R → runF [] 2 2 (wSs M_covers b_covers) args R := by
  rintro args R ⟨x, y, rfl, o1, o2, hR⟩
  refine ⟨rfl, ?_⟩
  unfold b_covers rowO
  walk_at "SI"
  refine str_sorted (l := x.2) rfl ?_
  walk_at "SI"
  refine str_sorted (l := y.2) rfl ?_
  walk_at "SI"
  refine ⟨nO x, nO y, _, _, rfl, .inl rfl, .inl rfl, nO_srtd x, nO_srtd y, okR_nO o1, okR_nO o2, fun o => ?_⟩
  rw [cO_nO]
  exact hR _
theorem ok_covers {P : Program} {w : World} {K : PySem.W.Frag} {mg : Str → Option Value} {base : Heap} (V : VE K mg base) : ∃ fd, FunD K "covers" "covers" (defArgs (top 17)) (defBody (top 17)) (defScope (top 17)) [] [] (He.ga K "covers") fd ∧ FnOk P w K mg base CX0 3 (He.ga K "covers") fd ["one", "other"] (spOf K F_covers) := by
  obtain ⟨fd, Fd⟩ := V.def_ 5 (d := dd "covers" 17 []) rfl
  exact ⟨fd, Fd, fn_ok Fd (d_covers 2) (mkTab (.cons (cj__covers_in_order_2 V (by first | decide | omega)) .nil) (.cons rfl .nil) (show ([("sorted", 1)] : List (Str × Nat)).all (fun c => decide (c.1 ∈ FR)) = true by decide +kernel) .nil .nil (at_ok V) V.free rfl) (fun h => by cases h) rfl p_covers⟩
theorem cj_covers_2 {P : Program} {w : World} {K : PySem.W.Frag} {mg : Str → Option Value} {base : Heap} {lv : Nat} (V : VE K mg base) (h : 3 ≤ lv) : CallJ P w K mg base lv "covers" 2 [] F_covers := by
  obtain ⟨fd, Fd, F⟩ := ok_covers (P := P) (w := w) (base := base) V
  exact callJ F h (V.glo 5 rfl) Fd.kp (FunD.bindsN Fd (fun _ _ _ _ _ _ us hl => match us, hl with | [_, _], _ => rfl)) 2
theorem cj_covers_0_other_one {P : Program} {w : World} {K : PySem.W.Frag} {mg : Str → Option Value} {base : Heap} {lv : Nat} (V : VE K mg base) (h : 3 ≤ lv) : CallJ P w K mg base lv "covers" 0 ["other", "one"] (kwF 0 2 (fun as bs => pickG [(1, 1), (1, 0)] [] as bs) F_covers) := by
  obtain ⟨fd, Fd, F⟩ := ok_covers (P := P) (w := w) (base := base) V
  have hb := kbindsN Fd (ps := ["one", "other"]) 0 ["other", "one"] [(1, 1), (1, 0)] (fun kV doc pmd an cdv ct us ws l1 l2 => match us, l1, ws, l2 with | [], _, [_, _], _ => rfl)
  exact callJ_kw F h (V.glo 5 rfl) Fd.kp hb (fun G as bs vs zs r1 r2 _ _ => pick_reps [(1, 1), (1, 0)] r1 rfl r2)
def keyO (x : OR) : D := .tup [.int x.1, .int x.2.length, .ftup (x.2.map .str)]
def C__by_price_and_size (lv : Nat) : CC := { N := ["row", "price", "lot"], sc := defScope (top 18), lv := lv, kp := [], brw := [], ali := [], calls := [], bis := [("len", 1)], cons := [], meths := [], keys := [], lam := false, fr := FR }
def b__by_price_and_size : List S := [(.unp (.tp [(.nm 1), (.nm 2)]) (.var 0)), (.ret (.tup [(.var 1), (.bi 0 [(.var 2)]), (.var 2)]))]
theorem sc__by_price_and_size : FnScope ["row", "price", "lot"] ["row"] (defScope (top 18)) := ⟨rfl, rfl, rfl, by decide +kernel, rfl, by decide +kernel, by decide +kernel⟩
theorem d__by_price_and_size (lv : Nat) : DefC (C__by_price_and_size lv) ["row"] (defArgs (top 18)) (defBody (top 18)) (defScope (top 18)) b__by_price_and_size := ⟨sc__by_price_and_size, rfl, rfl, (show ∀ i ∈ ([] : List Nat), i < 1 by decide), by kernel_rfl⟩
abbrev M__by_price_and_size : Sem := mkSem [] [] [lenD] [] [] (atOf AT)
def F__by_price_and_size : FS := fun args R => ∃ x : OR, args = [.sh (rowO x)] ∧ ∀ o, R (.sh (keyO x)) o
theorem p__by_price_and_size : ∀ args R, F__by_price_and_size args R → runF [] 1 3 (wSs M__by_price_and_size b__by_price_and_size) args R := by
  rintro args R ⟨x, rfl, hR⟩
  refine ⟨rfl, ?_⟩
  unfold b__by_price_and_size rowO
  walk_at "SI"
  walk_at "ST"
  exact hR _
theorem ok__by_price_and_size {P : Program} {w : World} {K : PySem.W.Frag} {mg : Str → Option Value} {base : Heap} (V : VE K mg base) : ∃ fd, FunD K "_by_price_and_size" "_by_price_and_size" (defArgs (top 18)) (defBody (top 18)) (defScope (top 18)) [] [] (He.ga K "_by_price_and_size") fd ∧ FnOk P w K mg base CX0 1 (He.ga K "_by_price_and_size") fd ["row"] (spOf K F__by_price_and_size) := by
  obtain ⟨fd, Fd⟩ := V.def_ 6 (d := dd "_by_price_and_size" 18 []) rfl
  exact ⟨fd, Fd, fn_ok Fd (d__by_price_and_size 0) (mkTab .nil (.cons rfl .nil) (show ([("len", 1)] : List (Str × Nat)).all (fun c => decide (c.1 ∈ FR)) = true by decide +kernel) .nil .nil (at_ok V) V.free rfl) (fun h => by cases h) rfl p__by_price_and_size⟩
theorem key__by_price_and_size {P : Program} {w : World} {K : PySem.W.Frag} {mg : Str → Option Value} {base : Heap} {lv : Nat} (V : VE K mg base) (h : 2 ≤ lv) : KeyJ P w K mg base lv "_by_price_and_size" F__by_price_and_size := by
  obtain ⟨fd, Fd, F⟩ := ok__by_price_and_size (P := P) (w := w) (base := base) V
  exact keyJ F h (V.glo 6 rfl) (FunD.bindsN Fd (fun _ _ _ _ _ _ us hl => match us, hl with | [_], _ => rfl))
end K06

namespace K06
open PySem DL
open L2 (V FnOk FunD CX0 defArgs defBody defScope SqL FnScope KBn)
local macro_rules | `(tactic| walk_at "SI") => `(tactic| simp only [wAls, wAug, wTMeth, tmD, wLcv, wSrs, wSrk, wSrl, wLc2, wTs, wCaps, wLMeth, lmD, wEnm, revD, rg1D, rg2D, wCMeth, wStf, putD, fldD, attrD, mkF, dflF, kwF, shs, pickG, pickO, consO, Option.map_some, List.take_nil, wMeth, methD, joinD, strsOf_map, wSs_cons, wSs_nil, Later_nil, wS, wE, wT, wI, wX, wVl, wOl, wAv, mk3, mkT, mkI, opd, wIf, wOr, DL.wAnd, DL.wNot, wBool, wTru, wUn, wOp, wFn, wCons, wNil, wVCons, wVNil, wAvNil, wAvVal, wAvBor, wCall2, wC, wVar, wAndV, wOrV, wNotV, wIte, wLst, wTup, wDct, wChn, wSlc, partE, varOp, asOp, entry, content, resO, resOs, frz, wRet, wRetV, wRetN, wNext, wDrop, wSet, wUnp, wPar, wSti, wBrk, wCnt, wMut, muD_append, muD_insert, muD_pop0, muD_pop1, mAppend, mInsert, mPop, mPopAt, wSeq', wFor, wWhile, wLc, wRng1, wRng2, wZip, itemsD, nth, bindTg, bindTgs, noOw, wipeS, restore, wback_val, wback_nil, wback_bor, List.nodup_nil, List.nodup_cons, List.not_mem_nil, bors, resA, pairD, keyD, le_size, List.replicate_succ, List.replicate_zero, List.length_cons, List.length_nil, List.cons_append, List.nil_append, List.getElem?_cons_zero, List.getElem?_cons_succ, List.getElem?_nil, List.set_cons_zero, List.set_cons_succ, Option.isSome_some, List.map_cons, List.map_nil, List.all_cons, List.all_nil, List.any_cons, List.any_nil, Nat.reduceSub, Nat.reduceAdd, Nat.reduceLT, Nat.reduceLeDiff, reduceIte, reduceCtorEq, Bool.not_true, Bool.not_false, Bool.false_eq_true, and_true, true_and, List.drop_zero, List.drop_succ_cons, List.take_succ_cons, List.take_zero, maxD2, minD2, lenD, intD, boolD, strD, listD, tupleD, allD, anyD, blsD, cmpB, cmpD, binD, addD, subD, mulD, fdivD, modD, powD, negD, idxD, slcD, truD, ltD, gtD, leD, geD, eqD_int, eqD_bl, eqD_str, eqD_non, L2.atI, ixN_lit, Int.reduceToNat, Option.bind_some, List.length_map, List.set_cons_zero, List.set_cons_succ, isNon, inD_ss, inStr_one, isiD, seqOf, lstOf, String.reduceNe, String.reduceEq, ne_eq, not_false_eq_true, not_true_eq_false, Bool.or_true, Bool.or_false, Bool.true_or, Bool.false_or, Bool.and_true, Bool.and_false, Bool.true_and, Bool.false_and, isT_NoneType_bool, isT_NoneType_int, isT_NoneType_str, isT_NoneType_list, isT_NoneType_tuple, isT_NoneType_dict, isT_bool_bool, isT_bool_int, isT_bool_str, isT_bool_list, isT_bool_tuple, isT_bool_dict, isT_int_bool, isT_int_int, isT_int_str, isT_int_list, isT_int_tuple, isT_int_dict, isT_str_bool, isT_str_int, isT_str_str, isT_str_list, isT_str_tuple, isT_str_dict, isT_list_bool, isT_list_int, isT_list_str, isT_list_list, isT_list_tuple, isT_list_dict, isT_tuple_bool, isT_tuple_int, isT_tuple_str, isT_tuple_list, isT_tuple_tuple, isT_tuple_dict, isT_dict_bool, isT_dict_int, isT_dict_str, isT_dict_list, isT_dict_tuple, isT_dict_dict, tyN_non, tyN_bl, tyN_int, tyN_str, tyN_lst, tyN_tup, tyN_ftup, tyN_klst, tyN_dic])
local macro_rules | `(tactic| walk_at "ST") => `(tactic| (refine later ?_; simp only [wAls, wAug, wTMeth, tmD, wLcv, wSrs, wSrk, wSrl, wLc2, wTs, wCaps, wLMeth, lmD, wEnm, revD, rg1D, rg2D, wCMeth, wStf, putD, fldD, attrD, mkF, dflF, kwF, shs, pickG, pickO, consO, Option.map_some, List.take_nil, wMeth, methD, joinD, strsOf_map, wSs_cons, wSs_nil, Later_nil, wS, wE, wT, wI, wX, wVl, wOl, wAv, mk3, mkT, mkI, opd, wIf, wOr, DL.wAnd, DL.wNot, wBool, wTru, wUn, wOp, wFn, wCons, wNil, wVCons, wVNil, wAvNil, wAvVal, wAvBor, wCall2, wC, wVar, wAndV, wOrV, wNotV, wIte, wLst, wTup, wDct, wChn, wSlc, partE, varOp, asOp, entry, content, resO, resOs, frz, wRet, wRetV, wRetN, wNext, wDrop, wSet, wUnp, wPar, wSti, wBrk, wCnt, wMut, muD_append, muD_insert, muD_pop0, muD_pop1, mAppend, mInsert, mPop, mPopAt, wSeq', wFor, wWhile, wLc, wRng1, wRng2, wZip, itemsD, nth, bindTg, bindTgs, noOw, wipeS, restore, wback_val, wback_nil, wback_bor, List.nodup_nil, List.nodup_cons, List.not_mem_nil, bors, resA, pairD, keyD, le_size, List.replicate_succ, List.replicate_zero, List.length_cons, List.length_nil, List.cons_append, List.nil_append, List.getElem?_cons_zero, List.getElem?_cons_succ, List.getElem?_nil, List.set_cons_zero, List.set_cons_succ, Option.isSome_some, List.map_cons, List.map_nil, List.all_cons, List.all_nil, List.any_cons, List.any_nil, Nat.reduceSub, Nat.reduceAdd, Nat.reduceLT, Nat.reduceLeDiff, reduceIte, reduceCtorEq, Bool.not_true, Bool.not_false, Bool.false_eq_true, and_true, true_and, List.drop_zero, List.drop_succ_cons, List.take_succ_cons, List.take_zero, maxD2, minD2, lenD, intD, boolD, strD, listD, tupleD, allD, anyD, blsD, cmpB, cmpD, binD, addD, subD, mulD, fdivD, modD, powD, negD, idxD, slcD, truD, ltD, gtD, leD, geD, eqD_int, eqD_bl, eqD_str, eqD_non, L2.atI, ixN_lit, Int.reduceToNat, Option.bind_some, List.length_map, List.set_cons_zero, List.set_cons_succ, isNon, inD_ss, inStr_one, isiD, seqOf, lstOf, String.reduceNe, String.reduceEq, ne_eq, not_false_eq_true, not_true_eq_false, Bool.or_true, Bool.or_false, Bool.true_or, Bool.false_or, Bool.and_true, Bool.and_false, Bool.true_and, Bool.false_and, isT_NoneType_bool, isT_NoneType_int, isT_NoneType_str, isT_NoneType_list, isT_NoneType_tuple, isT_NoneType_dict, isT_bool_bool, isT_bool_int, isT_bool_str, isT_bool_list, isT_bool_tuple, isT_bool_dict, isT_int_bool, isT_int_int, isT_int_str, isT_int_list, isT_int_tuple, isT_int_dict, isT_str_bool, isT_str_int, isT_str_str, isT_str_list, isT_str_tuple, isT_str_dict, isT_list_bool, isT_list_int, isT_list_str, isT_list_list, isT_list_tuple, isT_list_dict, isT_tuple_bool, isT_tuple_int, isT_tuple_str, isT_tuple_list, isT_tuple_tuple, isT_tuple_dict, isT_dict_bool, isT_dict_int, isT_dict_str, isT_dict_list, isT_dict_tuple, isT_dict_dict, tyN_non, tyN_bl, tyN_int, tyN_str, tyN_lst, tyN_tup, tyN_ftup, tyN_klst, tyN_dic]))
theorem depth_strs : ∀ l : List Str, PyData.depthAll (l.map .str) = 0
  | [] => rfl
  | a :: l => by
    show max 0 (PyData.depthAll (l.map .str)) = 0
    rw [depth_strs l]; rfl
theorem toPs_strs (l : List Str) : toPs (l.map .str) = some (l.map .str) := toPs_map D.str PyData.str (fun _ => rfl) l
theorem keyO_toP (x : OR) : toP (keyO x) = some (datK x) := by
  simp [keyO, toP, toPs, toPs_strs, datK]
def keyF (d : D) : D := match d with
  | .tup [.int p, .ftup ss] => .tup [.int p, .int ss.length, .ftup ss]
  | _ => .non
theorem keyF_row (x : OR) : keyF (rowO x) = keyO x := by
  show D.tup [.int x.1, .int ((x.2.map D.str).length : Nat), .ftup (x.2.map .str)] = _
  rw [List.length_map]; rfl
theorem key_sorted {L : List OR} {R : Sl → Prop} (h : ∀ S : List OR, S.Perm L → S.Pairwise (leD' datK) → R (.ow (.lst (S.map rowO)))) : srtR keyF (L.map rowO) R := by
  have e : (L.map rowO).map keyF = L.map keyO := by rw [List.map_map]; exact List.map_congr_left fun x _ => keyF_row x
  unfold srtR
  rw [e, toPs_map keyO datK keyO_toP L]
  refine ⟨⟨fun d hd d' hd' => ?_, .inl fun d hd => ?_, fun d hd => ?_⟩, ?_⟩
  · obtain ⟨x, _, rfl⟩ := List.mem_map.mp hd
    obtain ⟨y, _, rfl⟩ := List.mem_map.mp hd'
    show (true && (true && (PySem.W.alikeAll (x.2.map .str) (y.2.map .str) && true))) = true
    rw [alike_text]; rfl
  · obtain ⟨x, _, rfl⟩ := List.mem_map.mp hd
    exact ⟨_, _, rfl⟩
  · obtain ⟨x, _, rfl⟩ := List.mem_map.mp hd
    show max 0 (max 0 (max (PyData.depthAll (x.2.map .str) + 1) 0)) + 1 ≤ 64
    rw [depth_strs]; decide
  · have e2 : sortBy (fun x => toPD (keyF x)) (L.map rowO) = (L.mergeSort (PySem.W.dataLe false datK)).map rowO := by
      unfold sortBy
      refine (List.map_mergeSort fun a _ b _ => ?_).symm
      show PySem.W.dataLe false datK a b = PySem.W.dataLe false (fun x => toPD (keyF (rowO x))) a b
      have : (fun x => toPD (keyF (rowO x))) = datK := funext fun x => by rw [keyF_row]; unfold toPD; rw [keyO_toP]; rfl
      rw [this]
    rw [e2]
    exact h _ (List.mergeSort_perm _ _) (sort_pw L)
def cc (x y : OR) : Prop := cO x y = true
def OpenR (L : List OR) (r : D) : Prop := (L = [] ∧ r = .non) ∨ ∃ T : List OR, T ≠ [] ∧ r = .tup (T.map rowO) ∧ Thin cc (L.map nO) T ∧ T.Pairwise CO.lt ∧ T.length ≤ L.length
def C_thin_open (lv : Nat) : CC := { N := ["rows", "ordered", "kept", "row", "price", "lot", "rival"], sc := defScope (top 19), lv := lv, kp := [], brw := [2], ali := [], calls := [("_covers_in_order", 2, [])], bis := [("tuple", 1), ("sorted", 1), ("any", 1)], cons := [], meths := [], keys := ["_by_price_and_size"], lam := false, fr := FR }
def b_thin_open : List S := [(.set 1 (.lc (.tup [(.var 4), (.bi 0 [(.bi 1 [(.var 5)])])]) (.tp [(.nm 4), (.nm 5)]) (.var 0) [] [4, 5])), (.set 2 (.lst [])), (.for (.nm 3) (.srk 0 (.var 1)) [(.ifs (.nt (.bi 2 [(.lcv (.call 0 [(.var 6), (.var 3)] []) (.nm 6) 2 [] [6])])) [(.expr (.mut "append" 2 [(.var 3)]))] [])]), (.ret (.ite (.var 2) (.bi 0 [(.bi 1 [(.var 2)])]) .non))]
theorem sc_thin_open : FnScope ["rows", "ordered", "kept", "row", "price", "lot", "rival"] ["rows"] (defScope (top 19)) := ⟨rfl, rfl, rfl, by decide +kernel, rfl, by decide +kernel, by decide +kernel⟩
theorem d_thin_open (lv : Nat) : DefC (C_thin_open lv) ["rows"] (defArgs (top 19)) (defBody (top 19)) (defScope (top 19)) b_thin_open := ⟨sc_thin_open, rfl, rfl, (show ∀ i ∈ ([] : List Nat), i < 1 by decide), by kernel_rfl⟩
abbrev M_thin_open : Sem := mkSemK [] [F__covers_in_order] [tupleD, sortedD, anyD] [] [] (atOf AT) [F__by_price_and_size]
def F_thin_open : FS := fun args R => ∃ (t : D) (L : List OR), args = [.sh t] ∧ seqOf t = some (L.map rowO) ∧ (∀ r ∈ L, okR r) ∧ L.length ≤ 1000 ∧ ∀ r, OpenR L r → ∀ o, R (.sh r) o
theorem p_thin_open : ∀ args R, F_thin_open args R → runF [] 1 7 (wSs M_thin_open b_thin_open) args R := by
  rintro args R ⟨t, L, rfl, ht, hok, hl, hR⟩
  refine ⟨rfl, ?_⟩
  unfold b_thin_open
  have it : itemsD t = some (L.map rowO) := by cases t <;> first | exact ht | cases ht
  unfold itemsD at it
  walk_at "SI"
  rw [it]
  simp only
  refine ⟨Nat.le_trans (show (L.map rowO).length ≤ 1000 by rw [List.length_map]; exact hl) (by decide), ?_⟩
  refine lcGo_mapg rowO (fun x => rowO (nO x)) L _ (fun x hx => ⟨_, rfl, rfl, fun Q q => ?_⟩) ?_
  · walk_at "SI"
    refine str_sorted (l := x.2) rfl ?_
    walk_at "SI"
    exact .inr (q _ rfl)
  have e0 : (L.map fun x => rowO (nO x)) = (L.map nO).map rowO := by rw [List.map_map]; rfl
  rw [e0]
  have hokN : ∀ r ∈ L.map nO, okR r ∧ Srtd r := fun r hr => by
    obtain ⟨x, hx, rfl⟩ := List.mem_map.mp hr
    exact ⟨okR_nO (hok x hx), nO_srtd x⟩
  have hlN : (L.map nO).length = L.length := List.length_map ..
  generalize hN : L.map nO = N at hokN hlN
  walk_at "ST"
  refine later ?_
  walk_at "SI"
  refine ⟨keyF, fun d hd => ?_, ?_⟩
  · obtain ⟨x, _, rfl⟩ := List.mem_map.mp hd
    exact ⟨x, rfl, fun o => (keyF_row x).symm⟩
  refine key_sorted fun S pm so => ?_
  walk_at "SI"
  have hS : ∀ r ∈ S, okR r ∧ Srtd r := fun r hr => hokN r (pm.mem_iff.mp hr)
  have hlS : S.length = N.length := pm.length_eq
  have cr : ∀ x : OR, cc x x := cO_refl
  refine forGo_ind (fun ds s => ∃ (A B K : List OR) (a3 : Sl), S = A ++ B ∧ ds = B.map rowO ∧ s = [.sh t, .ow (.lst (N.map rowO)), .ow (.lst (K.map rowO)), a3, .no, .no, .no] ∧ Grd cc A B K ∧ K.length ≤ A.length) ?_ ?_ _ _ ⟨[], S, [], .no, rfl, rfl, rfl, ⟨fun x h => (by cases h), .nil, fun x h => (by cases h), fun x h => (by cases h)⟩, Nat.le_refl _⟩
  · rintro s ⟨A, B, K, a3, h0, h1, rfl, g, hk⟩
    cases B with
    | cons x B => cases h1
    | nil =>
    rw [List.append_nil] at h0
    subst h0
    refine later ?_
    walk_at "SI"
    cases K with
    | nil =>
      refine hR _ (.inl ⟨?_, rfl⟩) _
      cases N with
      | nil => exact List.map_eq_nil_iff.mp hN
      | cons z N =>
        obtain ⟨y, hy, _⟩ := g.cov z (pm.mem_iff.mpr (.head _))
        cases hy
    | cons k K =>
      rw [if_pos (show (!(List.map rowO (k :: K)).isEmpty) = true from rfl)]
      refine CO.srt (L := k :: K) rfl fun T pT sT => ?_
      walk_at "SI"
      refine .inl (hR _ (.inr ⟨T, fun e => by rw [e] at pT; exact absurd pT.symm.eq_nil (by simp), rfl, ?_, ?_, ?_⟩) _)
      · rw [hN]
        exact g.thin.perm (fun x => pm.mem_iff) fun x => pT.symm.mem_iff
      · exact (sT.and (pT.symm.nodup_iff.mp (g.nodup cr)))
      · rw [pT.length_eq]; omega
  · rintro d ds s ⟨A, B, K, a3, h0, h1, rfl, g, hk⟩ J hJ
    cases B with
    | nil => cases h1
    | cons z B =>
    cases h1
    refine ⟨_, rfl, ?_⟩
    have hz := hS z (by rw [h0]; exact List.mem_append_right _ (.head _))
    have so' := so
    rw [h0] at so'
    obtain ⟨_, soB, soX⟩ := List.pairwise_append.mp so'
    have hlenK : K.length < sizeLine := Nat.lt_of_le_of_lt (show K.length ≤ 1000 by have := congrArg List.length h0; simp only [List.length_append, List.length_cons] at this; omega) (by decide)
    walk_at "SI"
    refine ⟨Nat.le_of_lt hlenK, ?_⟩
    refine lcGo_mapg rowO (fun x => .bl (cO x z)) K _ (fun p hp' => ⟨_, rfl, rfl, fun Q q => ?_⟩) ?_
    · have hp := hS p (by rw [h0]; exact List.mem_append_left _ (g.sub p hp'))
      walk_at "SI"
      exact ⟨p, z, _, _, rfl, .inr rfl, .inr rfl, hp.2, hz.2, hp.1, hz.1, fun o => q _ rfl⟩
    rw [any_bls]
    simp only [blsOf_map, wAls, wAug, wTMeth, tmD, wLcv, wSrs, wSrk, wSrl, wLc2, wTs, wCaps, wLMeth, lmD, wEnm, revD, rg1D, rg2D, wCMeth, wStf, putD, fldD, attrD, mkF, dflF, kwF, shs, pickG, pickO, consO, Option.map_some, List.take_nil, wMeth, methD, joinD, strsOf_map, wSs_cons, wSs_nil, Later_nil, wS, wE, wT, wI, wX, wVl, wOl, wAv, mk3, mkT, mkI, opd, wIf, wOr, DL.wAnd, DL.wNot, wBool, wTru, wUn, wOp, wFn, wCons, wNil, wVCons, wVNil, wAvNil, wAvVal, wAvBor, wCall2, wC, wVar, wAndV, wOrV, wNotV, wIte, wLst, wTup, wDct, wChn, wSlc, partE, varOp, asOp, entry, content, resO, resOs, frz, wRet, wRetV, wRetN, wNext, wDrop, wSet, wUnp, wPar, wSti, wBrk, wCnt, wMut, muD_append, muD_insert, muD_pop0, muD_pop1, mAppend, mInsert, mPop, mPopAt, wSeq', wFor, wWhile, wLc, wRng1, wRng2, wZip, itemsD, nth, bindTg, bindTgs, noOw, wipeS, restore, wback_val, wback_nil, wback_bor, List.nodup_nil, List.nodup_cons, List.not_mem_nil, bors, resA, pairD, keyD, le_size, List.replicate_succ, List.replicate_zero, List.length_cons, List.length_nil, List.cons_append, List.nil_append, List.getElem?_cons_zero, List.getElem?_cons_succ, List.getElem?_nil, List.set_cons_zero, List.set_cons_succ, Option.isSome_some, List.map_cons, List.map_nil, List.all_cons, List.all_nil, List.any_cons, List.any_nil, Nat.reduceSub, Nat.reduceAdd, Nat.reduceLT, Nat.reduceLeDiff, reduceIte, reduceCtorEq, Bool.not_true, Bool.not_false, Bool.false_eq_true, and_true, true_and, List.drop_zero, List.drop_succ_cons, List.take_succ_cons, List.take_zero, maxD2, minD2, lenD, intD, boolD, strD, listD, tupleD, allD, anyD, blsD, cmpB, cmpD, binD, addD, subD, mulD, fdivD, modD, powD, negD, idxD, slcD, truD, ltD, gtD, leD, geD, eqD_int, eqD_bl, eqD_str, eqD_non, L2.atI, ixN_lit, Int.reduceToNat, Option.bind_some, List.length_map, List.set_cons_zero, List.set_cons_succ, isNon, inD_ss, inStr_one, isiD, seqOf, lstOf, String.reduceNe, String.reduceEq, ne_eq, not_false_eq_true, not_true_eq_false, Bool.or_true, Bool.or_false, Bool.true_or, Bool.false_or, Bool.and_true, Bool.and_false, Bool.true_and, Bool.false_and, isT_NoneType_bool, isT_NoneType_int, isT_NoneType_str, isT_NoneType_list, isT_NoneType_tuple, isT_NoneType_dict, isT_bool_bool, isT_bool_int, isT_bool_str, isT_bool_list, isT_bool_tuple, isT_bool_dict, isT_int_bool, isT_int_int, isT_int_str, isT_int_list, isT_int_tuple, isT_int_dict, isT_str_bool, isT_str_int, isT_str_str, isT_str_list, isT_str_tuple, isT_str_dict, isT_list_bool, isT_list_int, isT_list_str, isT_list_list, isT_list_tuple, isT_list_dict, isT_tuple_bool, isT_tuple_int, isT_tuple_str, isT_tuple_list, isT_tuple_tuple, isT_tuple_dict, isT_dict_bool, isT_dict_int, isT_dict_str, isT_dict_list, isT_dict_tuple, isT_dict_dict, tyN_non, tyN_bl, tyN_int, tyN_str, tyN_lst, tyN_tup, tyN_ftup, tyN_klst, tyN_dic]
    cases hcl : (K.map fun x => cO x z).any id with
    | true =>
      walk_at "SI"
      rw [List.any_map] at hcl
      obtain ⟨y, hy, q⟩ := List.any_eq_true.mp hcl
      exact hJ _ ⟨A ++ [z], B, K, _, by rw [h0, List.append_assoc]; rfl, rfl, rfl, g.skip ⟨y, hy, q⟩, by rw [List.length_append]; exact Nat.le_succ_of_le hk⟩
    | false =>
      rw [List.any_map, List.any_eq_false] at hcl
      walk_at "SI"
      refine ⟨hlenK, hJ _ ⟨A ++ [z], B, K ++ [z], .sh (rowO z), by rw [h0, List.append_assoc]; rfl, rfl, by rw [List.map_append]; rfl, g.push cr (fun ⟨y, hy, q⟩ => hcl y hy q) fun v hv q => ?_, by rw [List.length_append, List.length_append]; exact Nat.succ_le_succ hk⟩⟩
      have h3 := (List.pairwise_cons.mp soB).1 v hv
      have hv2 := hS v (by rw [h0]; exact List.mem_append_right _ (.tail _ hv))
      exact datK_cov hz.2 hv2.2 h3 q
theorem ok_thin_open {P : Program} {w : World} {K : PySem.W.Frag} {mg : Str → Option Value} {base : Heap} (V : VE K mg base) : ∃ fd, FunD K "thin_open" "thin_open" (defArgs (top 19)) (defBody (top 19)) (defScope (top 19)) [] [] (He.ga K "thin_open") fd ∧ FnOk P w K mg base CX0 3 (He.ga K "thin_open") fd ["rows"] (spOf K F_thin_open) := by
  obtain ⟨fd, Fd⟩ := V.def_ 7 (d := dd "thin_open" 19 []) rfl
  exact ⟨fd, Fd, fn_ok Fd (d_thin_open 2) (mkTabK (.cons (cj__covers_in_order_2 V (by first | decide | omega)) .nil) (.cons rfl (.cons rfl (.cons rfl .nil))) (show ([("tuple", 1), ("sorted", 1), ("any", 1)] : List (Str × Nat)).all (fun c => decide (c.1 ∈ FR)) = true by decide +kernel) .nil .nil (at_ok V) V.free (.cons (key__by_price_and_size V (by first | decide | omega)) .nil)) (fun h => by cases h) rfl p_thin_open⟩
theorem cj_thin_open_1 {P : Program} {w : World} {K : PySem.W.Frag} {mg : Str → Option Value} {base : Heap} {lv : Nat} (V : VE K mg base) (h : 3 ≤ lv) : CallJ P w K mg base lv "thin_open" 1 [] F_thin_open := by
  obtain ⟨fd, Fd, F⟩ := ok_thin_open (P := P) (w := w) (base := base) V
  exact callJ F h (V.glo 7 rfl) Fd.kp (FunD.bindsN Fd (fun _ _ _ _ _ _ us hl => match us, hl with | [_], _ => rfl)) 1
theorem cj_thin_open_0_rows {P : Program} {w : World} {K : PySem.W.Frag} {mg : Str → Option Value} {base : Heap} {lv : Nat} (V : VE K mg base) (h : 3 ≤ lv) : CallJ P w K mg base lv "thin_open" 0 ["rows"] (kwF 0 1 (fun as bs => pickG [(1, 0)] [] as bs) F_thin_open) := by
  obtain ⟨fd, Fd, F⟩ := ok_thin_open (P := P) (w := w) (base := base) V
  have hb := kbindsN Fd (ps := ["rows"]) 0 ["rows"] [(1, 0)] (fun kV doc pmd an cdv ct us ws l1 l2 => match us, l1, ws, l2 with | [], _, [_], _ => rfl)
  exact callJ_kw F h (V.glo 7 rfl) Fd.kp hb (fun G as bs vs zs r1 r2 _ _ => pick_reps [(1, 0)] r1 rfl r2)
end K06

namespace K06
open PySem DL
open L2 (V FnOk FunD CX0 defArgs defBody defScope SqL FnScope KBn)
local macro_rules | `(tactic| walk_at "SI") => `(tactic| simp only [wAls, wAug, wTMeth, tmD, wLcv, wSrs, wSrk, wSrl, wLc2, wTs, wCaps, wLMeth, lmD, wEnm, revD, rg1D, rg2D, wCMeth, wStf, putD, fldD, attrD, mkF, dflF, kwF, shs, pickG, pickO, consO, Option.map_some, List.take_nil, wMeth, methD, joinD, strsOf_map, wSs_cons, wSs_nil, Later_nil, wS, wE, wT, wI, wX, wVl, wOl, wAv, mk3, mkT, mkI, opd, wIf, wOr, DL.wAnd, DL.wNot, wBool, wTru, wUn, wOp, wFn, wCons, wNil, wVCons, wVNil, wAvNil, wAvVal, wAvBor, wCall2, wC, wVar, wAndV, wOrV, wNotV, wIte, wLst, wTup, wDct, wChn, wSlc, partE, varOp, asOp, entry, content, resO, resOs, frz, wRet, wRetV, wRetN, wNext, wDrop, wSet, wUnp, wPar, wSti, wBrk, wCnt, wMut, muD_append, muD_insert, muD_pop0, muD_pop1, mAppend, mInsert, mPop, mPopAt, wSeq', wFor, wWhile, wLc, wRng1, wRng2, wZip, itemsD, nth, bindTg, bindTgs, noOw, wipeS, restore, wback_val, wback_nil, wback_bor, List.nodup_nil, List.nodup_cons, List.not_mem_nil, bors, resA, pairD, keyD, le_size, List.replicate_succ, List.replicate_zero, List.length_cons, List.length_nil, List.cons_append, List.nil_append, List.getElem?_cons_zero, List.getElem?_cons_succ, List.getElem?_nil, List.set_cons_zero, List.set_cons_succ, Option.isSome_some, List.map_cons, List.map_nil, List.all_cons, List.all_nil, List.any_cons, List.any_nil, Nat.reduceSub, Nat.reduceAdd, Nat.reduceLT, Nat.reduceLeDiff, reduceIte, reduceCtorEq, Bool.not_true, Bool.not_false, Bool.false_eq_true, and_true, true_and, List.drop_zero, List.drop_succ_cons, List.take_succ_cons, List.take_zero, maxD2, minD2, lenD, intD, boolD, strD, listD, tupleD, allD, anyD, blsD, cmpB, cmpD, binD, addD, subD, mulD, fdivD, modD, powD, negD, idxD, slcD, truD, ltD, gtD, leD, geD, eqD_int, eqD_bl, eqD_str, eqD_non, L2.atI, ixN_lit, Int.reduceToNat, Option.bind_some, List.length_map, List.set_cons_zero, List.set_cons_succ, isNon, inD_ss, inStr_one, isiD, seqOf, lstOf, String.reduceNe, String.reduceEq, ne_eq, not_false_eq_true, not_true_eq_false, Bool.or_true, Bool.or_false, Bool.true_or, Bool.false_or, Bool.and_true, Bool.and_false, Bool.true_and, Bool.false_and, isT_NoneType_bool, isT_NoneType_int, isT_NoneType_str, isT_NoneType_list, isT_NoneType_tuple, isT_NoneType_dict, isT_bool_bool, isT_bool_int, isT_bool_str, isT_bool_list, isT_bool_tuple, isT_bool_dict, isT_int_bool, isT_int_int, isT_int_str, isT_int_list, isT_int_tuple, isT_int_dict, isT_str_bool, isT_str_int, isT_str_str, isT_str_list, isT_str_tuple, isT_str_dict, isT_list_bool, isT_list_int, isT_list_str, isT_list_list, isT_list_tuple, isT_list_dict, isT_tuple_bool, isT_tuple_int, isT_tuple_str, isT_tuple_list, isT_tuple_tuple, isT_tuple_dict, isT_dict_bool, isT_dict_int, isT_dict_str, isT_dict_list, isT_dict_tuple, isT_dict_dict, tyN_non, tyN_bl, tyN_int, tyN_str, tyN_lst, tyN_tup, tyN_ftup, tyN_klst, tyN_dic])
local macro_rules | `(tactic| walk_at "ST") => `(tactic| (refine later ?_; simp only [wAls, wAug, wTMeth, tmD, wLcv, wSrs, wSrk, wSrl, wLc2, wTs, wCaps, wLMeth, lmD, wEnm, revD, rg1D, rg2D, wCMeth, wStf, putD, fldD, attrD, mkF, dflF, kwF, shs, pickG, pickO, consO, Option.map_some, List.take_nil, wMeth, methD, joinD, strsOf_map, wSs_cons, wSs_nil, Later_nil, wS, wE, wT, wI, wX, wVl, wOl, wAv, mk3, mkT, mkI, opd, wIf, wOr, DL.wAnd, DL.wNot, wBool, wTru, wUn, wOp, wFn, wCons, wNil, wVCons, wVNil, wAvNil, wAvVal, wAvBor, wCall2, wC, wVar, wAndV, wOrV, wNotV, wIte, wLst, wTup, wDct, wChn, wSlc, partE, varOp, asOp, entry, content, resO, resOs, frz, wRet, wRetV, wRetN, wNext, wDrop, wSet, wUnp, wPar, wSti, wBrk, wCnt, wMut, muD_append, muD_insert, muD_pop0, muD_pop1, mAppend, mInsert, mPop, mPopAt, wSeq', wFor, wWhile, wLc, wRng1, wRng2, wZip, itemsD, nth, bindTg, bindTgs, noOw, wipeS, restore, wback_val, wback_nil, wback_bor, List.nodup_nil, List.nodup_cons, List.not_mem_nil, bors, resA, pairD, keyD, le_size, List.replicate_succ, List.replicate_zero, List.length_cons, List.length_nil, List.cons_append, List.nil_append, List.getElem?_cons_zero, List.getElem?_cons_succ, List.getElem?_nil, List.set_cons_zero, List.set_cons_succ, Option.isSome_some, List.map_cons, List.map_nil, List.all_cons, List.all_nil, List.any_cons, List.any_nil, Nat.reduceSub, Nat.reduceAdd, Nat.reduceLT, Nat.reduceLeDiff, reduceIte, reduceCtorEq, Bool.not_true, Bool.not_false, Bool.false_eq_true, and_true, true_and, List.drop_zero, List.drop_succ_cons, List.take_succ_cons, List.take_zero, maxD2, minD2, lenD, intD, boolD, strD, listD, tupleD, allD, anyD, blsD, cmpB, cmpD, binD, addD, subD, mulD, fdivD, modD, powD, negD, idxD, slcD, truD, ltD, gtD, leD, geD, eqD_int, eqD_bl, eqD_str, eqD_non, L2.atI, ixN_lit, Int.reduceToNat, Option.bind_some, List.length_map, List.set_cons_zero, List.set_cons_succ, isNon, inD_ss, inStr_one, isiD, seqOf, lstOf, String.reduceNe, String.reduceEq, ne_eq, not_false_eq_true, not_true_eq_false, Bool.or_true, Bool.or_false, Bool.true_or, Bool.false_or, Bool.and_true, Bool.and_false, Bool.true_and, Bool.false_and, isT_NoneType_bool, isT_NoneType_int, isT_NoneType_str, isT_NoneType_list, isT_NoneType_tuple, isT_NoneType_dict, isT_bool_bool, isT_bool_int, isT_bool_str, isT_bool_list, isT_bool_tuple, isT_bool_dict, isT_int_bool, isT_int_int, isT_int_str, isT_int_list, isT_int_tuple, isT_int_dict, isT_str_bool, isT_str_int, isT_str_str, isT_str_list, isT_str_tuple, isT_str_dict, isT_list_bool, isT_list_int, isT_list_str, isT_list_list, isT_list_tuple, isT_list_dict, isT_tuple_bool, isT_tuple_int, isT_tuple_str, isT_tuple_list, isT_tuple_tuple, isT_tuple_dict, isT_dict_bool, isT_dict_int, isT_dict_str, isT_dict_list, isT_dict_tuple, isT_dict_dict, tyN_non, tyN_bl, tyN_int, tyN_str, tyN_lst, tyN_tup, tyN_ftup, tyN_klst, tyN_dic]))
def NameS (z : Str) : Prop := okS z ∧ nameB (.str z) = true
theorem NameS.thing {z : Str} (h : NameS z) : Thing (.str z) := ⟨(show "str" ≠ "?" by decide), fun z' e => by cases e; exact h.1⟩
theorem inD_tup {d : D} {xs : List D} {Q : Bool → Prop} (h : inT d xs Q) : inD d (.tup xs) Q := by cases d <;> exact h
theorem inT_flat {d : D} {xs : List D} {Q : Bool → Prop} (h1 : flatD d = true) (h2 : xs.all flatD = true) (q : Q (xs.any fun y => eqF y d)) : inT d xs Q := .inl ⟨⟨h1, h2⟩, q⟩
def tradeD (z0 z1 : Str) : D := .ins "Trade" ["_wishes", "stay"] [.lst [.str z0, .str z1], .tup [.tup [.int 0, .int 0]]]
theorem ne7 : (Str.ofString "_wishes" = Str.ofString "stay") = False := eq_false (by decide)
def F_Trade___init__ : FS := fun args R => ∃ z0 z1 : Str, args = [.ow (.ins "Trade" [] []), .sh (.tup [.str z0, .str z1])] ∧ NameS z0 ∧ NameS z1 ∧ z0 ≠ z1 ∧ R (.sh .non) [.ow (tradeD z0 z1), .no]
def C_Trade___init__ (lv : Nat) : CC := { N := ["self", "wishes", "wish", "at"], sc := defScope (mem 21 0), lv := lv, kp := [0], brw := [], ali := [], calls := [("is_name", 1, [])], bis := [("len", 1), ("list", 1)], cons := [], meths := [], keys := [], lam := false, fr := FR }
def b_Trade___init__ : List S := [(.ifs (.nt (.chn .LtE .LtE (.int 2) (.bi 0 [(.var 1)]) (.int 4))) [.bad] []), (.for (.nm 2) (.var 1) [(.ifs (.nt (.call 0 [(.var 2)] [])) [.bad] [])]), (.for (.tp [(.nm 3), (.nm 2)]) (.enm (.var 1)) [(.ifs (.cmp .In (.var 2) (.slc (.var 1) .bad (.var 3))) [.bad] [])]), (.stf 0 "_wishes" (.bi 1 [(.var 1)])), (.stf 0 "stay" (.tup [(.bin .Mult (.tup [(.int 0)]) (.bi 0 [(.var 1)]))]))]
theorem sc_Trade___init__ : FnScope ["self", "wishes", "wish", "at"] ["self", "wishes"] (defScope (mem 21 0)) := ⟨rfl, rfl, rfl, by decide +kernel, rfl, by decide +kernel, by decide +kernel⟩
theorem d_Trade___init__ (lv : Nat) : DefC (C_Trade___init__ lv) ["self", "wishes"] (defArgs (mem 21 0)) (defBody (mem 21 0)) (defScope (mem 21 0)) b_Trade___init__ := ⟨sc_Trade___init__, rfl, rfl, (show ∀ i ∈ ([0] : List Nat), i < 2 by decide), by kernel_rfl⟩
abbrev M_Trade___init__ : Sem := mkSem [0] [F_is_name] [lenD, listD] [] [] (atOf AT)
theorem p_Trade___init__ : ∀ args R, F_Trade___init__ args R → runF [0] 2 4 (wSs M_Trade___init__ b_Trade___init__) args R := by
  rintro args R ⟨z0, z1, rfl, n0, n1, hne, hR⟩
  refine ⟨rfl, ?_⟩
  unfold b_Trade___init__
  walk_at "SI"
  walk_at "ST"
  refine forGo_ind (fun ds s => ∃ a2 : Sl, (∀ d ∈ ds, ∃ z, d = .str z ∧ NameS z) ∧ s = [.ow (.ins "Trade" [] []), .sh (.tup [.str z0, .str z1]), a2, .no]) ?_ ?_ _ _ ⟨.no, fun d hd => ?_, rfl⟩
  · rintro s ⟨a2, _, rfl⟩
    walk_at "ST"
    refine forGo_ind (fun ds s => ∃ a2 a3 : Sl, (ds = [.tup [.int 0, .str z0], .tup [.int 1, .str z1]] ∨ ds = [.tup [.int 1, .str z1]] ∨ ds = []) ∧ s = [.ow (.ins "Trade" [] []), .sh (.tup [.str z0, .str z1]), a2, a3]) ?_ ?_ _ _ ⟨a2, .no, .inl rfl, rfl⟩
    · rintro s ⟨a2, a3, _, rfl⟩
      walk_at "ST"
      refine ⟨rfl, ?_⟩
      refine later ?_
      walk_at "SI"
      refine ⟨⟨by decide, by decide⟩, rfl, ?_⟩
      simp only [ne7, if_false]
      exact hR
    · rintro d ds s ⟨a2, a3, h, rfl⟩ J hJ
      rcases h with h | h | h
      · cases h
        refine ⟨_, rfl, ?_⟩
        walk_at "SI"
        rw [show (0 : Int) = ((0 : Nat) : Int) from rfl, cutL_to]
        refine inD_tup (xs := []) <| inT_flat (d := .str z0) (xs := []) rfl rfl ?_
        walk_at "SI"
        exact hJ _ ⟨_, _, .inr (.inl rfl), rfl⟩
      · cases h
        refine ⟨_, rfl, ?_⟩
        walk_at "SI"
        rw [show (1 : Int) = ((1 : Nat) : Int) from rfl, cutL_to]
        refine inD_tup (xs := [.str z0]) <| inT_flat (d := .str z1) (xs := [.str z0]) rfl rfl ?_
        have e : (([.str z0] : List D).any fun y => eqF y (.str z1)) = false := by
          show ((z0 == z1) || false) = false
          rw [beq_eq_false_iff_ne.mpr hne]; rfl
        rw [e]
        walk_at "SI"
        exact hJ _ ⟨_, _, .inr (.inr rfl), rfl⟩
      · cases h
  · rintro d ds s ⟨a2, h, rfl⟩ J hJ
    obtain ⟨z, rfl, hz⟩ := h d (.head _)
    refine ⟨_, rfl, ?_⟩
    walk_at "SI"
    refine ⟨_, rfl, hz.thing, fun o => ?_⟩
    rw [hz.2]
    walk_at "SI"
    exact hJ _ ⟨_, fun d m => h d (.tail _ m), rfl⟩
  · simp only [List.mem_cons, List.not_mem_nil, or_false] at hd
    rcases hd with rfl | rfl
    · exact ⟨_, rfl, n0⟩
    · exact ⟨_, rfl, n1⟩
theorem ok_Trade___init__ {P : Program} {w : World} {K : PySem.W.Frag} {mg : Str → Option Value} {base : Heap} (V : VE K mg base) : ∃ fd, FunD K "__init__" "Trade.__init__" (defArgs (mem 21 0)) (defBody (mem 21 0)) (defScope (mem 21 0)) [] [] (He.ma K (He.ga K "Trade") "__init__") fd ∧ L2.FnR P w K mg base CX0 2 (He.ma K (He.ga K "Trade") "__init__") (fun vs H Q E => ∃ ws rest, vs = ws ++ rest ∧ ws.length = 1 ∧ rest.length ≤ sizeLine ∧ ∀ p, H p = none → spOf K F_Trade___init__ (ws ++ [L2.V.ref p]) (L2.upd H p (.tup rest)) Q E) := by
  obtain ⟨fd, Fd⟩ := V.def_ 8 (d := dm "Trade" "__init__" "Trade.__init__" 21 0 []) rfl
  exact ⟨fd, Fd, fn_okS rfl Fd (d_Trade___init__ 1) (mkTab (.cons (cj_is_name_1 V (by first | decide | omega)) .nil) (.cons rfl (.cons rfl .nil)) (show ([("len", 1), ("list", 1)] : List (Str × Nat)).all (fun c => decide (c.1 ∈ FR)) = true by decide +kernel) .nil .nil (at_ok V) V.free rfl) rfl rfl p_Trade___init__⟩
theorem cj_Trade_2 {P : Program} {w : World} {K : PySem.W.Frag} {mg : Str → Option Value} {base : Heap} {lv : Nat} (V : VE K mg base) (h : 3 ≤ lv) : CallJ P w K mg base lv "Trade" 2 [] (mkF "Trade" (starF 1 F_Trade___init__)) := by
  obtain ⟨fd, Fd, F⟩ := ok_Trade___init__ (P := P) (w := w) (base := base) V
  exact callJ_mkS (V.mkr 29 rfl) F h (V.glo 27 rfl) 2 (by decide)

def C_Trade_best (lv : Nat) : CC := { N := ["self", "one", "other"], sc := defScope (mem 21 2), lv := lv, kp := [], brw := [], ali := [], calls := [("thin_rows", 1, [])], bis := [], cons := [], meths := [], keys := [], lam := false, fr := FR }
def b_Trade_best : List S := [(.ifs (.cmp .Is (.var 1) .non) [(.retv 2)] []), (.ifs (.cmp .Is (.var 2) .non) [(.retv 1)] []), (.ret (.call 0 [(.bin .Add (.var 1) (.var 2))] []))]
theorem sc_Trade_best : FnScope ["self", "one", "other"] ["self", "one", "other"] (defScope (mem 21 2)) := ⟨rfl, rfl, rfl, by decide +kernel, rfl, by decide +kernel, by decide +kernel⟩
theorem d_Trade_best (lv : Nat) : DefC (C_Trade_best lv) ["self", "one", "other"] (defArgs (mem 21 2)) (defBody (mem 21 2)) (defScope (mem 21 2)) b_Trade_best := ⟨sc_Trade_best, rfl, rfl, (show ∀ i ∈ ([] : List Nat), i < 3 by decide), by kernel_rfl⟩
abbrev M_Trade_best : Sem := mkSem [] [F_thin_rows] [] [] [] (atOf AT)
def F_Trade_best : FS := fun args R => ∃ (z0 z1 : Str) (P Q : List IR) (w : Nat), args = [.sh (tradeD z0 z1), .sh (.tup (P.map CI.enc)), .sh (.tup (Q.map CI.enc))] ∧ (∀ r ∈ P ++ Q, r.2.length = w) ∧ w ≤ 10 ∧ P.length + Q.length ≤ 1000 ∧ ∀ r, ThinR (P ++ Q) r → ∀ o, R (.sh r) o
theorem p_Trade_best : ∀ args R, F_Trade_best args R → runF [] 3 3 (wSs M_Trade_best b_Trade_best) args R := by
  rintro args R ⟨z0, z1, P, Q, w, rfl, hw, hw2, hl, hR⟩
  refine ⟨rfl, ?_⟩
  unfold b_Trade_best
  walk_at "SI"
  walk_at "ST"
  walk_at "ST"
  refine ⟨Nat.le_trans hl (by decide), ?_⟩
  exact ⟨_, P ++ Q, w, rfl, by rw [List.map_append]; rfl, hw, hw2, by rw [List.length_append]; exact hl, fun r hr o => hR r hr _⟩
theorem ok_Trade_best {P : Program} {w : World} {K : PySem.W.Frag} {mg : Str → Option Value} {base : Heap} (V : VE K mg base) : ∃ fd, FunD K "best" "Trade.best" (defArgs (mem 21 2)) (defBody (mem 21 2)) (defScope (mem 21 2)) [] [] (He.ma K (He.ga K "Trade") "best") fd ∧ FnOk P w K mg base CX0 3 (He.ma K (He.ga K "Trade") "best") fd ["self", "one", "other"] (spOf K F_Trade_best) := by
  obtain ⟨fd, Fd⟩ := V.def_ 9 (d := dm "Trade" "best" "Trade.best" 21 2 []) rfl
  exact ⟨fd, Fd, fn_ok Fd (d_Trade_best 2) (mkTab (.cons (cj_thin_rows_1 V (by first | decide | omega)) .nil) .nil (show ([] : List (Str × Nat)).all (fun c => decide (c.1 ∈ FR)) = true by decide +kernel) .nil .nil (at_ok V) V.free rfl) (fun h => by cases h) rfl p_Trade_best⟩
theorem me_Trade_best {P : Program} {w : World} {K : PySem.W.Frag} {mg : Str → Option Value} {base : Heap} {lv : Nat} (V : VE K mg base) (h : 3 ≤ lv) : MethE P w K mg base lv "best" "Trade" F_Trade_best := by
  obtain ⟨fd, Fd, F⟩ := ok_Trade_best (P := P) (w := w) (base := base) V
  exact ⟨V.cls 28 rfl, _, fd, _, _, V.meth 30 rfl, F, h, (FunD.bindsN Fd (fun _ _ _ _ _ _ us hl => match us, hl with | [_, _, _], _ => rfl))⟩
def openD (z : Str) : D := .ins "Open" ["wish", "stay"] [.str z, .tup [.tup [.int 0, .tup []]]]
theorem neo : (Str.ofString "wish" = Str.ofString "stay") = False := eq_false (by decide)
def C_Open___init__ (lv : Nat) : CC := { N := ["self", "wish"], sc := defScope (mem 22 0), lv := lv, kp := [0], brw := [], ali := [], calls := [("is_name", 1, [])], bis := [], cons := [], meths := [], keys := [], lam := false, fr := FR }
def b_Open___init__ : List S := [(.ifs (.nt (.call 0 [(.var 1)] [])) [.bad] []), (.stf 0 "wish" (.var 1)), (.stf 0 "stay" (.tup [(.tup [(.int 0), (.tup [])])]))]
theorem sc_Open___init__ : FnScope ["self", "wish"] ["self", "wish"] (defScope (mem 22 0)) := ⟨rfl, rfl, rfl, by decide +kernel, rfl, by decide +kernel, by decide +kernel⟩
theorem d_Open___init__ (lv : Nat) : DefC (C_Open___init__ lv) ["self", "wish"] (defArgs (mem 22 0)) (defBody (mem 22 0)) (defScope (mem 22 0)) b_Open___init__ := ⟨sc_Open___init__, rfl, rfl, (show ∀ i ∈ ([0] : List Nat), i < 2 by decide), by kernel_rfl⟩
abbrev M_Open___init__ : Sem := mkSem [0] [F_is_name] [] [] [] (atOf AT)
def F_Open___init__ : FS := fun args R => ∃ z : Str, args = [.ow (.ins "Open" [] []), .sh (.str z)] ∧ NameS z ∧ R (.sh .non) [.ow (openD z), .no]
theorem p_Open___init__ : ∀ args R, F_Open___init__ args R → runF [0] 2 2 (wSs M_Open___init__ b_Open___init__) args R := by
  rintro args R ⟨z, rfl, n0, hR⟩
  refine ⟨rfl, ?_⟩
  unfold b_Open___init__
  walk_at "SI"
  refine ⟨_, rfl, n0.thing, fun o => ?_⟩
  rw [n0.2]
  walk_at "SI"
  walk_at "ST"
  refine ⟨rfl, ?_⟩
  refine later ?_
  walk_at "SI"
  simp only [neo, if_false]
  exact ⟨rfl, hR⟩
theorem ok_Open___init__ {P : Program} {w : World} {K : PySem.W.Frag} {mg : Str → Option Value} {base : Heap} (V : VE K mg base) : ∃ fd, FunD K "__init__" "Open.__init__" (defArgs (mem 22 0)) (defBody (mem 22 0)) (defScope (mem 22 0)) [] [] (He.ma K (He.ga K "Open") "__init__") fd ∧ FnOk P w K mg base CX0 2 (He.ma K (He.ga K "Open") "__init__") fd ["self", "wish"] (spOf K F_Open___init__) := by
  obtain ⟨fd, Fd⟩ := V.def_ 10 (d := dm "Open" "__init__" "Open.__init__" 22 0 []) rfl
  exact ⟨fd, Fd, fn_ok Fd (d_Open___init__ 1) (mkTab (.cons (cj_is_name_1 V (by first | decide | omega)) .nil) .nil (show ([] : List (Str × Nat)).all (fun c => decide (c.1 ∈ FR)) = true by decide +kernel) .nil .nil (at_ok V) V.free rfl) (fun h => by cases h) rfl p_Open___init__⟩
theorem cj_Open_1 {P : Program} {w : World} {K : PySem.W.Frag} {mg : Str → Option Value} {base : Heap} {lv : Nat} (V : VE K mg base) (h : 3 ≤ lv) : CallJ P w K mg base lv "Open" 1 [] (mkF "Open" F_Open___init__) := by
  obtain ⟨fd, Fd, F⟩ := ok_Open___init__ (P := P) (w := w) (base := base) V
  exact callJ_mk (V.mkr 26 rfl) F h (V.glo 24 rfl) (FunD.bindsN Fd (fun _ _ _ _ _ _ us hl => match us, hl with | [_, _], _ => rfl)) 1
def C_Open_best (lv : Nat) : CC := { N := ["self", "one", "other"], sc := defScope (mem 22 1), lv := lv, kp := [], brw := [], ali := [], calls := [("thin_open", 1, [])], bis := [], cons := [], meths := [], keys := [], lam := false, fr := FR }
def b_Open_best : List S := [(.ifs (.cmp .Is (.var 1) .non) [(.retv 2)] []), (.ifs (.cmp .Is (.var 2) .non) [(.retv 1)] []), (.ret (.call 0 [(.bin .Add (.var 1) (.var 2))] []))]
theorem sc_Open_best : FnScope ["self", "one", "other"] ["self", "one", "other"] (defScope (mem 22 1)) := ⟨rfl, rfl, rfl, by decide +kernel, rfl, by decide +kernel, by decide +kernel⟩
theorem d_Open_best (lv : Nat) : DefC (C_Open_best lv) ["self", "one", "other"] (defArgs (mem 22 1)) (defBody (mem 22 1)) (defScope (mem 22 1)) b_Open_best := ⟨sc_Open_best, rfl, rfl, (show ∀ i ∈ ([] : List Nat), i < 3 by decide), by kernel_rfl⟩
abbrev M_Open_best : Sem := mkSem [] [F_thin_open] [] [] [] (atOf AT)
def F_Open_best : FS := fun args R => ∃ (z : Str) (P Q : List OR), args = [.sh (openD z), .sh (.tup (P.map rowO)), .sh (.tup (Q.map rowO))] ∧ (∀ r ∈ P ++ Q, okR r) ∧ P.length + Q.length ≤ 1000 ∧ ∀ r, OpenR (P ++ Q) r → ∀ o, R (.sh r) o
theorem p_Open_best : ∀ args R, F_Open_best args R → runF [] 3 3 (wSs M_Open_best b_Open_best) args R := by
  rintro args R ⟨z, P, Q, rfl, hw, hl, hR⟩
  refine ⟨rfl, ?_⟩
  unfold b_Open_best
  walk_at "SI"
  walk_at "ST"
  walk_at "ST"
  refine ⟨Nat.le_trans hl (by decide), ?_⟩
  exact ⟨_, P ++ Q, rfl, by rw [List.map_append]; rfl, hw, by rw [List.length_append]; exact hl, fun r hr o => hR r hr _⟩
theorem ok_Open_best {P : Program} {w : World} {K : PySem.W.Frag} {mg : Str → Option Value} {base : Heap} (V : VE K mg base) : ∃ fd, FunD K "best" "Open.best" (defArgs (mem 22 1)) (defBody (mem 22 1)) (defScope (mem 22 1)) [] [] (He.ma K (He.ga K "Open") "best") fd ∧ FnOk P w K mg base CX0 4 (He.ma K (He.ga K "Open") "best") fd ["self", "one", "other"] (spOf K F_Open_best) := by
  obtain ⟨fd, Fd⟩ := V.def_ 11 (d := dm "Open" "best" "Open.best" 22 1 []) rfl
  exact ⟨fd, Fd, fn_ok Fd (d_Open_best 3) (mkTab (.cons (cj_thin_open_1 V (by first | decide | omega)) .nil) .nil (show ([] : List (Str × Nat)).all (fun c => decide (c.1 ∈ FR)) = true by decide +kernel) .nil .nil (at_ok V) V.free rfl) (fun h => by cases h) rfl p_Open_best⟩
theorem me_Open_best {P : Program} {w : World} {K : PySem.W.Frag} {mg : Str → Option Value} {base : Heap} {lv : Nat} (V : VE K mg base) (h : 4 ≤ lv) : MethE P w K mg base lv "best" "Open" F_Open_best := by
  obtain ⟨fd, Fd, F⟩ := ok_Open_best (P := P) (w := w) (base := base) V
  exact ⟨V.cls 25 rfl, _, fd, _, _, V.meth 31 rfl, F, h, (FunD.bindsN Fd (fun _ _ _ _ _ _ us hl => match us, hl with | [_, _, _], _ => rfl))⟩
end K06

namespace K06
open PySem DL
open L2 (V FnOk FunD CX0 defArgs defBody defScope SqL FnScope KBn)
local macro_rules | `(tactic| walk_at "SI") => `(tactic| simp only [wAls, wAug, wTMeth, tmD, wLcv, wSrs, wSrk, wSrl, wLc2, wTs, wCaps, wLMeth, lmD, wEnm, revD, rg1D, rg2D, wCMeth, wStf, putD, fldD, attrD, mkF, dflF, kwF, shs, pickG, pickO, consO, Option.map_some, List.take_nil, wMeth, methD, joinD, strsOf_map, wSs_cons, wSs_nil, Later_nil, wS, wE, wT, wI, wX, wVl, wOl, wAv, mk3, mkT, mkI, opd, wIf, wOr, DL.wAnd, DL.wNot, wBool, wTru, wUn, wOp, wFn, wCons, wNil, wVCons, wVNil, wAvNil, wAvVal, wAvBor, wCall2, wC, wVar, wAndV, wOrV, wNotV, wIte, wLst, wTup, wDct, wChn, wSlc, partE, varOp, asOp, entry, content, resO, resOs, frz, wRet, wRetV, wRetN, wNext, wDrop, wSet, wUnp, wPar, wSti, wBrk, wCnt, wMut, muD_append, muD_insert, muD_pop0, muD_pop1, mAppend, mInsert, mPop, mPopAt, wSeq', wFor, wWhile, wLc, wRng1, wRng2, wZip, itemsD, nth, bindTg, bindTgs, noOw, wipeS, restore, wback_val, wback_nil, wback_bor, List.nodup_nil, List.nodup_cons, List.not_mem_nil, bors, resA, pairD, keyD, le_size, List.replicate_succ, List.replicate_zero, List.length_cons, List.length_nil, List.cons_append, List.nil_append, List.getElem?_cons_zero, List.getElem?_cons_succ, List.getElem?_nil, List.set_cons_zero, List.set_cons_succ, Option.isSome_some, List.map_cons, List.map_nil, List.all_cons, List.all_nil, List.any_cons, List.any_nil, Nat.reduceSub, Nat.reduceAdd, Nat.reduceLT, Nat.reduceLeDiff, reduceIte, reduceCtorEq, Bool.not_true, Bool.not_false, Bool.false_eq_true, and_true, true_and, List.drop_zero, List.drop_succ_cons, List.take_succ_cons, List.take_zero, maxD2, minD2, lenD, intD, boolD, strD, listD, tupleD, allD, anyD, blsD, cmpB, cmpD, binD, addD, subD, mulD, fdivD, modD, powD, negD, idxD, slcD, truD, ltD, gtD, leD, geD, eqD_int, eqD_bl, eqD_str, eqD_non, L2.atI, ixN_lit, Int.reduceToNat, Option.bind_some, List.length_map, List.set_cons_zero, List.set_cons_succ, isNon, inD_ss, inStr_one, isiD, seqOf, lstOf, String.reduceNe, String.reduceEq, ne_eq, not_false_eq_true, not_true_eq_false, Bool.or_true, Bool.or_false, Bool.true_or, Bool.false_or, Bool.and_true, Bool.and_false, Bool.true_and, Bool.false_and, isT_NoneType_bool, isT_NoneType_int, isT_NoneType_str, isT_NoneType_list, isT_NoneType_tuple, isT_NoneType_dict, isT_bool_bool, isT_bool_int, isT_bool_str, isT_bool_list, isT_bool_tuple, isT_bool_dict, isT_int_bool, isT_int_int, isT_int_str, isT_int_list, isT_int_tuple, isT_int_dict, isT_str_bool, isT_str_int, isT_str_str, isT_str_list, isT_str_tuple, isT_str_dict, isT_list_bool, isT_list_int, isT_list_str, isT_list_list, isT_list_tuple, isT_list_dict, isT_tuple_bool, isT_tuple_int, isT_tuple_str, isT_tuple_list, isT_tuple_tuple, isT_tuple_dict, isT_dict_bool, isT_dict_int, isT_dict_str, isT_dict_list, isT_dict_tuple, isT_dict_dict, tyN_non, tyN_bl, tyN_int, tyN_str, tyN_lst, tyN_tup, tyN_ftup, tyN_klst, tyN_dic])
local macro_rules | `(tactic| walk_at "ST") => `(tactic| (refine later ?_; simp only [wAls, wAug, wTMeth, tmD, wLcv, wSrs, wSrk, wSrl, wLc2, wTs, wCaps, wLMeth, lmD, wEnm, revD, rg1D, rg2D, wCMeth, wStf, putD, fldD, attrD, mkF, dflF, kwF, shs, pickG, pickO, consO, Option.map_some, List.take_nil, wMeth, methD, joinD, strsOf_map, wSs_cons, wSs_nil, Later_nil, wS, wE, wT, wI, wX, wVl, wOl, wAv, mk3, mkT, mkI, opd, wIf, wOr, DL.wAnd, DL.wNot, wBool, wTru, wUn, wOp, wFn, wCons, wNil, wVCons, wVNil, wAvNil, wAvVal, wAvBor, wCall2, wC, wVar, wAndV, wOrV, wNotV, wIte, wLst, wTup, wDct, wChn, wSlc, partE, varOp, asOp, entry, content, resO, resOs, frz, wRet, wRetV, wRetN, wNext, wDrop, wSet, wUnp, wPar, wSti, wBrk, wCnt, wMut, muD_append, muD_insert, muD_pop0, muD_pop1, mAppend, mInsert, mPop, mPopAt, wSeq', wFor, wWhile, wLc, wRng1, wRng2, wZip, itemsD, nth, bindTg, bindTgs, noOw, wipeS, restore, wback_val, wback_nil, wback_bor, List.nodup_nil, List.nodup_cons, List.not_mem_nil, bors, resA, pairD, keyD, le_size, List.replicate_succ, List.replicate_zero, List.length_cons, List.length_nil, List.cons_append, List.nil_append, List.getElem?_cons_zero, List.getElem?_cons_succ, List.getElem?_nil, List.set_cons_zero, List.set_cons_succ, Option.isSome_some, List.map_cons, List.map_nil, List.all_cons, List.all_nil, List.any_cons, List.any_nil, Nat.reduceSub, Nat.reduceAdd, Nat.reduceLT, Nat.reduceLeDiff, reduceIte, reduceCtorEq, Bool.not_true, Bool.not_false, Bool.false_eq_true, and_true, true_and, List.drop_zero, List.drop_succ_cons, List.take_succ_cons, List.take_zero, maxD2, minD2, lenD, intD, boolD, strD, listD, tupleD, allD, anyD, blsD, cmpB, cmpD, binD, addD, subD, mulD, fdivD, modD, powD, negD, idxD, slcD, truD, ltD, gtD, leD, geD, eqD_int, eqD_bl, eqD_str, eqD_non, L2.atI, ixN_lit, Int.reduceToNat, Option.bind_some, List.length_map, List.set_cons_zero, List.set_cons_succ, isNon, inD_ss, inStr_one, isiD, seqOf, lstOf, String.reduceNe, String.reduceEq, ne_eq, not_false_eq_true, not_true_eq_false, Bool.or_true, Bool.or_false, Bool.true_or, Bool.false_or, Bool.and_true, Bool.and_false, Bool.true_and, Bool.false_and, isT_NoneType_bool, isT_NoneType_int, isT_NoneType_str, isT_NoneType_list, isT_NoneType_tuple, isT_NoneType_dict, isT_bool_bool, isT_bool_int, isT_bool_str, isT_bool_list, isT_bool_tuple, isT_bool_dict, isT_int_bool, isT_int_int, isT_int_str, isT_int_list, isT_int_tuple, isT_int_dict, isT_str_bool, isT_str_int, isT_str_str, isT_str_list, isT_str_tuple, isT_str_dict, isT_list_bool, isT_list_int, isT_list_str, isT_list_list, isT_list_tuple, isT_list_dict, isT_tuple_bool, isT_tuple_int, isT_tuple_str, isT_tuple_list, isT_tuple_tuple, isT_tuple_dict, isT_dict_bool, isT_dict_int, isT_dict_str, isT_dict_list, isT_dict_tuple, isT_dict_dict, tyN_non, tyN_bl, tyN_int, tyN_str, tyN_lst, tyN_tup, tyN_ftup, tyN_klst, tyN_dic]))
theorem turn_perm {α : Type} {ls ys : List α} {j : Nat} (hj : j < ls.length) : (ls.eraseIdx j ++ (ys ++ [ls[j]])).Perm (ls ++ ys) := by
  rw [← List.append_assoc]
  refine (List.perm_append_singleton _ _).trans ?_
  have p : (ls[j] :: ls.eraseIdx j).Perm ls := by
    rw [List.eraseIdx_eq_take_drop_succ]
    have e : ls = ls.take j ++ ls[j] :: ls.drop (j + 1) := by rw [← List.drop_eq_getElem_cons hj, List.take_append_drop]
    conv => rhs; rw [e]
    exact List.perm_middle.symm
  exact (p.append_right ys)
def C__law_turned (lv : Nat) : CC := { N := ["_law_bag_here", "_law_things", "_law_left", "_law_found", "_law_k"], sc := defScope (top 27), lv := lv, kp := [0], brw := [0], ali := [], calls := [("_law_draw", 2, [])], bis := [("list", 1), ("len", 1)], cons := [], meths := [], keys := [], lam := false, fr := FR }
def b__law_turned : List S := [(.set 2 (.bi 0 [(.var 1)])), (.set 3 (.lst [])), (.for (.nm 4) (.rng [(.bi 1 [(.var 1)])]) [(.expr (.mut "append" 3 [(.mut "pop" 2 [(.call 0 [(.bor 0), (.bi 1 [(.var 2)])] [])])]))]), (.retv 3)]
theorem sc__law_turned : FnScope ["_law_bag_here", "_law_things", "_law_left", "_law_found", "_law_k"] ["_law_bag_here", "_law_things"] (defScope (top 27)) := ⟨rfl, rfl, rfl, by decide +kernel, rfl, by decide +kernel, by decide +kernel⟩
theorem d__law_turned (lv : Nat) : DefC (C__law_turned lv) ["_law_bag_here", "_law_things"] (defArgs (top 27)) (defBody (top 27)) (defScope (top 27)) b__law_turned := ⟨sc__law_turned, rfl, rfl, (show ∀ i ∈ ([0] : List Nat), i < 2 by decide), by kernel_rfl⟩
abbrev M__law_turned : Sem := mkSem [0] [F__law_draw] [listD, lenD] [] [] (atOf AT)
def F__law_turned : FS := fun args R => ∃ d x t xs, args = [.ow d, x] ∧ (x = .sh t ∨ x = .ow t) ∧ BagOk d ∧ seqOf t = some xs ∧ xs.length ≤ 1000 ∧ ∀ ys d', ys.Perm xs → BagOk d' → R (.ow (.lst ys)) [.ow d', .no]
theorem p__law_turned : ∀ args R, F__law_turned args R → runF [0] 2 5 (wSs M__law_turned b__law_turned) args R := by
  rintro args R ⟨d, x, t, xs, rfl, hx, hd, ht, hl, hR⟩
  refine ⟨rfl, ?_⟩
  rcases hx with rfl | rfl
  · unfold b__law_turned
    simp only [wAls, wAug, wTMeth, tmD, wLcv, wSrs, wSrk, wSrl, wLc2, wTs, wCaps, wLMeth, lmD, wEnm, revD, rg1D, rg2D, wCMeth, wStf, putD, fldD, attrD, mkF, dflF, kwF, shs, pickG, pickO, consO, Option.map_some, List.take_nil, wMeth, methD, joinD, strsOf_map, wSs_cons, wSs_nil, Later_nil, wS, wE, wT, wI, wX, wVl, wOl, wAv, mk3, mkT, mkI, opd, wIf, wOr, DL.wAnd, DL.wNot, wBool, wTru, wUn, wOp, wFn, wCons, wNil, wVCons, wVNil, wAvNil, wAvVal, wAvBor, wCall2, wC, wVar, wAndV, wOrV, wNotV, wIte, wLst, wTup, wDct, wChn, wSlc, partE, varOp, asOp, entry, content, resO, resOs, frz, wRet, wRetV, wRetN, wNext, wDrop, wSet, wUnp, wPar, wSti, wBrk, wCnt, wMut, muD_append, muD_insert, muD_pop0, muD_pop1, mAppend, mInsert, mPop, mPopAt, wSeq', wFor, wWhile, wLc, wRng1, wRng2, wZip, itemsD, nth, bindTg, bindTgs, noOw, wipeS, restore, wback_val, wback_nil, wback_bor, List.nodup_nil, List.nodup_cons, List.not_mem_nil, bors, resA, pairD, keyD, le_size, List.replicate_succ, List.replicate_zero, List.length_cons, List.length_nil, List.cons_append, List.nil_append, List.getElem?_cons_zero, List.getElem?_cons_succ, List.getElem?_nil, List.set_cons_zero, List.set_cons_succ, Option.isSome_some, List.map_cons, List.map_nil, List.all_cons, List.all_nil, List.any_cons, List.any_nil, Nat.reduceSub, Nat.reduceAdd, Nat.reduceLT, Nat.reduceLeDiff, reduceIte, reduceCtorEq, Bool.not_true, Bool.not_false, Bool.false_eq_true, and_true, true_and, List.drop_zero, List.drop_succ_cons, List.take_succ_cons, List.take_zero, listD, ht]
    walk_at "ST"
    have hz : xs.length ≤ sizeLine := Nat.le_trans (Nat.le_trans hl (show 1000 ≤ 1000000 by decide)) (by decide)
    have it : itemsD t = some xs := by cases t <;> first | exact ht | cases ht
    refine later ?_
    simp only [wAls, wAug, wTMeth, tmD, wLcv, wSrs, wSrk, wSrl, wLc2, wTs, wCaps, wLMeth, lmD, wEnm, revD, rg1D, rg2D, wCMeth, wStf, putD, fldD, attrD, mkF, dflF, kwF, shs, pickG, pickO, consO, Option.map_some, List.take_nil, wMeth, methD, joinD, strsOf_map, wSs_cons, wSs_nil, Later_nil, wS, wE, wT, wI, wX, wVl, wOl, wAv, mk3, mkT, mkI, opd, wIf, wOr, DL.wAnd, DL.wNot, wBool, wTru, wUn, wOp, wFn, wCons, wNil, wVCons, wVNil, wAvNil, wAvVal, wAvBor, wCall2, wC, wVar, wAndV, wOrV, wNotV, wIte, wLst, wTup, wDct, wChn, wSlc, partE, varOp, asOp, entry, content, resO, resOs, frz, wRet, wRetV, wRetN, wNext, wDrop, wSet, wUnp, wPar, wSti, wBrk, wCnt, wMut, muD_append, muD_insert, muD_pop0, muD_pop1, mAppend, mInsert, mPop, mPopAt, wSeq', wFor, wWhile, wLc, wRng1, wRng2, wZip, itemsD, nth, bindTg, bindTgs, noOw, wipeS, restore, wback_val, wback_nil, wback_bor, List.nodup_nil, List.nodup_cons, List.not_mem_nil, bors, resA, pairD, keyD, le_size, List.replicate_succ, List.replicate_zero, List.length_cons, List.length_nil, List.cons_append, List.nil_append, List.getElem?_cons_zero, List.getElem?_cons_succ, List.getElem?_nil, List.set_cons_zero, List.set_cons_succ, Option.isSome_some, List.map_cons, List.map_nil, List.all_cons, List.all_nil, List.any_cons, List.any_nil, Nat.reduceSub, Nat.reduceAdd, Nat.reduceLT, Nat.reduceLeDiff, reduceIte, reduceCtorEq, Bool.not_true, Bool.not_false, Bool.false_eq_true, and_true, true_and, List.drop_zero, List.drop_succ_cons, List.take_succ_cons, List.take_zero]
    refine lenD_items it hz ?_
    simp only [wAls, wAug, wTMeth, tmD, wLcv, wSrs, wSrk, wSrl, wLc2, wTs, wCaps, wLMeth, lmD, wEnm, revD, rg1D, rg2D, wCMeth, wStf, putD, fldD, attrD, mkF, dflF, kwF, shs, pickG, pickO, consO, Option.map_some, List.take_nil, wMeth, methD, joinD, strsOf_map, wSs_cons, wSs_nil, Later_nil, wS, wE, wT, wI, wX, wVl, wOl, wAv, mk3, mkT, mkI, opd, wIf, wOr, DL.wAnd, DL.wNot, wBool, wTru, wUn, wOp, wFn, wCons, wNil, wVCons, wVNil, wAvNil, wAvVal, wAvBor, wCall2, wC, wVar, wAndV, wOrV, wNotV, wIte, wLst, wTup, wDct, wChn, wSlc, partE, varOp, asOp, entry, content, resO, resOs, frz, wRet, wRetV, wRetN, wNext, wDrop, wSet, wUnp, wPar, wSti, wBrk, wCnt, wMut, muD_append, muD_insert, muD_pop0, muD_pop1, mAppend, mInsert, mPop, mPopAt, wSeq', wFor, wWhile, wLc, wRng1, wRng2, wZip, itemsD, nth, bindTg, bindTgs, noOw, wipeS, restore, wback_val, wback_nil, wback_bor, List.nodup_nil, List.nodup_cons, List.not_mem_nil, bors, resA, pairD, keyD, le_size, List.replicate_succ, List.replicate_zero, List.length_cons, List.length_nil, List.cons_append, List.nil_append, List.getElem?_cons_zero, List.getElem?_cons_succ, List.getElem?_nil, List.set_cons_zero, List.set_cons_succ, Option.isSome_some, List.map_cons, List.map_nil, List.all_cons, List.all_nil, List.any_cons, List.any_nil, Nat.reduceSub, Nat.reduceAdd, Nat.reduceLT, Nat.reduceLeDiff, reduceIte, reduceCtorEq, Bool.not_true, Bool.not_false, Bool.false_eq_true, and_true, true_and, List.drop_zero, List.drop_succ_cons, List.take_succ_cons, List.take_zero]
    refine ⟨⟨by omega, by omega⟩, ?_⟩
    rw [Int.toNat_natCast]
    refine forRange (fun i s => ∃ d' ls ys a4, s = [.ow d', .sh t, .ow (.lst ls), .ow (.lst ys), a4] ∧ BagOk d' ∧ ls.length + i = xs.length ∧ ys.length = i ∧ (ls ++ ys).Perm xs) xs.length ⟨d, xs, [], _, rfl, hd, rfl, rfl, by rw [List.append_nil]⟩ ?_ ?_
    · rintro s ⟨d', ls, ys, a4, rfl, hd', h1, h2, h3⟩
      walk_at "ST"
      have el : ls = [] := List.eq_nil_of_length_eq_zero (by omega)
      subst el
      exact hR ys d' h3 hd'
    · rintro i s hi ⟨d', ls, ys, a4, rfl, hd', h1, h2, h3⟩ K hK
      refine ⟨_, rfl, ?_⟩
      walk_at "SI"
      refine ⟨d', _, rfl, hd', by omega, by omega, fun j d2 hj0 hj1 hd2 => ?_⟩
      walk_at "SI"
      have hjl : j.toNat < ls.length := by omega
      rw [ixN_nat hj0 hj1]
      have hx := List.getElem?_eq_getElem hjl
      simp only [hx]
      refine ⟨⟨by omega, by omega⟩, Nat.lt_of_le_of_lt (show ys.length ≤ 1000 by omega) (by decide), ?_⟩
      refine hK _ ⟨d2, _, _, .sh (.int i), rfl, hd2, ?_, ?_, ?_⟩
      · rw [List.length_eraseIdx, if_pos hjl]; omega
      · rw [List.length_append, h2]; rfl
      · exact (turn_perm hjl).trans h3
  · unfold b__law_turned
    simp only [wAls, wAug, wTMeth, tmD, wLcv, wSrs, wSrk, wSrl, wLc2, wTs, wCaps, wLMeth, lmD, wEnm, revD, rg1D, rg2D, wCMeth, wStf, putD, fldD, attrD, mkF, dflF, kwF, shs, pickG, pickO, consO, Option.map_some, List.take_nil, wMeth, methD, joinD, strsOf_map, wSs_cons, wSs_nil, Later_nil, wS, wE, wT, wI, wX, wVl, wOl, wAv, mk3, mkT, mkI, opd, wIf, wOr, DL.wAnd, DL.wNot, wBool, wTru, wUn, wOp, wFn, wCons, wNil, wVCons, wVNil, wAvNil, wAvVal, wAvBor, wCall2, wC, wVar, wAndV, wOrV, wNotV, wIte, wLst, wTup, wDct, wChn, wSlc, partE, varOp, asOp, entry, content, resO, resOs, frz, wRet, wRetV, wRetN, wNext, wDrop, wSet, wUnp, wPar, wSti, wBrk, wCnt, wMut, muD_append, muD_insert, muD_pop0, muD_pop1, mAppend, mInsert, mPop, mPopAt, wSeq', wFor, wWhile, wLc, wRng1, wRng2, wZip, itemsD, nth, bindTg, bindTgs, noOw, wipeS, restore, wback_val, wback_nil, wback_bor, List.nodup_nil, List.nodup_cons, List.not_mem_nil, bors, resA, pairD, keyD, le_size, List.replicate_succ, List.replicate_zero, List.length_cons, List.length_nil, List.cons_append, List.nil_append, List.getElem?_cons_zero, List.getElem?_cons_succ, List.getElem?_nil, List.set_cons_zero, List.set_cons_succ, Option.isSome_some, List.map_cons, List.map_nil, List.all_cons, List.all_nil, List.any_cons, List.any_nil, Nat.reduceSub, Nat.reduceAdd, Nat.reduceLT, Nat.reduceLeDiff, reduceIte, reduceCtorEq, Bool.not_true, Bool.not_false, Bool.false_eq_true, and_true, true_and, List.drop_zero, List.drop_succ_cons, List.take_succ_cons, List.take_zero, listD, ht]
    walk_at "ST"
    have hz : xs.length ≤ sizeLine := Nat.le_trans (Nat.le_trans hl (show 1000 ≤ 1000000 by decide)) (by decide)
    have it : itemsD t = some xs := by cases t <;> first | exact ht | cases ht
    refine later ?_
    simp only [wAls, wAug, wTMeth, tmD, wLcv, wSrs, wSrk, wSrl, wLc2, wTs, wCaps, wLMeth, lmD, wEnm, revD, rg1D, rg2D, wCMeth, wStf, putD, fldD, attrD, mkF, dflF, kwF, shs, pickG, pickO, consO, Option.map_some, List.take_nil, wMeth, methD, joinD, strsOf_map, wSs_cons, wSs_nil, Later_nil, wS, wE, wT, wI, wX, wVl, wOl, wAv, mk3, mkT, mkI, opd, wIf, wOr, DL.wAnd, DL.wNot, wBool, wTru, wUn, wOp, wFn, wCons, wNil, wVCons, wVNil, wAvNil, wAvVal, wAvBor, wCall2, wC, wVar, wAndV, wOrV, wNotV, wIte, wLst, wTup, wDct, wChn, wSlc, partE, varOp, asOp, entry, content, resO, resOs, frz, wRet, wRetV, wRetN, wNext, wDrop, wSet, wUnp, wPar, wSti, wBrk, wCnt, wMut, muD_append, muD_insert, muD_pop0, muD_pop1, mAppend, mInsert, mPop, mPopAt, wSeq', wFor, wWhile, wLc, wRng1, wRng2, wZip, itemsD, nth, bindTg, bindTgs, noOw, wipeS, restore, wback_val, wback_nil, wback_bor, List.nodup_nil, List.nodup_cons, List.not_mem_nil, bors, resA, pairD, keyD, le_size, List.replicate_succ, List.replicate_zero, List.length_cons, List.length_nil, List.cons_append, List.nil_append, List.getElem?_cons_zero, List.getElem?_cons_succ, List.getElem?_nil, List.set_cons_zero, List.set_cons_succ, Option.isSome_some, List.map_cons, List.map_nil, List.all_cons, List.all_nil, List.any_cons, List.any_nil, Nat.reduceSub, Nat.reduceAdd, Nat.reduceLT, Nat.reduceLeDiff, reduceIte, reduceCtorEq, Bool.not_true, Bool.not_false, Bool.false_eq_true, and_true, true_and, List.drop_zero, List.drop_succ_cons, List.take_succ_cons, List.take_zero]
    refine lenD_items it hz ?_
    simp only [wAls, wAug, wTMeth, tmD, wLcv, wSrs, wSrk, wSrl, wLc2, wTs, wCaps, wLMeth, lmD, wEnm, revD, rg1D, rg2D, wCMeth, wStf, putD, fldD, attrD, mkF, dflF, kwF, shs, pickG, pickO, consO, Option.map_some, List.take_nil, wMeth, methD, joinD, strsOf_map, wSs_cons, wSs_nil, Later_nil, wS, wE, wT, wI, wX, wVl, wOl, wAv, mk3, mkT, mkI, opd, wIf, wOr, DL.wAnd, DL.wNot, wBool, wTru, wUn, wOp, wFn, wCons, wNil, wVCons, wVNil, wAvNil, wAvVal, wAvBor, wCall2, wC, wVar, wAndV, wOrV, wNotV, wIte, wLst, wTup, wDct, wChn, wSlc, partE, varOp, asOp, entry, content, resO, resOs, frz, wRet, wRetV, wRetN, wNext, wDrop, wSet, wUnp, wPar, wSti, wBrk, wCnt, wMut, muD_append, muD_insert, muD_pop0, muD_pop1, mAppend, mInsert, mPop, mPopAt, wSeq', wFor, wWhile, wLc, wRng1, wRng2, wZip, itemsD, nth, bindTg, bindTgs, noOw, wipeS, restore, wback_val, wback_nil, wback_bor, List.nodup_nil, List.nodup_cons, List.not_mem_nil, bors, resA, pairD, keyD, le_size, List.replicate_succ, List.replicate_zero, List.length_cons, List.length_nil, List.cons_append, List.nil_append, List.getElem?_cons_zero, List.getElem?_cons_succ, List.getElem?_nil, List.set_cons_zero, List.set_cons_succ, Option.isSome_some, List.map_cons, List.map_nil, List.all_cons, List.all_nil, List.any_cons, List.any_nil, Nat.reduceSub, Nat.reduceAdd, Nat.reduceLT, Nat.reduceLeDiff, reduceIte, reduceCtorEq, Bool.not_true, Bool.not_false, Bool.false_eq_true, and_true, true_and, List.drop_zero, List.drop_succ_cons, List.take_succ_cons, List.take_zero]
    refine ⟨⟨by omega, by omega⟩, ?_⟩
    rw [Int.toNat_natCast]
    refine forRange (fun i s => ∃ d' ls ys a4, s = [.ow d', .ow t, .ow (.lst ls), .ow (.lst ys), a4] ∧ BagOk d' ∧ ls.length + i = xs.length ∧ ys.length = i ∧ (ls ++ ys).Perm xs) xs.length ⟨d, xs, [], _, rfl, hd, rfl, rfl, by rw [List.append_nil]⟩ ?_ ?_
    · rintro s ⟨d', ls, ys, a4, rfl, hd', h1, h2, h3⟩
      walk_at "ST"
      have el : ls = [] := List.eq_nil_of_length_eq_zero (by omega)
      subst el
      exact hR ys d' h3 hd'
    · rintro i s hi ⟨d', ls, ys, a4, rfl, hd', h1, h2, h3⟩ K hK
      refine ⟨_, rfl, ?_⟩
      walk_at "SI"
      refine ⟨d', _, rfl, hd', by omega, by omega, fun j d2 hj0 hj1 hd2 => ?_⟩
      walk_at "SI"
      have hjl : j.toNat < ls.length := by omega
      rw [ixN_nat hj0 hj1]
      have hx := List.getElem?_eq_getElem hjl
      simp only [hx]
      refine ⟨⟨by omega, by omega⟩, Nat.lt_of_le_of_lt (show ys.length ≤ 1000 by omega) (by decide), ?_⟩
      refine hK _ ⟨d2, _, _, .sh (.int i), rfl, hd2, ?_, ?_, ?_⟩
      · rw [List.length_eraseIdx, if_pos hjl]; omega
      · rw [List.length_append, h2]; rfl
      · exact (turn_perm hjl).trans h3
theorem ok__law_turned {P : Program} {w : World} {K : PySem.W.Frag} {mg : Str → Option Value} {base : Heap} (V : VE K mg base) : ∃ fd, FunD K "_law_turned" "_law_turned" (defArgs (top 27)) (defBody (top 27)) (defScope (top 27)) [] [] (He.ga K "_law_turned") fd ∧ FnOk P w K mg base CX0 2 (He.ga K "_law_turned") fd ["_law_bag_here", "_law_things"] (spOf K F__law_turned) := by
  obtain ⟨fd, Fd⟩ := V.def_ 15 (d := dd "_law_turned" 27 []) rfl
  exact ⟨fd, Fd, fn_ok Fd (d__law_turned 1) (mkTab (.cons (cj__law_draw_2 V (by first | decide | omega)) .nil) (.cons rfl (.cons rfl .nil)) (show ([("list", 1), ("len", 1)] : List (Str × Nat)).all (fun c => decide (c.1 ∈ FR)) = true by decide +kernel) .nil .nil (at_ok V) V.free rfl) (fun h => by cases h) rfl p__law_turned⟩
theorem cj__law_turned_2 {P : Program} {w : World} {K : PySem.W.Frag} {mg : Str → Option Value} {base : Heap} {lv : Nat} (V : VE K mg base) (h : 2 ≤ lv) : CallJ P w K mg base lv "_law_turned" 2 [] F__law_turned := by
  obtain ⟨fd, Fd, F⟩ := ok__law_turned (P := P) (w := w) (base := base) V
  exact callJ F h (V.glo 11 rfl) Fd.kp (FunD.bindsN Fd (fun _ _ _ _ _ _ us hl => match us, hl with | [_, _], _ => rfl)) 2
theorem Cod.eqv {α : Type} [DecidableEq α] (C : Cod α) (x y : α) : PyData.eqv (C.dat x) (C.dat y) = decide (x = y) := by
  by_cases e : x = y
  · subst e
    rw [decide_eq_true rfl]
    exact PySem.W.eqv_refl_alike _ (C.al x x)
  · rw [decide_eq_false e]
    cases h : PyData.eqv (C.dat x) (C.dat y) with
    | false => rfl
    | true => exact absurd (C.inj _ _ ((PySem.W.toks_eqv _ _ (C.al x y)).1 h)) e
theorem ints_lay : ∀ l : List Int, PyData.canLayAll0 (l.map .int) = true ∧ PyData.depthAll (l.map .int) = 0
  | [] => ⟨rfl, rfl⟩
  | a :: l => ⟨(ints_lay l).1, by show max 0 (PyData.depthAll (l.map .int)) = 0; rw [(ints_lay l).2]; rfl⟩
theorem strs_lay : ∀ {l : List Str}, (∀ s ∈ l, okS s) → PyData.canLayAll0 (l.map .str) = true
  | [], _ => rfl
  | a :: l, h => by
    show (PyData.canLay0 (.str a) && PyData.canLayAll0 (l.map .str)) = true
    rw [str_canLay (h a (.head _)), strs_lay fun s m => h s (.tail _ m)]; rfl
theorem CI_shaped (x : IR) : SeqAt.shaped (CI.dat x) = true := by
  show (PyData.canLayAll0 (NestedKey.datas ((x.1 :: x.2).map .num)) && decide (PyData.depthAll (NestedKey.datas ((x.1 :: x.2).map .num)) + 1 ≤ 64)) = true
  rw [datas_num, (ints_lay _).1, (ints_lay _).2]; rfl
theorem CO_shaped {x : OR} (h : okR x) : SeqAt.shaped (CO.dat x) = true := by
  rw [CO_dat]
  show ((true && ((PyData.canLayAll0 (x.2.map .str)) && true)) && decide (max 0 (max (PyData.depthAll (x.2.map .str) + 1) 0) + 1 ≤ 64)) = true
  rw [strs_lay h.1, depth_strs]; rfl
theorem eqD_cod {α : Type} [DecidableEq α] (C : Cod α) {x y : α} (hx : SeqAt.shaped (C.dat x) = true) (hy : SeqAt.shaped (C.dat y) = true) {Q : Bool → Prop} (h : Q (decide (x = y))) : eqD (C.enc x) (C.enc y) Q := by
  obtain ⟨xs, ex⟩ := C.tup x
  obtain ⟨ys, ey⟩ := C.tup y
  have px := C.encP x
  have py := C.encP y
  rw [ex] at px ⊢
  rw [ey] at py ⊢
  show eqDD (.tup xs) (.tup ys) Q
  unfold eqDD
  rw [px, py]
  refine ⟨⟨hx, hy⟩, ?_⟩
  rw [C.eqv]; exact h
def C__law_thin (lv : Nat) : CC := { N := ["_law_rows_y", "_law_kept", "_law_x", "_law_y", "_law_p", "_law_q"], sc := defScope (top 29), lv := lv, kp := [], brw := [], ali := [], calls := [], bis := [("tuple", 1), ("any", 1), ("all", 1)], cons := [], meths := [], keys := [], lam := false, fr := FR }
def b__law_thin : List S := [(.set 1 (.srs (.var 0))), (.ret (.bi 0 [(.lc (.var 2) (.nm 2) (.var 1) [(.nt (.bi 1 [(.lc (.and (.cmp .NotEq (.var 3) (.var 2)) (.bi 2 [(.lc (.cmp .LtE (.var 4) (.var 5)) (.tp [(.nm 4), (.nm 5)]) (.zip [(.var 3), (.var 2)]) [] [4, 5])])) (.nm 3) (.var 1) [] [3])]))] [2])]))]
theorem sc__law_thin : FnScope ["_law_rows_y", "_law_kept", "_law_x", "_law_y", "_law_p", "_law_q"] ["_law_rows_y"] (defScope (top 29)) := ⟨rfl, rfl, rfl, by decide +kernel, rfl, by decide +kernel, by decide +kernel⟩
theorem d__law_thin (lv : Nat) : DefC (C__law_thin lv) ["_law_rows_y"] (defArgs (top 29)) (defBody (top 29)) (defScope (top 29)) b__law_thin := ⟨sc__law_thin, rfl, rfl, (show ∀ i ∈ ([] : List Nat), i < 1 by decide), by kernel_rfl⟩
abbrev M__law_thin : Sem := mkSem [] [] [tupleD, anyD, allD] [] [] (atOf AT)
def F__law_thin : FS := fun args R => ∃ (L : List IR) (w : Nat), args = [.sh (.lst (L.map CI.enc))] ∧ (∀ r ∈ L, r.2.length = w) ∧ w ≤ 10 ∧ L.length < 64 ∧ ∀ T : List IR, Thin (fun x y => cI x y = true) L T → T.Pairwise CI.lt → T.length ≤ L.length → ∀ o, R (.sh (.tup (T.map CI.enc))) o
theorem nodup_len {α : Type} [DecidableEq α] : ∀ {A B : List α}, A.Nodup → (∀ x ∈ A, x ∈ B) → A.length ≤ B.length
  | [], _, _, _ => Nat.zero_le _
  | x :: A, B, h, s => by
    obtain ⟨h1, h2⟩ := List.nodup_cons.mp h
    have hx := s x (.head _)
    have := nodup_len (A := A) (B := B.erase x) h2 fun y hy => (List.mem_erase_of_ne fun e => h1 (by rw [← e]; exact hy)).mpr (s y (.tail _ hy))
    rw [List.length_erase_of_mem hx] at this
    have := List.length_pos_of_mem hx
    simp only [List.length_cons]
    omega
theorem p__law_thin : ∀ args R, F__law_thin args R → runF [] 1 6 (wSs M__law_thin b__law_thin) args R := by
  rintro args R ⟨L, w, rfl, hw, hw2, hl, hR⟩
  refine ⟨rfl, ?_⟩
  unfold b__law_thin
  walk_at "SI"
  refine .inr (CI.set hl fun S nd hs so => ?_)
  have hT := thin_min (c := cI) szI cI_refl hs (fun x hx y hy z hz => cI_trans (by rw [hw x hx, hw y hy]) (by rw [hw y hy, hw z hz])) fun x hx y hy => szI_mono (by rw [hw x hx, hw y hy])
  have hlt : (S.filter (minC cI S)).Pairwise CI.lt := (so.and nd).filter _
  have hlen : (S.filter (minC cI S)).length ≤ L.length := Nat.le_trans (List.length_filter_le _ _) (nodup_len nd fun x h => (hs x).mp h)
  have szS : (S.map CI.enc).length ≤ sizeLine := Nat.le_trans (show (S.map CI.enc).length ≤ 1000 by rw [List.length_map]; have := nodup_len nd fun x h => (hs x).mp h; omega) (by decide)
  have hwS : ∀ r ∈ S, r.2.length = w := fun r hr => hw r ((hs r).mp hr)
  walk_at "ST"
  rw [List.length_map] at szS
  refine ⟨szS, ?_⟩
  refine lcGo_filtg CI.enc CI.enc (minC cI S) S _ (fun x hx => ⟨_, rfl, rfl, fun Q q => ?_, fun _ Q q => ?_⟩) ?_
  · walk_at "SI"
    refine ⟨szS, ?_⟩
    refine lcGo_mapg CI.enc (fun y => .bl (!decide (y = x) && cI y x)) S _ (fun y hy => ⟨_, rfl, rfl, fun Q q => ?_⟩) ?_
    · walk_at "SI"
      refine eqD_cod CI (CI_shaped y) (CI_shaped x) ?_
      by_cases e : y = x
      · rw [decide_eq_true e]
        walk_at "SI"
        exact q _ (by rw [decide_eq_true e]; rfl)
      · rw [decide_eq_false e, CI_enc x, CI_enc y]
        walk_at "SI"
        rw [← List.map_cons (f := D.int), ← List.map_cons (f := D.int), zip_ints]
        refine ⟨by rw [List.length_map, List.length_zip]; exact Nat.le_trans (show _ ≤ 1001 from Nat.le_trans (Nat.min_le_left _ _) (by simp only [List.length_cons]; rw [hwS y hy]; omega)) (by decide), ?_⟩
        refine lcGo_mapg (fun p : Int × Int => D.tup [.int p.1, .int p.2]) (fun p => .bl (decide (p.1 ≤ p.2))) _ _ (fun p _ => ⟨_, rfl, rfl, fun Q q => ?_⟩) ?_
        · walk_at "SI"
          exact q _ rfl
        rw [any_bls (f := fun p : Int × Int => decide (p.1 ≤ p.2))]
        have e2 : ((((y.1 :: y.2).zip (x.1 :: x.2)).map fun p => decide (p.1 ≤ p.2)).all id) = cI y x := by
          rw [List.all_map]
          exact cL_zip (y.1 :: y.2) (x.1 :: x.2)
        simp only [blsOf_map, e2]
        exact q _ (by rw [decide_eq_false e]; rfl)
    rw [any_bls]
    simp only [blsOf_map, List.any_map]
    exact q
  · walk_at "SI"
    exact q _ rfl
  · walk_at "SI"
    exact .inl (hR _ hT hlt hlen _)
theorem ok__law_thin {P : Program} {w : World} {K : PySem.W.Frag} {mg : Str → Option Value} {base : Heap} (V : VE K mg base) : ∃ fd, FunD K "_law_thin" "_law_thin" (defArgs (top 29)) (defBody (top 29)) (defScope (top 29)) [] [] (He.ga K "_law_thin") fd ∧ FnOk P w K mg base CX0 1 (He.ga K "_law_thin") fd ["_law_rows_y"] (spOf K F__law_thin) := by
  obtain ⟨fd, Fd⟩ := V.def_ 17 (d := dd "_law_thin" 29 []) rfl
  exact ⟨fd, Fd, fn_ok Fd (d__law_thin 0) (mkTab .nil (.cons rfl (.cons rfl (.cons rfl .nil))) (show ([("tuple", 1), ("any", 1), ("all", 1)] : List (Str × Nat)).all (fun c => decide (c.1 ∈ FR)) = true by decide +kernel) .nil .nil (at_ok V) V.free rfl) (fun h => by cases h) rfl p__law_thin⟩
theorem cj__law_thin_1 {P : Program} {w : World} {K : PySem.W.Frag} {mg : Str → Option Value} {base : Heap} {lv : Nat} (V : VE K mg base) (h : 1 ≤ lv) : CallJ P w K mg base lv "_law_thin" 1 [] F__law_thin := by
  obtain ⟨fd, Fd, F⟩ := ok__law_thin (P := P) (w := w) (base := base) V
  exact callJ F h (V.glo 13 rfl) Fd.kp (FunD.bindsN Fd (fun _ _ _ _ _ _ us hl => match us, hl with | [_], _ => rfl)) 1
theorem plain_strs : ∀ l : List Str, PyData.plainAll (l.map .str) = true
  | [] => rfl
  | a :: l => by
    show (true && PyData.plainAll (l.map .str)) = true
    rw [plain_strs l]; rfl
theorem countD_str {l : List Str} {s : Str} {R : Sl → Prop} (h : R (.sh (.int (l.count s)))) : countD (.ftup (l.map .str)) [.str s] R := by
  show (match toPs (l.map .str), toP (.str s) with
    | some ps, some p => (PyData.plainAll ps = true ∧ p.plain = true ∧ PyData.depthAll ps ≤ 60) ∧ R (.sh (.int ((ps.countP fun z => PyData.eqv z p : Nat) : Int)))
    | _, _ => False)
  rw [toPs_strs]
  refine ⟨⟨plain_strs l, rfl, by rw [depth_strs]; decide⟩, ?_⟩
  have e : (l.map PyData.str).countP (fun z => PyData.eqv z (.str s)) = l.count s := by
    rw [List.countP_map]
    unfold List.count
    congr 1
  rw [e]
  exact h
def C__law_over (lv : Nat) : CC := { N := ["_law_x", "_law_y", "_law_sign"], sc := defScope (top 30), lv := lv, kp := [], brw := [], ali := [], calls := [], bis := [("all", 1)], cons := [], meths := [], keys := [], lam := false, fr := FR }
def b__law_over : List S := [(.ret (.and (.cmp .LtE (.idx (.var 0) (.int 0)) (.idx (.var 1) (.int 0))) (.bi 0 [(.lc (.cmp .LtE (.tmeth "count" (.idx (.var 0) (.int 1)) [(.var 2)]) (.tmeth "count" (.idx (.var 1) (.int 1)) [(.var 2)])) (.nm 2) (.idx (.var 0) (.int 1)) [] [2])])))]
theorem sc__law_over : FnScope ["_law_x", "_law_y", "_law_sign"] ["_law_x", "_law_y"] (defScope (top 30)) := ⟨rfl, rfl, rfl, by decide +kernel, rfl, by decide +kernel, by decide +kernel⟩
theorem d__law_over (lv : Nat) : DefC (C__law_over lv) ["_law_x", "_law_y"] (defArgs (top 30)) (defBody (top 30)) (defScope (top 30)) b__law_over := ⟨sc__law_over, rfl, rfl, (show ∀ i ∈ ([] : List Nat), i < 2 by decide), by kernel_rfl⟩
abbrev M__law_over : Sem := mkSem [] [] [allD] [] [] (atOf AT)
def F__law_over : FS := fun args R => ∃ x y : OR, args = [.sh (rowO x), .sh (rowO y)] ∧ x.2.length ≤ 1000 ∧ ∀ o, R (.sh (.bl (cO x y))) o
theorem p__law_over : ∀ args R, F__law_over args R → runF [] 2 3 (wSs M__law_over b__law_over) args R := by
  rintro args R ⟨x, y, rfl, hl, hR⟩
  refine ⟨rfl, ?_⟩
  unfold b__law_over rowO
  unfold cO at hR
  cases c1 : decide (x.1 ≤ y.1) with
  | false =>
    simp only [c1, Bool.false_and] at hR
    walk_at "SI"
    simp only [c1, wAls, wAug, wTMeth, tmD, wLcv, wSrs, wSrk, wSrl, wLc2, wTs, wCaps, wLMeth, lmD, wEnm, revD, rg1D, rg2D, wCMeth, wStf, putD, fldD, attrD, mkF, dflF, kwF, shs, pickG, pickO, consO, Option.map_some, List.take_nil, wMeth, methD, joinD, strsOf_map, wSs_cons, wSs_nil, Later_nil, wS, wE, wT, wI, wX, wVl, wOl, wAv, mk3, mkT, mkI, opd, wIf, wOr, DL.wAnd, DL.wNot, wBool, wTru, wUn, wOp, wFn, wCons, wNil, wVCons, wVNil, wAvNil, wAvVal, wAvBor, wCall2, wC, wVar, wAndV, wOrV, wNotV, wIte, wLst, wTup, wDct, wChn, wSlc, partE, varOp, asOp, entry, content, resO, resOs, frz, wRet, wRetV, wRetN, wNext, wDrop, wSet, wUnp, wPar, wSti, wBrk, wCnt, wMut, muD_append, muD_insert, muD_pop0, muD_pop1, mAppend, mInsert, mPop, mPopAt, wSeq', wFor, wWhile, wLc, wRng1, wRng2, wZip, itemsD, nth, bindTg, bindTgs, noOw, wipeS, restore, wback_val, wback_nil, wback_bor, List.nodup_nil, List.nodup_cons, List.not_mem_nil, bors, resA, pairD, keyD, le_size, List.replicate_succ, List.replicate_zero, List.length_cons, List.length_nil, List.cons_append, List.nil_append, List.getElem?_cons_zero, List.getElem?_cons_succ, List.getElem?_nil, List.set_cons_zero, List.set_cons_succ, Option.isSome_some, List.map_cons, List.map_nil, List.all_cons, List.all_nil, List.any_cons, List.any_nil, Nat.reduceSub, Nat.reduceAdd, Nat.reduceLT, Nat.reduceLeDiff, reduceIte, reduceCtorEq, Bool.not_true, Bool.not_false, Bool.false_eq_true, and_true, true_and, List.drop_zero, List.drop_succ_cons, List.take_succ_cons, List.take_zero, maxD2, minD2, lenD, intD, boolD, strD, listD, tupleD, allD, anyD, blsD, cmpB, cmpD, binD, addD, subD, mulD, fdivD, modD, powD, negD, idxD, slcD, truD, ltD, gtD, leD, geD, eqD_int, eqD_bl, eqD_str, eqD_non, L2.atI, ixN_lit, Int.reduceToNat, Option.bind_some, List.length_map, List.set_cons_zero, List.set_cons_succ, isNon, inD_ss, inStr_one, isiD, seqOf, lstOf, String.reduceNe, String.reduceEq, ne_eq, not_false_eq_true, not_true_eq_false, Bool.or_true, Bool.or_false, Bool.true_or, Bool.false_or, Bool.and_true, Bool.and_false, Bool.true_and, Bool.false_and, isT_NoneType_bool, isT_NoneType_int, isT_NoneType_str, isT_NoneType_list, isT_NoneType_tuple, isT_NoneType_dict, isT_bool_bool, isT_bool_int, isT_bool_str, isT_bool_list, isT_bool_tuple, isT_bool_dict, isT_int_bool, isT_int_int, isT_int_str, isT_int_list, isT_int_tuple, isT_int_dict, isT_str_bool, isT_str_int, isT_str_str, isT_str_list, isT_str_tuple, isT_str_dict, isT_list_bool, isT_list_int, isT_list_str, isT_list_list, isT_list_tuple, isT_list_dict, isT_tuple_bool, isT_tuple_int, isT_tuple_str, isT_tuple_list, isT_tuple_tuple, isT_tuple_dict, isT_dict_bool, isT_dict_int, isT_dict_str, isT_dict_list, isT_dict_tuple, isT_dict_dict, tyN_non, tyN_bl, tyN_int, tyN_str, tyN_lst, tyN_tup, tyN_ftup, tyN_klst, tyN_dic]
    exact hR _
  | true =>
    simp only [c1, Bool.true_and] at hR
    walk_at "SI"
    simp only [c1, wAls, wAug, wTMeth, tmD, wLcv, wSrs, wSrk, wSrl, wLc2, wTs, wCaps, wLMeth, lmD, wEnm, revD, rg1D, rg2D, wCMeth, wStf, putD, fldD, attrD, mkF, dflF, kwF, shs, pickG, pickO, consO, Option.map_some, List.take_nil, wMeth, methD, joinD, strsOf_map, wSs_cons, wSs_nil, Later_nil, wS, wE, wT, wI, wX, wVl, wOl, wAv, mk3, mkT, mkI, opd, wIf, wOr, DL.wAnd, DL.wNot, wBool, wTru, wUn, wOp, wFn, wCons, wNil, wVCons, wVNil, wAvNil, wAvVal, wAvBor, wCall2, wC, wVar, wAndV, wOrV, wNotV, wIte, wLst, wTup, wDct, wChn, wSlc, partE, varOp, asOp, entry, content, resO, resOs, frz, wRet, wRetV, wRetN, wNext, wDrop, wSet, wUnp, wPar, wSti, wBrk, wCnt, wMut, muD_append, muD_insert, muD_pop0, muD_pop1, mAppend, mInsert, mPop, mPopAt, wSeq', wFor, wWhile, wLc, wRng1, wRng2, wZip, itemsD, nth, bindTg, bindTgs, noOw, wipeS, restore, wback_val, wback_nil, wback_bor, List.nodup_nil, List.nodup_cons, List.not_mem_nil, bors, resA, pairD, keyD, le_size, List.replicate_succ, List.replicate_zero, List.length_cons, List.length_nil, List.cons_append, List.nil_append, List.getElem?_cons_zero, List.getElem?_cons_succ, List.getElem?_nil, List.set_cons_zero, List.set_cons_succ, Option.isSome_some, List.map_cons, List.map_nil, List.all_cons, List.all_nil, List.any_cons, List.any_nil, Nat.reduceSub, Nat.reduceAdd, Nat.reduceLT, Nat.reduceLeDiff, reduceIte, reduceCtorEq, Bool.not_true, Bool.not_false, Bool.false_eq_true, and_true, true_and, List.drop_zero, List.drop_succ_cons, List.take_succ_cons, List.take_zero, maxD2, minD2, lenD, intD, boolD, strD, listD, tupleD, allD, anyD, blsD, cmpB, cmpD, binD, addD, subD, mulD, fdivD, modD, powD, negD, idxD, slcD, truD, ltD, gtD, leD, geD, eqD_int, eqD_bl, eqD_str, eqD_non, L2.atI, ixN_lit, Int.reduceToNat, Option.bind_some, List.length_map, List.set_cons_zero, List.set_cons_succ, isNon, inD_ss, inStr_one, isiD, seqOf, lstOf, String.reduceNe, String.reduceEq, ne_eq, not_false_eq_true, not_true_eq_false, Bool.or_true, Bool.or_false, Bool.true_or, Bool.false_or, Bool.and_true, Bool.and_false, Bool.true_and, Bool.false_and, isT_NoneType_bool, isT_NoneType_int, isT_NoneType_str, isT_NoneType_list, isT_NoneType_tuple, isT_NoneType_dict, isT_bool_bool, isT_bool_int, isT_bool_str, isT_bool_list, isT_bool_tuple, isT_bool_dict, isT_int_bool, isT_int_int, isT_int_str, isT_int_list, isT_int_tuple, isT_int_dict, isT_str_bool, isT_str_int, isT_str_str, isT_str_list, isT_str_tuple, isT_str_dict, isT_list_bool, isT_list_int, isT_list_str, isT_list_list, isT_list_tuple, isT_list_dict, isT_tuple_bool, isT_tuple_int, isT_tuple_str, isT_tuple_list, isT_tuple_tuple, isT_tuple_dict, isT_dict_bool, isT_dict_int, isT_dict_str, isT_dict_list, isT_dict_tuple, isT_dict_dict, tyN_non, tyN_bl, tyN_int, tyN_str, tyN_lst, tyN_tup, tyN_ftup, tyN_klst, tyN_dic]
    refine ⟨Nat.le_trans hl (by decide), ?_⟩
    refine lcGo_mapg D.str (fun s => .bl (decide (x.2.count s ≤ y.2.count s))) x.2 _ (fun s _ => ⟨_, rfl, rfl, fun Q q => ?_⟩) ?_
    · walk_at "SI"
      refine countD_str ?_
      walk_at "SI"
      refine countD_str ?_
      walk_at "SI"
      refine q _ ?_
      show D.bl (decide ((x.2.count s : Int) ≤ (y.2.count s : Int))) = _
      congr 1
      rw [Bool.eq_iff_iff, decide_eq_true_eq, decide_eq_true_eq]
      omega
    rw [any_bls]
    simp only [blsOf_map, List.all_map]
    exact hR _
theorem ok__law_over {P : Program} {w : World} {K : PySem.W.Frag} {mg : Str → Option Value} {base : Heap} (V : VE K mg base) : ∃ fd, FunD K "_law_over" "_law_over" (defArgs (top 30)) (defBody (top 30)) (defScope (top 30)) [] [] (He.ga K "_law_over") fd ∧ FnOk P w K mg base CX0 1 (He.ga K "_law_over") fd ["_law_x", "_law_y"] (spOf K F__law_over) := by
  obtain ⟨fd, Fd⟩ := V.def_ 18 (d := dd "_law_over" 30 []) rfl
  exact ⟨fd, Fd, fn_ok Fd (d__law_over 0) (mkTab .nil (.cons rfl .nil) (show ([("all", 1)] : List (Str × Nat)).all (fun c => decide (c.1 ∈ FR)) = true by decide +kernel) .nil .nil (at_ok V) V.free rfl) (fun h => by cases h) rfl p__law_over⟩
theorem cj__law_over_2 {P : Program} {w : World} {K : PySem.W.Frag} {mg : Str → Option Value} {base : Heap} {lv : Nat} (V : VE K mg base) (h : 1 ≤ lv) : CallJ P w K mg base lv "_law_over" 2 [] F__law_over := by
  obtain ⟨fd, Fd, F⟩ := ok__law_over (P := P) (w := w) (base := base) V
  exact callJ F h (V.glo 14 rfl) Fd.kp (FunD.bindsN Fd (fun _ _ _ _ _ _ us hl => match us, hl with | [_, _], _ => rfl)) 2
end K06

namespace K06
open PySem DL
open L2 (V FnOk FunD CX0 defArgs defBody defScope SqL FnScope KBn)
local macro_rules | `(tactic| walk_at "SI") => `(tactic| simp only [wAls, wAug, wTMeth, tmD, wLcv, wSrs, wSrk, wSrl, wLc2, wTs, wCaps, wLMeth, lmD, wEnm, revD, rg1D, rg2D, wCMeth, wStf, putD, fldD, attrD, mkF, dflF, kwF, shs, pickG, pickO, consO, Option.map_some, List.take_nil, wMeth, methD, joinD, strsOf_map, wSs_cons, wSs_nil, Later_nil, wS, wE, wT, wI, wX, wVl, wOl, wAv, mk3, mkT, mkI, opd, wIf, wOr, DL.wAnd, DL.wNot, wBool, wTru, wUn, wOp, wFn, wCons, wNil, wVCons, wVNil, wAvNil, wAvVal, wAvBor, wCall2, wC, wVar, wAndV, wOrV, wNotV, wIte, wLst, wTup, wDct, wChn, wSlc, partE, varOp, asOp, entry, content, resO, resOs, frz, wRet, wRetV, wRetN, wNext, wDrop, wSet, wUnp, wPar, wSti, wBrk, wCnt, wMut, muD_append, muD_insert, muD_pop0, muD_pop1, mAppend, mInsert, mPop, mPopAt, wSeq', wFor, wWhile, wLc, wRng1, wRng2, wZip, itemsD, nth, bindTg, bindTgs, noOw, wipeS, restore, wback_val, wback_nil, wback_bor, List.nodup_nil, List.nodup_cons, List.not_mem_nil, bors, resA, pairD, keyD, le_size, List.replicate_succ, List.replicate_zero, List.length_cons, List.length_nil, List.cons_append, List.nil_append, List.getElem?_cons_zero, List.getElem?_cons_succ, List.getElem?_nil, List.set_cons_zero, List.set_cons_succ, Option.isSome_some, List.map_cons, List.map_nil, List.all_cons, List.all_nil, List.any_cons, List.any_nil, Nat.reduceSub, Nat.reduceAdd, Nat.reduceLT, Nat.reduceLeDiff, reduceIte, reduceCtorEq, Bool.not_true, Bool.not_false, Bool.false_eq_true, and_true, true_and, List.drop_zero, List.drop_succ_cons, List.take_succ_cons, List.take_zero, maxD2, minD2, lenD, intD, boolD, strD, listD, tupleD, allD, anyD, blsD, cmpB, cmpD, binD, addD, subD, mulD, fdivD, modD, powD, negD, idxD, slcD, truD, ltD, gtD, leD, geD, eqD_int, eqD_bl, eqD_str, eqD_non, L2.atI, ixN_lit, Int.reduceToNat, Option.bind_some, List.length_map, List.set_cons_zero, List.set_cons_succ, isNon, inD_ss, inStr_one, isiD, seqOf, lstOf, String.reduceNe, String.reduceEq, ne_eq, not_false_eq_true, not_true_eq_false, Bool.or_true, Bool.or_false, Bool.true_or, Bool.false_or, Bool.and_true, Bool.and_false, Bool.true_and, Bool.false_and, isT_NoneType_bool, isT_NoneType_int, isT_NoneType_str, isT_NoneType_list, isT_NoneType_tuple, isT_NoneType_dict, isT_bool_bool, isT_bool_int, isT_bool_str, isT_bool_list, isT_bool_tuple, isT_bool_dict, isT_int_bool, isT_int_int, isT_int_str, isT_int_list, isT_int_tuple, isT_int_dict, isT_str_bool, isT_str_int, isT_str_str, isT_str_list, isT_str_tuple, isT_str_dict, isT_list_bool, isT_list_int, isT_list_str, isT_list_list, isT_list_tuple, isT_list_dict, isT_tuple_bool, isT_tuple_int, isT_tuple_str, isT_tuple_list, isT_tuple_tuple, isT_tuple_dict, isT_dict_bool, isT_dict_int, isT_dict_str, isT_dict_list, isT_dict_tuple, isT_dict_dict, tyN_non, tyN_bl, tyN_int, tyN_str, tyN_lst, tyN_tup, tyN_ftup, tyN_klst, tyN_dic])
local macro_rules | `(tactic| walk_at "ST") => `(tactic| (refine later ?_; simp only [wAls, wAug, wTMeth, tmD, wLcv, wSrs, wSrk, wSrl, wLc2, wTs, wCaps, wLMeth, lmD, wEnm, revD, rg1D, rg2D, wCMeth, wStf, putD, fldD, attrD, mkF, dflF, kwF, shs, pickG, pickO, consO, Option.map_some, List.take_nil, wMeth, methD, joinD, strsOf_map, wSs_cons, wSs_nil, Later_nil, wS, wE, wT, wI, wX, wVl, wOl, wAv, mk3, mkT, mkI, opd, wIf, wOr, DL.wAnd, DL.wNot, wBool, wTru, wUn, wOp, wFn, wCons, wNil, wVCons, wVNil, wAvNil, wAvVal, wAvBor, wCall2, wC, wVar, wAndV, wOrV, wNotV, wIte, wLst, wTup, wDct, wChn, wSlc, partE, varOp, asOp, entry, content, resO, resOs, frz, wRet, wRetV, wRetN, wNext, wDrop, wSet, wUnp, wPar, wSti, wBrk, wCnt, wMut, muD_append, muD_insert, muD_pop0, muD_pop1, mAppend, mInsert, mPop, mPopAt, wSeq', wFor, wWhile, wLc, wRng1, wRng2, wZip, itemsD, nth, bindTg, bindTgs, noOw, wipeS, restore, wback_val, wback_nil, wback_bor, List.nodup_nil, List.nodup_cons, List.not_mem_nil, bors, resA, pairD, keyD, le_size, List.replicate_succ, List.replicate_zero, List.length_cons, List.length_nil, List.cons_append, List.nil_append, List.getElem?_cons_zero, List.getElem?_cons_succ, List.getElem?_nil, List.set_cons_zero, List.set_cons_succ, Option.isSome_some, List.map_cons, List.map_nil, List.all_cons, List.all_nil, List.any_cons, List.any_nil, Nat.reduceSub, Nat.reduceAdd, Nat.reduceLT, Nat.reduceLeDiff, reduceIte, reduceCtorEq, Bool.not_true, Bool.not_false, Bool.false_eq_true, and_true, true_and, List.drop_zero, List.drop_succ_cons, List.take_succ_cons, List.take_zero, maxD2, minD2, lenD, intD, boolD, strD, listD, tupleD, allD, anyD, blsD, cmpB, cmpD, binD, addD, subD, mulD, fdivD, modD, powD, negD, idxD, slcD, truD, ltD, gtD, leD, geD, eqD_int, eqD_bl, eqD_str, eqD_non, L2.atI, ixN_lit, Int.reduceToNat, Option.bind_some, List.length_map, List.set_cons_zero, List.set_cons_succ, isNon, inD_ss, inStr_one, isiD, seqOf, lstOf, String.reduceNe, String.reduceEq, ne_eq, not_false_eq_true, not_true_eq_false, Bool.or_true, Bool.or_false, Bool.true_or, Bool.false_or, Bool.and_true, Bool.and_false, Bool.true_and, Bool.false_and, isT_NoneType_bool, isT_NoneType_int, isT_NoneType_str, isT_NoneType_list, isT_NoneType_tuple, isT_NoneType_dict, isT_bool_bool, isT_bool_int, isT_bool_str, isT_bool_list, isT_bool_tuple, isT_bool_dict, isT_int_bool, isT_int_int, isT_int_str, isT_int_list, isT_int_tuple, isT_int_dict, isT_str_bool, isT_str_int, isT_str_str, isT_str_list, isT_str_tuple, isT_str_dict, isT_list_bool, isT_list_int, isT_list_str, isT_list_list, isT_list_tuple, isT_list_dict, isT_tuple_bool, isT_tuple_int, isT_tuple_str, isT_tuple_list, isT_tuple_tuple, isT_tuple_dict, isT_dict_bool, isT_dict_int, isT_dict_str, isT_dict_list, isT_dict_tuple, isT_dict_dict, tyN_non, tyN_bl, tyN_int, tyN_str, tyN_lst, tyN_tup, tyN_ftup, tyN_klst, tyN_dic]))
def C__law_open (lv : Nat) : CC := { N := ["_law_rows_y", "_law_kept", "_law_x", "_law_y"], sc := defScope (top 31), lv := lv, kp := [], brw := [], ali := [], calls := [("_law_over", 2, [])], bis := [("tuple", 1), ("sorted", 1), ("any", 1)], cons := [], meths := [], keys := [], lam := false, fr := FR }
def b__law_open : List S := [(.set 1 (.srs (.lc (.tup [(.idx (.var 2) (.int 0)), (.bi 0 [(.bi 1 [(.idx (.var 2) (.int 1))])])]) (.nm 2) (.var 0) [] [2]))), (.ret (.bi 0 [(.lc (.var 2) (.nm 2) (.var 1) [(.nt (.bi 2 [(.lc (.and (.cmp .NotEq (.var 3) (.var 2)) (.call 0 [(.var 3), (.var 2)] [])) (.nm 3) (.var 1) [] [3])]))] [2])]))]
theorem sc__law_open : FnScope ["_law_rows_y", "_law_kept", "_law_x", "_law_y"] ["_law_rows_y"] (defScope (top 31)) := ⟨rfl, rfl, rfl, by decide +kernel, rfl, by decide +kernel, by decide +kernel⟩
theorem d__law_open (lv : Nat) : DefC (C__law_open lv) ["_law_rows_y"] (defArgs (top 31)) (defBody (top 31)) (defScope (top 31)) b__law_open := ⟨sc__law_open, rfl, rfl, (show ∀ i ∈ ([] : List Nat), i < 1 by decide), by kernel_rfl⟩
abbrev M__law_open : Sem := mkSem [] [F__law_over] [tupleD, sortedD, anyD] [] [] (atOf AT)
def F__law_open : FS := fun args R => ∃ L : List OR, args = [.sh (.lst (L.map rowO))] ∧ (∀ r ∈ L, okR r) ∧ L.length < 64 ∧ ∀ T : List OR, Thin cc (L.map nO) T → T.Pairwise CO.lt → T.length ≤ L.length → ∀ o, R (.sh (.tup (T.map rowO))) o
theorem p__law_open : ∀ args R, F__law_open args R → runF [] 1 4 (wSs M__law_open b__law_open) args R := by
  rintro args R ⟨L, rfl, hok, hl, hR⟩
  refine ⟨rfl, ?_⟩
  unfold b__law_open
  walk_at "SI"
  refine ⟨Nat.le_trans (show L.length ≤ 1000 by omega) (by decide), ?_⟩
  refine lcGo_mapg rowO (fun x => rowO (nO x)) L _ (fun x hx => ⟨_, rfl, rfl, fun Q q => ?_⟩) ?_
  · unfold rowO
    walk_at "SI"
    refine str_sorted (l := x.2) rfl ?_
    walk_at "SI"
    exact .inr (q _ rfl)
  have e0 : (L.map fun x => rowO (nO x)) = (L.map nO).map rowO := by rw [List.map_map]; rfl
  rw [e0]
  have hokN : ∀ r ∈ L.map nO, okR r ∧ Srtd r := fun r hr => by
    obtain ⟨x, hx, rfl⟩ := List.mem_map.mp hr
    exact ⟨okR_nO (hok x hx), nO_srtd x⟩
  have hlN : (L.map nO).length = L.length := List.length_map ..
  generalize hN : L.map nO = N at hokN hlN hR
  refine .inr (CO.set (L := N) (by omega) fun S nd hs so => ?_)
  have hT := thin_min (c := cO) szO cO_refl hs (fun x hx y hy z hz => cO_trans x y z) fun x hx y hy => szO_mono (hokN x hx).2 (hokN y hy).2
  have hlt : (S.filter (minC cO S)).Pairwise CO.lt := (so.and nd).filter _
  have lS := nodup_len nd fun x h => (hs x).mp h
  have hlen : (S.filter (minC cO S)).length ≤ L.length := by have := List.length_filter_le (minC cO S) S; omega
  have szS : S.length ≤ sizeLine := Nat.le_trans (show S.length ≤ 1000 by omega) (by decide)
  have hokS : ∀ r ∈ S, okR r := fun r hr => (hokN r ((hs r).mp hr)).1
  walk_at "ST"
  refine ⟨szS, ?_⟩
  refine lcGo_filtg rowO rowO (minC cO S) S _ (fun x hx => ⟨_, rfl, rfl, fun Q q => ?_, fun _ Q q => ?_⟩) ?_
  · walk_at "SI"
    refine ⟨szS, ?_⟩
    refine lcGo_mapg rowO (fun y => .bl (!decide (y = x) && cO y x)) S _ (fun y hy => ⟨_, rfl, rfl, fun Q q => ?_⟩) ?_
    · walk_at "SI"
      refine eqD_cod CO (CO_shaped (hokS y hy)) (CO_shaped (hokS x hx)) ?_
      by_cases e : y = x
      · rw [decide_eq_true e]
        walk_at "SI"
        exact q _ (by rw [decide_eq_true e]; rfl)
      · rw [decide_eq_false e]
        walk_at "SI"
        exact ⟨y, x, rfl, (hokS y hy).2, fun o => q _ (by rw [decide_eq_false e]; rfl)⟩
    rw [any_bls]
    simp only [blsOf_map, List.any_map]
    exact q
  · walk_at "SI"
    exact q _ rfl
  · walk_at "SI"
    exact .inl (hR _ hT hlt hlen _)
theorem ok__law_open {P : Program} {w : World} {K : PySem.W.Frag} {mg : Str → Option Value} {base : Heap} (V : VE K mg base) : ∃ fd, FunD K "_law_open" "_law_open" (defArgs (top 31)) (defBody (top 31)) (defScope (top 31)) [] [] (He.ga K "_law_open") fd ∧ FnOk P w K mg base CX0 2 (He.ga K "_law_open") fd ["_law_rows_y"] (spOf K F__law_open) := by
  obtain ⟨fd, Fd⟩ := V.def_ 19 (d := dd "_law_open" 31 []) rfl
  exact ⟨fd, Fd, fn_ok Fd (d__law_open 1) (mkTab (.cons (cj__law_over_2 V (by first | decide | omega)) .nil) (.cons rfl (.cons rfl (.cons rfl .nil))) (show ([("tuple", 1), ("sorted", 1), ("any", 1)] : List (Str × Nat)).all (fun c => decide (c.1 ∈ FR)) = true by decide +kernel) .nil .nil (at_ok V) V.free rfl) (fun h => by cases h) rfl p__law_open⟩
theorem cj__law_open_1 {P : Program} {w : World} {K : PySem.W.Frag} {mg : Str → Option Value} {base : Heap} {lv : Nat} (V : VE K mg base) (h : 2 ≤ lv) : CallJ P w K mg base lv "_law_open" 1 [] F__law_open := by
  obtain ⟨fd, Fd, F⟩ := ok__law_open (P := P) (w := w) (base := base) V
  exact callJ F h (V.glo 15 rfl) Fd.kp (FunD.bindsN Fd (fun _ _ _ _ _ _ us hl => match us, hl with | [_], _ => rfl)) 1
end K06

namespace K06
open PySem DL
open L2 (V FnOk FunD CX0 defArgs defBody defScope SqL FnScope KBn)
local macro_rules | `(tactic| walk_at "SI") => `(tactic| simp only [wAls, wAug, wTMeth, tmD, wLcv, wSrs, wSrk, wSrl, wLc2, wTs, wCaps, wLMeth, lmD, wEnm, revD, rg1D, rg2D, wCMeth, wStf, putD, fldD, attrD, mkF, dflF, kwF, shs, pickG, pickO, consO, Option.map_some, List.take_nil, wMeth, methD, joinD, strsOf_map, wSs_cons, wSs_nil, Later_nil, wS, wE, wT, wI, wX, wVl, wOl, wAv, mk3, mkT, mkI, opd, wIf, wOr, DL.wAnd, DL.wNot, wBool, wTru, wUn, wOp, wFn, wCons, wNil, wVCons, wVNil, wAvNil, wAvVal, wAvBor, wCall2, wC, wVar, wAndV, wOrV, wNotV, wIte, wLst, wTup, wDct, wChn, wSlc, partE, varOp, asOp, entry, content, resO, resOs, frz, wRet, wRetV, wRetN, wNext, wDrop, wSet, wUnp, wPar, wSti, wBrk, wCnt, wMut, muD_append, muD_insert, muD_pop0, muD_pop1, mAppend, mInsert, mPop, mPopAt, wSeq', wFor, wWhile, wLc, wRng1, wRng2, wZip, itemsD, nth, bindTg, bindTgs, noOw, wipeS, restore, wback_val, wback_nil, wback_bor, List.nodup_nil, List.nodup_cons, List.not_mem_nil, bors, resA, pairD, keyD, le_size, List.replicate_succ, List.replicate_zero, List.length_cons, List.length_nil, List.cons_append, List.nil_append, List.getElem?_cons_zero, List.getElem?_cons_succ, List.getElem?_nil, List.set_cons_zero, List.set_cons_succ, Option.isSome_some, List.map_cons, List.map_nil, List.all_cons, List.all_nil, List.any_cons, List.any_nil, Nat.reduceSub, Nat.reduceAdd, Nat.reduceLT, Nat.reduceLeDiff, reduceIte, reduceCtorEq, Bool.not_true, Bool.not_false, Bool.false_eq_true, and_true, true_and, List.drop_zero, List.drop_succ_cons, List.take_succ_cons, List.take_zero, maxD2, minD2, lenD, intD, boolD, strD, listD, tupleD, allD, anyD, blsD, cmpB, cmpD, binD, addD, subD, mulD, fdivD, modD, powD, negD, idxD, slcD, truD, ltD, gtD, leD, geD, eqD_int, eqD_bl, eqD_str, eqD_non, L2.atI, ixN_lit, Int.reduceToNat, Option.bind_some, List.length_map, List.set_cons_zero, List.set_cons_succ, isNon, inD_ss, inStr_one, isiD, seqOf, lstOf, String.reduceNe, String.reduceEq, ne_eq, not_false_eq_true, not_true_eq_false, Bool.or_true, Bool.or_false, Bool.true_or, Bool.false_or, Bool.and_true, Bool.and_false, Bool.true_and, Bool.false_and, isT_NoneType_bool, isT_NoneType_int, isT_NoneType_str, isT_NoneType_list, isT_NoneType_tuple, isT_NoneType_dict, isT_bool_bool, isT_bool_int, isT_bool_str, isT_bool_list, isT_bool_tuple, isT_bool_dict, isT_int_bool, isT_int_int, isT_int_str, isT_int_list, isT_int_tuple, isT_int_dict, isT_str_bool, isT_str_int, isT_str_str, isT_str_list, isT_str_tuple, isT_str_dict, isT_list_bool, isT_list_int, isT_list_str, isT_list_list, isT_list_tuple, isT_list_dict, isT_tuple_bool, isT_tuple_int, isT_tuple_str, isT_tuple_list, isT_tuple_tuple, isT_tuple_dict, isT_dict_bool, isT_dict_int, isT_dict_str, isT_dict_list, isT_dict_tuple, isT_dict_dict, tyN_non, tyN_bl, tyN_int, tyN_str, tyN_lst, tyN_tup, tyN_ftup, tyN_klst, tyN_dic])
local macro_rules | `(tactic| walk_at "ST") => `(tactic| (refine later ?_; simp only [wAls, wAug, wTMeth, tmD, wLcv, wSrs, wSrk, wSrl, wLc2, wTs, wCaps, wLMeth, lmD, wEnm, revD, rg1D, rg2D, wCMeth, wStf, putD, fldD, attrD, mkF, dflF, kwF, shs, pickG, pickO, consO, Option.map_some, List.take_nil, wMeth, methD, joinD, strsOf_map, wSs_cons, wSs_nil, Later_nil, wS, wE, wT, wI, wX, wVl, wOl, wAv, mk3, mkT, mkI, opd, wIf, wOr, DL.wAnd, DL.wNot, wBool, wTru, wUn, wOp, wFn, wCons, wNil, wVCons, wVNil, wAvNil, wAvVal, wAvBor, wCall2, wC, wVar, wAndV, wOrV, wNotV, wIte, wLst, wTup, wDct, wChn, wSlc, partE, varOp, asOp, entry, content, resO, resOs, frz, wRet, wRetV, wRetN, wNext, wDrop, wSet, wUnp, wPar, wSti, wBrk, wCnt, wMut, muD_append, muD_insert, muD_pop0, muD_pop1, mAppend, mInsert, mPop, mPopAt, wSeq', wFor, wWhile, wLc, wRng1, wRng2, wZip, itemsD, nth, bindTg, bindTgs, noOw, wipeS, restore, wback_val, wback_nil, wback_bor, List.nodup_nil, List.nodup_cons, List.not_mem_nil, bors, resA, pairD, keyD, le_size, List.replicate_succ, List.replicate_zero, List.length_cons, List.length_nil, List.cons_append, List.nil_append, List.getElem?_cons_zero, List.getElem?_cons_succ, List.getElem?_nil, List.set_cons_zero, List.set_cons_succ, Option.isSome_some, List.map_cons, List.map_nil, List.all_cons, List.all_nil, List.any_cons, List.any_nil, Nat.reduceSub, Nat.reduceAdd, Nat.reduceLT, Nat.reduceLeDiff, reduceIte, reduceCtorEq, Bool.not_true, Bool.not_false, Bool.false_eq_true, and_true, true_and, List.drop_zero, List.drop_succ_cons, List.take_succ_cons, List.take_zero, maxD2, minD2, lenD, intD, boolD, strD, listD, tupleD, allD, anyD, blsD, cmpB, cmpD, binD, addD, subD, mulD, fdivD, modD, powD, negD, idxD, slcD, truD, ltD, gtD, leD, geD, eqD_int, eqD_bl, eqD_str, eqD_non, L2.atI, ixN_lit, Int.reduceToNat, Option.bind_some, List.length_map, List.set_cons_zero, List.set_cons_succ, isNon, inD_ss, inStr_one, isiD, seqOf, lstOf, String.reduceNe, String.reduceEq, ne_eq, not_false_eq_true, not_true_eq_false, Bool.or_true, Bool.or_false, Bool.true_or, Bool.false_or, Bool.and_true, Bool.and_false, Bool.true_and, Bool.false_and, isT_NoneType_bool, isT_NoneType_int, isT_NoneType_str, isT_NoneType_list, isT_NoneType_tuple, isT_NoneType_dict, isT_bool_bool, isT_bool_int, isT_bool_str, isT_bool_list, isT_bool_tuple, isT_bool_dict, isT_int_bool, isT_int_int, isT_int_str, isT_int_list, isT_int_tuple, isT_int_dict, isT_str_bool, isT_str_int, isT_str_str, isT_str_list, isT_str_tuple, isT_str_dict, isT_list_bool, isT_list_int, isT_list_str, isT_list_list, isT_list_tuple, isT_list_dict, isT_tuple_bool, isT_tuple_int, isT_tuple_str, isT_tuple_list, isT_tuple_tuple, isT_tuple_dict, isT_dict_bool, isT_dict_int, isT_dict_str, isT_dict_list, isT_dict_tuple, isT_dict_dict, tyN_non, tyN_bl, tyN_int, tyN_str, tyN_lst, tyN_tup, tyN_ftup, tyN_klst, tyN_dic]))
theorem rel_mem {Pr : D → Prop} {items rs : List D} (hl : rs.length = items.length) (hP : ∀ (i : Nat) (x y : D), items[i]? = some x → rs[i]? = some y → Pr y) : ∀ y ∈ rs, Pr y := fun y hy => by
  obtain ⟨i, hi, e⟩ := List.getElem_of_mem hy
  have e2 : rs[i]? = some y := by rw [List.getElem?_eq_getElem hi, e]
  exact hP i (items[i]'(by rw [← hl]; exact hi)) y (List.getElem?_eq_getElem (by rw [← hl]; exact hi)) e2
theorem enc_of {α : Type} (f : α → D) {Pr : α → Prop} : ∀ (ys : List D), (∀ y ∈ ys, ∃ p : α, y = f p ∧ Pr p) → ∃ P : List α, ys = P.map f ∧ ∀ x ∈ P, Pr x
  | [], _ => ⟨[], rfl, fun x h => by cases h⟩
  | y :: ys, h => by
    obtain ⟨p, rfl, hp⟩ := h y (.head _)
    obtain ⟨P, rfl, hP⟩ := enc_of f ys fun y m => h y (.tail _ m)
    refine ⟨p :: P, rfl, fun x m => ?_⟩
    rcases List.mem_cons.mp m with rfl | m
    · exact hp
    · exact hP x m
def C__law_some_rows (lv : Nat) : CC := { N := ["_law_bag_here", "_law_wide", "_law_size", "_law_k", "_law_found", "_law_x", "_law_j"], sc := defScope (top 32), lv := lv, kp := [0], brw := [0, 4], ali := [], calls := [("_law_of", 2, []), ("_law_draw", 2, [])], bis := [("tuple", 1), ("len", 1)], cons := [], meths := [], keys := [], lam := false, fr := FR }
def b__law_some_rows : List S := [(.set 2 (.call 0 [(.bor 0), (.lst [(.int 2), (.int 3), (.int 3), (.int 4), (.int 1000000)])] [])), (.set 4 (.lc (.bi 0 [(.lc (.call 1 [(.bor 0), (.var 2)] []) (.nm 3) (.rng [(.var 1)]) [] [3])]) (.nm 6) (.rng [(.call 1 [(.bor 0), (.int 8)] [])]) [] [6])), (.ifs (.and (.cmp .Gt (.bi 1 [(.var 4)]) (.int 0)) (.cmp .Eq (.call 1 [(.bor 0), (.int 2)] []) (.int 0))) [(.set 5 (.call 0 [(.bor 0), (.bor 4)] [])), (.set 3 (.call 1 [(.bor 0), (.var 1)] [])), (.expr (.mut "insert" 4 [(.call 1 [(.bor 0), (.bin .Add (.bi 1 [(.var 4)]) (.int 1))] []), (.bin .Add (.bin .Add (.slc (.var 5) .bad (.var 3)) (.tup [(.bin .Add (.idx (.var 5) (.var 3)) (.call 1 [(.bor 0), (.int 2)] []))])) (.slc (.var 5) (.bin .Add (.var 3) (.int 1)) .bad))]))] []), (.retv 4)]
theorem sc__law_some_rows : FnScope ["_law_bag_here", "_law_wide", "_law_size", "_law_k", "_law_found", "_law_x", "_law_j"] ["_law_bag_here", "_law_wide"] (defScope (top 32)) := ⟨rfl, rfl, rfl, by decide +kernel, rfl, by decide +kernel, by decide +kernel⟩
theorem d__law_some_rows (lv : Nat) : DefC (C__law_some_rows lv) ["_law_bag_here", "_law_wide"] (defArgs (top 32)) (defBody (top 32)) (defScope (top 32)) b__law_some_rows := ⟨sc__law_some_rows, rfl, rfl, (show ∀ i ∈ ([0] : List Nat), i < 2 by decide), by kernel_rfl⟩
abbrev M__law_some_rows : Sem := mkSem [0] [F__law_of, F__law_draw] [tupleD, lenD] [] [] (atOf AT)
def F__law_some_rows : FS := fun args R => ∃ (d : D) (w : Nat), args = [.ow d, .sh (.int ((w + 1 : Nat) : Int))] ∧ BagOk d ∧ w ≤ 9 ∧ ∀ (L : List IR) d', (∀ r ∈ L, r.2.length = w) → L.length ≤ 8 → BagOk d' → R (.ow (.lst (L.map CI.enc))) [.ow d', .no]
theorem p__law_some_rows : ∀ args R, F__law_some_rows args R → runF [0] 2 7 (wSs M__law_some_rows b__law_some_rows) args R := by
  rintro args R ⟨d, w, rfl, hd, hw, hR⟩
  refine ⟨rfl, ?_⟩
  unfold b__law_some_rows
  walk_at "SI"
  refine ⟨d, _, _, _, rfl, .inl rfl, hd, rfl, by show 0 < 5; decide, by show 5 ≤ 1000000; decide, fun x d1 hx hd1 => ?_⟩
  have hxi : ∃ k : Int, x = .int k ∧ 0 < k ∧ k ≤ 1000000 := by
    simp only [List.mem_cons, List.not_mem_nil, or_false] at hx
    rcases hx with rfl | rfl | rfl | rfl | rfl
    all_goals exact ⟨_, rfl, by omega, by omega⟩
  obtain ⟨size, rfl, hk0, hk1⟩ := hxi
  walk_at "SI"
  walk_at "ST"
  refine ⟨d1, 8, rfl, hd1, by decide, by decide, fun n d2 hn0 hn1 hd2 => ?_⟩
  walk_at "SI"
  have rl : ∀ n : Nat, (rangeD 0 n).length = n := fun n => by unfold rangeD; rw [List.length_map, List.length_range]
  refine ⟨⟨by omega, by omega⟩, by rw [rl]; exact Nat.le_trans (show n.toNat ≤ 1000 by omega) (by decide), ?_⟩
  refine lcGo_rel (fun s => ∃ d' : D, s = [.ow d', .sh (.int ((w + 1 : Nat) : Int)), .sh (.int size), .no, .no, .no, .no] ∧ BagOk d') (fun _ y => ∃ r : IR, y = CI.enc r ∧ r.2.length = w) _ _ _ (fun it _ s hs => ?_) ⟨d2, rfl, hd2⟩ fun rs s' hl hP hs => ?_
  · obtain ⟨d', rfl, hd'⟩ := hs
    refine ⟨_, rfl, fun K hK => ?_⟩
    walk_at "SI"
    refine ⟨⟨by omega, by omega⟩, by rw [rl]; exact Nat.le_trans (show _ ≤ 1000 by omega) (by decide), ?_⟩
    refine lcGo_rel (fun s => ∃ d' : D, s = [.ow d', .sh (.int ((w + 1 : Nat) : Int)), .sh (.int size), .no, .no, .no, .sh it] ∧ BagOk d') (fun _ y => ∃ k : Int, y = .int k ∧ True) _ _ _ (fun it2 _ s hs => ?_) ⟨d', rfl, hd'⟩ fun rs s' hl hP hs => ?_
    · obtain ⟨d', rfl, hd'⟩ := hs
      refine ⟨_, rfl, fun K hK => ?_⟩
      walk_at "SI"
      refine ⟨d', size, rfl, hd', hk0, by omega, fun a d3 ha0 ha1 hd3 => ?_⟩
      walk_at "SI"
      exact hK _ _ ⟨a, rfl, trivial⟩ ⟨d3, rfl, hd3⟩
    obtain ⟨d3, rfl, hd3⟩ := hs
    obtain ⟨l, rfl, _⟩ := enc_of D.int rs (rel_mem hl hP)
    rw [List.length_map, rl] at hl
    walk_at "SI"
    refine .inl ?_
    obtain ⟨a, l, rfl⟩ : ∃ a r, l = a :: r := by
      cases l with
      | nil => simp only [List.length_nil] at hl; omega
      | cons a r => exact ⟨a, r, rfl⟩
    exact hK _ _ ⟨(a, l), rfl, by simp only [List.length_cons] at hl; show l.length = w; omega⟩ ⟨d3, rfl, hd3⟩
  obtain ⟨d3, rfl, hd3⟩ := hs
  obtain ⟨L, rfl, hL⟩ := enc_of CI.enc rs (rel_mem hl hP)
  rw [List.length_map, rl] at hl
  refine later ?_
  walk_at "SI"
  have lz : (L.map CI.enc).length ≤ sizeLine := by rw [List.length_map]; exact Nat.le_trans (show _ ≤ 1000 by omega) (by decide)
  have fin : ∀ (d' : D) (L : List IR) (a3 a5 : Sl), BagOk d' → (∀ r ∈ L, r.2.length = w) → L.length ≤ 8 → Later M__law_some_rows [S.retv 4] { nx := fun s => R (Sl.sh D.non) (outA [0] 2 s), rt := fun r s => R r (outA [0] 2 s), bk := fun x => False, ct := fun x => False } [.ow d', .sh (.int ((w + 1 : Nat) : Int)), .sh (.int size), a3, .ow (.lst (L.map CI.enc)), a5, .no] := fun d' L a3 a5 hd' h1 h2 => by
    refine later ?_
    walk_at "SI"
    exact hR L d' h1 h2 hd'
  split
  · rename_i g
    have g := of_decide_eq_true g
    refine ⟨d3, 2, rfl, hd3, by decide, by decide, fun c d4 hc0 hc1 hd4 => ?_⟩
    walk_at "SI"
    split
    · refine ⟨by decide, d4, _, _, _, rfl, .inr rfl, hd4, rfl, by rw [List.length_map]; omega, by rw [List.length_map]; omega, fun x d5 hx hd5 => ?_⟩
      obtain ⟨y, hy, rfl⟩ := List.mem_map.mp hx
      have hyw := hL y hy
      walk_at "SI"
      walk_at "ST"
      refine ⟨d5, _, rfl, hd5, by omega, by omega, fun k d6 hk0 hk1 hd6 => ?_⟩
      walk_at "SI"
      walk_at "ST"
      obtain ⟨j, rfl⟩ : ∃ j : Nat, k = (j : Int) := ⟨k.toNat, by omega⟩
      have hj : j < w + 1 := by omega
      refine ⟨d6, _, rfl, hd6, by omega, by omega, fun p d7 hp0 hp1 hd7 => ?_⟩
      have ey : CI.enc y = .tup ((y.1 :: y.2).map .int) := rfl
      have hly : (y.1 :: y.2).length = w + 1 := by simp only [List.length_cons]; omega
      generalize y.1 :: y.2 = l at ey hly
      rw [ey]
      walk_at "SI"
      rw [ixN_nat (show (0 : Int) ≤ (j : Int) by omega) (show (j : Int) < (l.length : Int) by omega)]
      have hjl : j < l.length := by omega
      have hx2 : (l.map D.int)[(j : Int).toNat]? = some (.int l[j]) := by
        rw [Int.toNat_natCast, List.getElem?_map, List.getElem?_eq_getElem hjl]; rfl
      simp only [Option.bind_some, hx2]
      refine ⟨d7, 2, rfl, hd7, by decide, by decide, fun e d8 he0 he1 hd8 => ?_⟩
      have c1 : (cutL (l.map D.int) none (some (j : Int))) = (l.take j).map D.int := by rw [cutL_to, List.map_take]
      have c2 : (cutL (l.map D.int) (some ((j : Int) + 1)) none) = (l.drop (j + 1)).map D.int := by rw [show (j : Int) + 1 = ((j + 1 : Nat) : Int) by omega, cutL_from, List.map_drop]
      rw [c1]
      walk_at "SI"
      rw [c2, ← show List.map D.int [l[j] + e] = [D.int (l[j] + e)] from rfl, ← List.map_append, ← List.map_append]
      have hm : (l.take j ++ [l[j] + e] ++ l.drop (j + 1)).length = w + 1 := by
        simp only [List.length_append, List.length_take, List.length_drop, List.length_cons, List.length_nil]; omega
      generalize l.take j ++ [l[j] + e] ++ l.drop (j + 1) = m at hm
      obtain ⟨a, m, rfl⟩ : ∃ a r, m = a :: r := by
        cases m with
        | nil => simp only [List.length_nil] at hm; omega
        | cons a r => exact ⟨a, r, rfl⟩
      have b8 : ∀ n : Nat, n ≤ 1000 → n ≤ sizeLine := fun n h => Nat.le_trans h (by decide)
      refine ⟨b8 _ (by rw [List.length_take]; omega), b8 _ (by simp only [List.length_append, List.length_map, List.length_take, List.length_drop, List.length_cons, List.length_nil]; omega), ⟨Nat.lt_of_le_of_lt (show _ ≤ 1000 by omega) (by decide), hp0, by omega⟩, ?_⟩
      have e3 : List.take p.toNat (L.map CI.enc) ++ [D.tup ((a :: m).map D.int)] ++ List.drop p.toNat (L.map CI.enc) = (L.take p.toNat ++ [(a, m)] ++ L.drop p.toNat).map CI.enc := by
        rw [List.map_append, List.map_append, List.map_take, List.map_drop]; rfl
      rw [e3]
      refine fin d8 _ _ _ hd8 (fun r hr => ?_) ?_
      · rcases List.mem_append.mp hr with hr | hr
        · rcases List.mem_append.mp hr with hr | hr
          · exact hL r (List.mem_of_mem_take hr)
          · rw [List.mem_singleton.mp hr]
            simp only [List.length_cons] at hm
            show m.length = w
            omega
        · exact hL r (List.mem_of_mem_drop hr)
      · simp only [List.length_append, List.length_take, List.length_drop, List.length_cons, List.length_nil]; omega
    · exact fin d4 L _ _ hd4 hL (by omega)
  · exact fin d3 L _ _ hd3 hL (by omega)
theorem ok__law_some_rows {P : Program} {w : World} {K : PySem.W.Frag} {mg : Str → Option Value} {base : Heap} (V : VE K mg base) : ∃ fd, FunD K "_law_some_rows" "_law_some_rows" (defArgs (top 32)) (defBody (top 32)) (defScope (top 32)) [] [] (He.ga K "_law_some_rows") fd ∧ FnOk P w K mg base CX0 3 (He.ga K "_law_some_rows") fd ["_law_bag_here", "_law_wide"] (spOf K F__law_some_rows) := by
  obtain ⟨fd, Fd⟩ := V.def_ 20 (d := dd "_law_some_rows" 32 []) rfl
  exact ⟨fd, Fd, fn_ok Fd (d__law_some_rows 2) (mkTab (.cons (cj__law_of_2 V (by first | decide | omega)) (.cons (cj__law_draw_2 V (by first | decide | omega)) .nil)) (.cons rfl (.cons rfl .nil)) (show ([("tuple", 1), ("len", 1)] : List (Str × Nat)).all (fun c => decide (c.1 ∈ FR)) = true by decide +kernel) .nil .nil (at_ok V) V.free rfl) (fun h => by cases h) rfl p__law_some_rows⟩
theorem cj__law_some_rows_2 {P : Program} {w : World} {K : PySem.W.Frag} {mg : Str → Option Value} {base : Heap} {lv : Nat} (V : VE K mg base) (h : 3 ≤ lv) : CallJ P w K mg base lv "_law_some_rows" 2 [] F__law_some_rows := by
  obtain ⟨fd, Fd, F⟩ := ok__law_some_rows (P := P) (w := w) (base := base) V
  exact callJ F h (V.glo 16 rfl) Fd.kp (FunD.bindsN Fd (fun _ _ _ _ _ _ us hl => match us, hl with | [_, _], _ => rfl)) 2
end K06

namespace K06
open PySem DL
open L2 (V FnOk FunD CX0 defArgs defBody defScope SqL FnScope KBn)
local macro_rules | `(tactic| walk_at "SI") => `(tactic| simp only [wAls, wAug, wTMeth, tmD, wLcv, wSrs, wSrk, wSrl, wLc2, wTs, wCaps, wLMeth, lmD, wEnm, revD, rg1D, rg2D, wCMeth, wStf, putD, fldD, attrD, mkF, dflF, kwF, shs, pickG, pickO, consO, Option.map_some, List.take_nil, wMeth, methD, joinD, strsOf_map, wSs_cons, wSs_nil, Later_nil, wS, wE, wT, wI, wX, wVl, wOl, wAv, mk3, mkT, mkI, opd, wIf, wOr, DL.wAnd, DL.wNot, wBool, wTru, wUn, wOp, wFn, wCons, wNil, wVCons, wVNil, wAvNil, wAvVal, wAvBor, wCall2, wC, wVar, wAndV, wOrV, wNotV, wIte, wLst, wTup, wDct, wChn, wSlc, partE, varOp, asOp, entry, content, resO, resOs, frz, wRet, wRetV, wRetN, wNext, wDrop, wSet, wUnp, wPar, wSti, wBrk, wCnt, wMut, muD_append, muD_insert, muD_pop0, muD_pop1, mAppend, mInsert, mPop, mPopAt, wSeq', wFor, wWhile, wLc, wRng1, wRng2, wZip, itemsD, nth, bindTg, bindTgs, noOw, wipeS, restore, wback_val, wback_nil, wback_bor, List.nodup_nil, List.nodup_cons, List.not_mem_nil, bors, resA, pairD, keyD, le_size, List.replicate_succ, List.replicate_zero, List.length_cons, List.length_nil, List.cons_append, List.nil_append, List.getElem?_cons_zero, List.getElem?_cons_succ, List.getElem?_nil, List.set_cons_zero, List.set_cons_succ, Option.isSome_some, List.map_cons, List.map_nil, List.all_cons, List.all_nil, List.any_cons, List.any_nil, Nat.reduceSub, Nat.reduceAdd, Nat.reduceLT, Nat.reduceLeDiff, reduceIte, reduceCtorEq, Bool.not_true, Bool.not_false, Bool.false_eq_true, and_true, true_and, List.drop_zero, List.drop_succ_cons, List.take_succ_cons, List.take_zero, maxD2, minD2, lenD, intD, boolD, strD, listD, tupleD, allD, anyD, blsD, cmpB, cmpD, binD, addD, subD, mulD, fdivD, modD, powD, negD, idxD, slcD, truD, ltD, gtD, leD, geD, eqD_int, eqD_bl, eqD_str, eqD_non, L2.atI, ixN_lit, Int.reduceToNat, Option.bind_some, List.length_map, List.set_cons_zero, List.set_cons_succ, isNon, inD_ss, inStr_one, isiD, seqOf, lstOf, String.reduceNe, String.reduceEq, ne_eq, not_false_eq_true, not_true_eq_false, Bool.or_true, Bool.or_false, Bool.true_or, Bool.false_or, Bool.and_true, Bool.and_false, Bool.true_and, Bool.false_and, isT_NoneType_bool, isT_NoneType_int, isT_NoneType_str, isT_NoneType_list, isT_NoneType_tuple, isT_NoneType_dict, isT_bool_bool, isT_bool_int, isT_bool_str, isT_bool_list, isT_bool_tuple, isT_bool_dict, isT_int_bool, isT_int_int, isT_int_str, isT_int_list, isT_int_tuple, isT_int_dict, isT_str_bool, isT_str_int, isT_str_str, isT_str_list, isT_str_tuple, isT_str_dict, isT_list_bool, isT_list_int, isT_list_str, isT_list_list, isT_list_tuple, isT_list_dict, isT_tuple_bool, isT_tuple_int, isT_tuple_str, isT_tuple_list, isT_tuple_tuple, isT_tuple_dict, isT_dict_bool, isT_dict_int, isT_dict_str, isT_dict_list, isT_dict_tuple, isT_dict_dict, tyN_non, tyN_bl, tyN_int, tyN_str, tyN_lst, tyN_tup, tyN_ftup, tyN_klst, tyN_dic])
local macro_rules | `(tactic| walk_at "ST") => `(tactic| (refine later ?_; simp only [wAls, wAug, wTMeth, tmD, wLcv, wSrs, wSrk, wSrl, wLc2, wTs, wCaps, wLMeth, lmD, wEnm, revD, rg1D, rg2D, wCMeth, wStf, putD, fldD, attrD, mkF, dflF, kwF, shs, pickG, pickO, consO, Option.map_some, List.take_nil, wMeth, methD, joinD, strsOf_map, wSs_cons, wSs_nil, Later_nil, wS, wE, wT, wI, wX, wVl, wOl, wAv, mk3, mkT, mkI, opd, wIf, wOr, DL.wAnd, DL.wNot, wBool, wTru, wUn, wOp, wFn, wCons, wNil, wVCons, wVNil, wAvNil, wAvVal, wAvBor, wCall2, wC, wVar, wAndV, wOrV, wNotV, wIte, wLst, wTup, wDct, wChn, wSlc, partE, varOp, asOp, entry, content, resO, resOs, frz, wRet, wRetV, wRetN, wNext, wDrop, wSet, wUnp, wPar, wSti, wBrk, wCnt, wMut, muD_append, muD_insert, muD_pop0, muD_pop1, mAppend, mInsert, mPop, mPopAt, wSeq', wFor, wWhile, wLc, wRng1, wRng2, wZip, itemsD, nth, bindTg, bindTgs, noOw, wipeS, restore, wback_val, wback_nil, wback_bor, List.nodup_nil, List.nodup_cons, List.not_mem_nil, bors, resA, pairD, keyD, le_size, List.replicate_succ, List.replicate_zero, List.length_cons, List.length_nil, List.cons_append, List.nil_append, List.getElem?_cons_zero, List.getElem?_cons_succ, List.getElem?_nil, List.set_cons_zero, List.set_cons_succ, Option.isSome_some, List.map_cons, List.map_nil, List.all_cons, List.all_nil, List.any_cons, List.any_nil, Nat.reduceSub, Nat.reduceAdd, Nat.reduceLT, Nat.reduceLeDiff, reduceIte, reduceCtorEq, Bool.not_true, Bool.not_false, Bool.false_eq_true, and_true, true_and, List.drop_zero, List.drop_succ_cons, List.take_succ_cons, List.take_zero, maxD2, minD2, lenD, intD, boolD, strD, listD, tupleD, allD, anyD, blsD, cmpB, cmpD, binD, addD, subD, mulD, fdivD, modD, powD, negD, idxD, slcD, truD, ltD, gtD, leD, geD, eqD_int, eqD_bl, eqD_str, eqD_non, L2.atI, ixN_lit, Int.reduceToNat, Option.bind_some, List.length_map, List.set_cons_zero, List.set_cons_succ, isNon, inD_ss, inStr_one, isiD, seqOf, lstOf, String.reduceNe, String.reduceEq, ne_eq, not_false_eq_true, not_true_eq_false, Bool.or_true, Bool.or_false, Bool.true_or, Bool.false_or, Bool.and_true, Bool.and_false, Bool.true_and, Bool.false_and, isT_NoneType_bool, isT_NoneType_int, isT_NoneType_str, isT_NoneType_list, isT_NoneType_tuple, isT_NoneType_dict, isT_bool_bool, isT_bool_int, isT_bool_str, isT_bool_list, isT_bool_tuple, isT_bool_dict, isT_int_bool, isT_int_int, isT_int_str, isT_int_list, isT_int_tuple, isT_int_dict, isT_str_bool, isT_str_int, isT_str_str, isT_str_list, isT_str_tuple, isT_str_dict, isT_list_bool, isT_list_int, isT_list_str, isT_list_list, isT_list_tuple, isT_list_dict, isT_tuple_bool, isT_tuple_int, isT_tuple_str, isT_tuple_list, isT_tuple_tuple, isT_tuple_dict, isT_dict_bool, isT_dict_int, isT_dict_str, isT_dict_list, isT_dict_tuple, isT_dict_dict, tyN_non, tyN_bl, tyN_int, tyN_str, tyN_lst, tyN_tup, tyN_ftup, tyN_klst, tyN_dic]))
instance okDec : DecidablePred okS := fun z => inferInstanceAs (Decidable (_ ∧ _))
def C__law_lot (lv : Nat) : CC := { N := ["_law_bag_here", "_law_titles", "_law_k"], sc := defScope (top 33), lv := lv, kp := [0], brw := [0], ali := [], calls := [("_law_of", 2, [])], bis := [("tuple", 1)], cons := [], meths := [], keys := [], lam := false, fr := FR }
def b__law_lot : List S := [(.set 1 (.call 0 [(.bor 0), (.lst [(.lst [(.str "a"), (.str "b")]), (.lst [(.str "a"), (.str "b"), (.str "c")]), (.lst [(.str "a"), (.str "aa"), (.str "ab"), (.str "b")]), (.lst [(.str "cost"), (.str "zzzzzzzz"), (.str "a")])])] [])), (.ret (.bi 0 [(.lc (.call 0 [(.bor 0), (.var 1)] []) (.nm 2) (.rng [(.call 0 [(.bor 0), (.lst [(.int 0), (.int 1), (.int 1), (.int 2), (.int 2), (.int 3), (.int 4)])] [])]) [] [2])]))]
theorem sc__law_lot : FnScope ["_law_bag_here", "_law_titles", "_law_k"] ["_law_bag_here"] (defScope (top 33)) := ⟨rfl, rfl, rfl, by decide +kernel, rfl, by decide +kernel, by decide +kernel⟩
theorem d__law_lot (lv : Nat) : DefC (C__law_lot lv) ["_law_bag_here"] (defArgs (top 33)) (defBody (top 33)) (defScope (top 33)) b__law_lot := ⟨sc__law_lot, rfl, rfl, (show ∀ i ∈ ([0] : List Nat), i < 1 by decide), by kernel_rfl⟩
abbrev M__law_lot : Sem := mkSem [0] [F__law_of] [tupleD] [] [] (atOf AT)
def F__law_lot : FS := fun args R => ∃ (d : D), args = [.ow d] ∧ BagOk d ∧ ∀ (l : List Str) d', (∀ s ∈ l, okS s) → l.length ≤ 4 → BagOk d' → R (.sh (.ftup (l.map .str))) [.ow d']
theorem p__law_lot : ∀ args R, F__law_lot args R → runF [0] 1 3 (wSs M__law_lot b__law_lot) args R := by
  rintro args R ⟨d, rfl, hd, hR⟩
  refine ⟨rfl, ?_⟩
  unfold b__law_lot
  walk_at "SI"
  refine ⟨d, _, _, _, rfl, .inl rfl, hd, rfl, by show 0 < 4; decide, by show 4 ≤ 1000000; decide, fun x d1 hx hd1 => ?_⟩
  have hxi : ∃ ts : List Str, x = .lst (ts.map .str) ∧ 0 < ts.length ∧ ts.length ≤ 4 ∧ ∀ s ∈ ts, okS s := by
    simp only [List.mem_cons, List.not_mem_nil, or_false] at hx
    rcases hx with rfl | rfl | rfl | rfl
    · exact ⟨["a", "b"].map Str.ofString, rfl, by decide, by decide, by decide⟩
    · exact ⟨["a", "b", "c"].map Str.ofString, rfl, by decide, by decide, by decide⟩
    · exact ⟨["a", "aa", "ab", "b"].map Str.ofString, rfl, by decide, by decide, by decide⟩
    · exact ⟨["cost", "zzzzzzzz", "a"].map Str.ofString, rfl, by decide, by decide, by decide⟩
  obtain ⟨ts, rfl, h0, h1, hts⟩ := hxi
  walk_at "SI"
  walk_at "ST"
  refine ⟨d1, _, _, _, rfl, .inl rfl, hd1, rfl, by show 0 < 7; decide, by show 7 ≤ 1000000; decide, fun x d2 hx hd2 => ?_⟩
  have hxi : ∃ k : Int, x = .int k ∧ 0 ≤ k ∧ k ≤ 4 := by
    simp only [List.mem_cons, List.not_mem_nil, or_false] at hx
    rcases hx with rfl | rfl | rfl | rfl | rfl | rfl | rfl
    all_goals exact ⟨_, rfl, by omega, by omega⟩
  obtain ⟨n, rfl, hn0, hn1⟩ := hxi
  walk_at "SI"
  have rl : ∀ n : Nat, (rangeD 0 n).length = n := fun n => by unfold rangeD; rw [List.length_map, List.length_range]
  refine ⟨⟨by omega, by omega⟩, by rw [rl]; exact Nat.le_trans (show _ ≤ 1000 by omega) (by decide), ?_⟩
  refine lcGo_rel (fun s => ∃ d' : D, s = [.ow d', .sh (.lst (ts.map .str)), .no] ∧ BagOk d') (fun _ y => ∃ z : Str, y = .str z ∧ okS z) _ _ _ (fun it _ s hs => ?_) ⟨d2, rfl, hd2⟩ fun rs s' hl hP hs => ?_
  · obtain ⟨d', rfl, hd'⟩ := hs
    refine ⟨_, rfl, fun K hK => ?_⟩
    walk_at "SI"
    refine ⟨d', _, _, _, rfl, .inl rfl, hd', rfl, by rw [List.length_map]; omega, by rw [List.length_map]; omega, fun x d5 hx hd5 => ?_⟩
    obtain ⟨z, hz, rfl⟩ := List.mem_map.mp hx
    exact hK _ _ ⟨z, rfl, hts z hz⟩ ⟨d5, rfl, hd5⟩
  obtain ⟨d3, rfl, hd3⟩ := hs
  obtain ⟨l, rfl, hok⟩ := enc_of D.str rs (rel_mem hl hP)
  rw [List.length_map, rl] at hl
  walk_at "SI"
  exact .inr (hR l d3 hok (by omega) hd3)
theorem ok__law_lot {P : Program} {w : World} {K : PySem.W.Frag} {mg : Str → Option Value} {base : Heap} (V : VE K mg base) : ∃ fd, FunD K "_law_lot" "_law_lot" (defArgs (top 33)) (defBody (top 33)) (defScope (top 33)) [] [] (He.ga K "_law_lot") fd ∧ FnOk P w K mg base CX0 3 (He.ga K "_law_lot") fd ["_law_bag_here"] (spOf K F__law_lot) := by
  obtain ⟨fd, Fd⟩ := V.def_ 21 (d := dd "_law_lot" 33 []) rfl
  exact ⟨fd, Fd, fn_ok Fd (d__law_lot 2) (mkTab (.cons (cj__law_of_2 V (by first | decide | omega)) .nil) (.cons rfl .nil) (show ([("tuple", 1)] : List (Str × Nat)).all (fun c => decide (c.1 ∈ FR)) = true by decide +kernel) .nil .nil (at_ok V) V.free rfl) (fun h => by cases h) rfl p__law_lot⟩
theorem cj__law_lot_1 {P : Program} {w : World} {K : PySem.W.Frag} {mg : Str → Option Value} {base : Heap} {lv : Nat} (V : VE K mg base) (h : 3 ≤ lv) : CallJ P w K mg base lv "_law_lot" 1 [] F__law_lot := by
  obtain ⟨fd, Fd, F⟩ := ok__law_lot (P := P) (w := w) (base := base) V
  exact callJ F h (V.glo 17 rfl) Fd.kp (FunD.bindsN Fd (fun _ _ _ _ _ _ us hl => match us, hl with | [_], _ => rfl)) 1
def C__law_some_lots (lv : Nat) : CC := { N := ["_law_bag_here", "_law_found", "_law_x", "_law_lot_here", "_law_j"], sc := defScope (top 34), lv := lv, kp := [0], brw := [0, 1], ali := [], calls := [("_law_draw", 2, []), ("_law_lot", 1, []), ("_law_of", 2, [])], bis := [("len", 1), ("list", 1), ("tuple", 1)], cons := [], meths := [], keys := [], lam := false, fr := FR }
def b__law_some_lots : List S := [(.set 1 (.lc (.tup [(.call 0 [(.bor 0), (.int 3)] []), (.call 1 [(.bor 0)] [])]) (.nm 4) (.rng [(.call 0 [(.bor 0), (.int 8)] [])]) [] [4])), (.ifs (.and (.cmp .Gt (.bi 0 [(.var 1)]) (.int 0)) (.cmp .Eq (.call 0 [(.bor 0), (.int 2)] []) (.int 0))) [(.set 2 (.call 2 [(.bor 0), (.bor 1)] [])), (.set 3 (.bi 1 [(.idx (.var 2) (.int 1))])), (.expr (.mut "insert" 3 [(.call 0 [(.bor 0), (.bin .Add (.bi 0 [(.var 3)]) (.int 1))] []), (.call 2 [(.bor 0), (.lst [(.str "a"), (.str "b"), (.str "c")])] [])])), (.expr (.mut "insert" 1 [(.call 0 [(.bor 0), (.bin .Add (.bi 0 [(.var 1)]) (.int 1))] []), (.tup [(.bin .Add (.idx (.var 2) (.int 0)) (.call 0 [(.bor 0), (.int 2)] [])), (.bi 2 [(.var 3)])])]))] []), (.retv 1)]
theorem sc__law_some_lots : FnScope ["_law_bag_here", "_law_found", "_law_x", "_law_lot_here", "_law_j"] ["_law_bag_here"] (defScope (top 34)) := ⟨rfl, rfl, rfl, by decide +kernel, rfl, by decide +kernel, by decide +kernel⟩
theorem d__law_some_lots (lv : Nat) : DefC (C__law_some_lots lv) ["_law_bag_here"] (defArgs (top 34)) (defBody (top 34)) (defScope (top 34)) b__law_some_lots := ⟨sc__law_some_lots, rfl, rfl, (show ∀ i ∈ ([0] : List Nat), i < 1 by decide), by kernel_rfl⟩
abbrev M__law_some_lots : Sem := mkSem [0] [F__law_draw, F__law_lot, F__law_of] [lenD, listD, tupleD] [] [] (atOf AT)
def F__law_some_lots : FS := fun args R => ∃ (d : D), args = [.ow d] ∧ BagOk d ∧ ∀ (L : List OR) d', (∀ r ∈ L, okR r) → L.length ≤ 8 → BagOk d' → R (.ow (.lst (L.map rowO))) [.ow d']
theorem p__law_some_lots : ∀ args R, F__law_some_lots args R → runF [0] 1 5 (wSs M__law_some_lots b__law_some_lots) args R := by
  rintro args R ⟨d, rfl, hd, hR⟩
  refine ⟨rfl, ?_⟩
  unfold b__law_some_lots
  walk_at "SI"
  refine ⟨d, 8, rfl, hd, by decide, by decide, fun n d2 hn0 hn1 hd2 => ?_⟩
  walk_at "SI"
  have rl : ∀ n : Nat, (rangeD 0 n).length = n := fun n => by unfold rangeD; rw [List.length_map, List.length_range]
  refine ⟨⟨by omega, by omega⟩, by rw [rl]; exact Nat.le_trans (show n.toNat ≤ 1000 by omega) (by decide), ?_⟩
  refine lcGo_rel (fun s => ∃ d' : D, s = [.ow d', .no, .no, .no, .no] ∧ BagOk d') (fun _ y => ∃ r : OR, y = rowO r ∧ okR r ∧ r.2.length ≤ 4) _ _ _ (fun it _ s hs => ?_) ⟨d2, rfl, hd2⟩ fun rs s' hl hP hs => ?_
  · obtain ⟨d', rfl, hd'⟩ := hs
    refine ⟨_, rfl, fun K hK => ?_⟩
    walk_at "SI"
    refine ⟨d', 3, rfl, hd', by decide, by decide, fun p d3 hp0 hp1 hd3 => ?_⟩
    walk_at "SI"
    refine ⟨d3, rfl, hd3, fun l d4 hok hll hd4 => ?_⟩
    exact hK _ _ ⟨(p, l), rfl, ⟨hok, by show l.length ≤ 1000; omega⟩, hll⟩ ⟨d4, rfl, hd4⟩
  obtain ⟨d3, rfl, hd3⟩ := hs
  obtain ⟨L, rfl, hL⟩ := enc_of rowO rs (rel_mem hl hP)
  rw [List.length_map, rl] at hl
  have fin : ∀ (d' : D) (L : List OR) (a2 a3 : Sl), BagOk d' → (∀ r ∈ L, okR r) → L.length ≤ 8 → Later M__law_some_lots [S.retv 1] { nx := fun s => R (Sl.sh D.non) (outA [0] 1 s), rt := fun r s => R r (outA [0] 1 s), bk := fun x => False, ct := fun x => False } [.ow d', .ow (.lst (L.map rowO)), a2, a3, .no] := fun d' L a2 a3 hd' h1 h2 => by
    refine later ?_
    walk_at "SI"
    exact hR L d' h1 h2 hd'
  refine later ?_
  walk_at "SI"
  have lz : L.length ≤ sizeLine := Nat.le_trans (show _ ≤ 1000 by omega) (by decide)
  split
  · rename_i g
    have g := of_decide_eq_true g
    refine ⟨d3, 2, rfl, hd3, by decide, by decide, fun c d4 hc0 hc1 hd4 => ?_⟩
    walk_at "SI"
    split
    · refine ⟨by decide, d4, _, _, _, rfl, .inr rfl, hd4, rfl, by rw [List.length_map]; omega, by rw [List.length_map]; omega, fun x d5 hx hd5 => ?_⟩
      obtain ⟨y, hy, rfl⟩ := List.mem_map.mp hx
      have hyw := hL y hy
      have ey : rowO y = .tup [.int y.1, .ftup (y.2.map .str)] := rfl
      walk_at "SI"
      walk_at "ST"
      rw [ey]
      walk_at "SI"
      refine later ?_
      walk_at "SI"
      refine ⟨d5, _, rfl, hd5, by omega, by have := hyw.2; omega, fun p d6 hp0 hp1 hd6 => ?_⟩
      walk_at "SI"
      refine ⟨d6, _, _, _, rfl, .inl rfl, hd6, rfl, by show 0 < 3; decide, by show 3 ≤ 1000000; decide, fun x d7 hx hd7 => ?_⟩
      obtain ⟨z, hz, rfl⟩ : ∃ z, okS z ∧ x = .str z := by
        simp only [List.mem_cons, List.not_mem_nil, or_false] at hx
        rcases hx with rfl | rfl | rfl
        all_goals exact ⟨_, by decide, rfl⟩
      walk_at "SI"
      have b8 : ∀ n : Nat, n ≤ 1000 → n < sizeLine := fun n h => Nat.lt_of_le_of_lt h (by decide)
      have hl4 := hyw.2
      refine ⟨⟨b8 _ (by omega), hp0, by omega⟩, ?_⟩
      have e3 : List.take p.toNat (y.2.map .str) ++ [D.str z] ++ List.drop p.toNat (y.2.map .str) = (y.2.take p.toNat ++ [z] ++ y.2.drop p.toNat).map .str := by
        rw [List.map_append, List.map_append, List.map_take, List.map_drop]; rfl
      rw [e3]
      have hm : ∀ s ∈ y.2.take p.toNat ++ [z] ++ y.2.drop p.toNat, okS s := fun r hr => by
        rcases List.mem_append.mp hr with hr | hr
        · rcases List.mem_append.mp hr with hr | hr
          · exact hyw.1.1 r (List.mem_of_mem_take hr)
          · rw [List.mem_singleton.mp hr]; exact hz
        · exact hyw.1.1 r (List.mem_of_mem_drop hr)
      have hml : (y.2.take p.toNat ++ [z] ++ y.2.drop p.toNat).length ≤ 1000 := by
        simp only [List.length_append, List.length_take, List.length_drop, List.length_cons, List.length_nil]; omega
      generalize y.2.take p.toNat ++ [z] ++ y.2.drop p.toNat = m at hm hml
      walk_at "ST"
      refine ⟨d7, _, rfl, hd7, by omega, by omega, fun q d8 hq0 hq1 hd8 => ?_⟩
      walk_at "SI"
      refine ⟨d8, 2, rfl, hd8, by decide, by decide, fun e d9 he0 he1 hd9 => ?_⟩
      walk_at "SI"
      refine .inr ⟨⟨b8 _ (by omega), hq0, by omega⟩, ?_⟩
      have e4 : List.take q.toNat (L.map rowO) ++ [D.tup [D.int (y.1 + e), D.ftup (m.map .str)]] ++ List.drop q.toNat (L.map rowO) = (L.take q.toNat ++ [((y.1 + e, m) : OR)] ++ L.drop q.toNat).map rowO := by
        rw [List.map_append, List.map_append, List.map_take, List.map_drop]; rfl
      rw [e4]
      refine fin d9 _ _ _ hd9 (fun r hr => ?_) ?_
      · rcases List.mem_append.mp hr with hr | hr
        · rcases List.mem_append.mp hr with hr | hr
          · exact (hL r (List.mem_of_mem_take hr)).1
          · rw [List.mem_singleton.mp hr]; exact ⟨hm, hml⟩
        · exact (hL r (List.mem_of_mem_drop hr)).1
      · simp only [List.length_append, List.length_take, List.length_drop, List.length_cons, List.length_nil]; omega
    · exact fin d4 L _ _ hd4 (fun r hr => (hL r hr).1) (by omega)
  · exact fin d3 L _ _ hd3 (fun r hr => (hL r hr).1) (by omega)
theorem ok__law_some_lots {P : Program} {w : World} {K : PySem.W.Frag} {mg : Str → Option Value} {base : Heap} (V : VE K mg base) : ∃ fd, FunD K "_law_some_lots" "_law_some_lots" (defArgs (top 34)) (defBody (top 34)) (defScope (top 34)) [] [] (He.ga K "_law_some_lots") fd ∧ FnOk P w K mg base CX0 4 (He.ga K "_law_some_lots") fd ["_law_bag_here"] (spOf K F__law_some_lots) := by
  obtain ⟨fd, Fd⟩ := V.def_ 22 (d := dd "_law_some_lots" 34 []) rfl
  exact ⟨fd, Fd, fn_ok Fd (d__law_some_lots 3) (mkTab (.cons (cj__law_draw_2 V (by first | decide | omega)) (.cons (cj__law_lot_1 V (by first | decide | omega)) (.cons (cj__law_of_2 V (by first | decide | omega)) .nil))) (.cons rfl (.cons rfl (.cons rfl .nil))) (show ([("len", 1), ("list", 1), ("tuple", 1)] : List (Str × Nat)).all (fun c => decide (c.1 ∈ FR)) = true by decide +kernel) .nil .nil (at_ok V) V.free rfl) (fun h => by cases h) rfl p__law_some_lots⟩
theorem cj__law_some_lots_1 {P : Program} {w : World} {K : PySem.W.Frag} {mg : Str → Option Value} {base : Heap} {lv : Nat} (V : VE K mg base) (h : 4 ≤ lv) : CallJ P w K mg base lv "_law_some_lots" 1 [] F__law_some_lots := by
  obtain ⟨fd, Fd, F⟩ := ok__law_some_lots (P := P) (w := w) (base := base) V
  exact callJ F h (V.glo 18 rfl) Fd.kp (FunD.bindsN Fd (fun _ _ _ _ _ _ us hl => match us, hl with | [_], _ => rfl)) 1
end K06

namespace K06
open PySem DL
open L2 (V FnOk FunD CX0 defArgs defBody defScope SqL FnScope KBn)
local macro_rules | `(tactic| walk_at "SI") => `(tactic| simp only [wAls, wAug, wTMeth, tmD, wLcv, wSrs, wSrk, wSrl, wLc2, wTs, wCaps, wLMeth, lmD, wEnm, revD, rg1D, rg2D, wCMeth, wStf, putD, fldD, attrD, mkF, dflF, kwF, shs, pickG, pickO, consO, Option.map_some, List.take_nil, wMeth, methD, joinD, strsOf_map, wSs_cons, wSs_nil, Later_nil, wS, wE, wT, wI, wX, wVl, wOl, wAv, mk3, mkT, mkI, opd, wIf, wOr, DL.wAnd, DL.wNot, wBool, wTru, wUn, wOp, wFn, wCons, wNil, wVCons, wVNil, wAvNil, wAvVal, wAvBor, wCall2, wC, wVar, wAndV, wOrV, wNotV, wIte, wLst, wTup, wDct, wChn, wSlc, partE, varOp, asOp, entry, content, resO, resOs, frz, wRet, wRetV, wRetN, wNext, wDrop, wSet, wUnp, wPar, wSti, wBrk, wCnt, wMut, muD_append, muD_insert, muD_pop0, muD_pop1, mAppend, mInsert, mPop, mPopAt, wSeq', wFor, wWhile, wLc, wRng1, wRng2, wZip, itemsD, nth, bindTg, bindTgs, noOw, wipeS, restore, wback_val, wback_nil, wback_bor, List.nodup_nil, List.nodup_cons, List.not_mem_nil, bors, resA, pairD, keyD, le_size, List.replicate_succ, List.replicate_zero, List.length_cons, List.length_nil, List.cons_append, List.nil_append, List.getElem?_cons_zero, List.getElem?_cons_succ, List.getElem?_nil, List.set_cons_zero, List.set_cons_succ, Option.isSome_some, List.map_cons, List.map_nil, List.all_cons, List.all_nil, List.any_cons, List.any_nil, Nat.reduceSub, Nat.reduceAdd, Nat.reduceLT, Nat.reduceLeDiff, reduceIte, reduceCtorEq, Bool.not_true, Bool.not_false, Bool.false_eq_true, and_true, true_and, List.drop_zero, List.drop_succ_cons, List.take_succ_cons, List.take_zero, maxD2, minD2, lenD, intD, boolD, strD, listD, tupleD, allD, anyD, blsD, cmpB, cmpD, binD, addD, subD, mulD, fdivD, modD, powD, negD, idxD, slcD, truD, ltD, gtD, leD, geD, eqD_int, eqD_bl, eqD_str, eqD_non, L2.atI, ixN_lit, Int.reduceToNat, Option.bind_some, List.length_map, List.set_cons_zero, List.set_cons_succ, isNon, inD_ss, inStr_one, isiD, seqOf, lstOf, String.reduceNe, String.reduceEq, ne_eq, not_false_eq_true, not_true_eq_false, Bool.or_true, Bool.or_false, Bool.true_or, Bool.false_or, Bool.and_true, Bool.and_false, Bool.true_and, Bool.false_and, isT_NoneType_bool, isT_NoneType_int, isT_NoneType_str, isT_NoneType_list, isT_NoneType_tuple, isT_NoneType_dict, isT_bool_bool, isT_bool_int, isT_bool_str, isT_bool_list, isT_bool_tuple, isT_bool_dict, isT_int_bool, isT_int_int, isT_int_str, isT_int_list, isT_int_tuple, isT_int_dict, isT_str_bool, isT_str_int, isT_str_str, isT_str_list, isT_str_tuple, isT_str_dict, isT_list_bool, isT_list_int, isT_list_str, isT_list_list, isT_list_tuple, isT_list_dict, isT_tuple_bool, isT_tuple_int, isT_tuple_str, isT_tuple_list, isT_tuple_tuple, isT_tuple_dict, isT_dict_bool, isT_dict_int, isT_dict_str, isT_dict_list, isT_dict_tuple, isT_dict_dict, tyN_non, tyN_bl, tyN_int, tyN_str, tyN_lst, tyN_tup, tyN_ftup, tyN_klst, tyN_dic])
local macro_rules | `(tactic| walk_at "ST") => `(tactic| (refine later ?_; simp only [wAls, wAug, wTMeth, tmD, wLcv, wSrs, wSrk, wSrl, wLc2, wTs, wCaps, wLMeth, lmD, wEnm, revD, rg1D, rg2D, wCMeth, wStf, putD, fldD, attrD, mkF, dflF, kwF, shs, pickG, pickO, consO, Option.map_some, List.take_nil, wMeth, methD, joinD, strsOf_map, wSs_cons, wSs_nil, Later_nil, wS, wE, wT, wI, wX, wVl, wOl, wAv, mk3, mkT, mkI, opd, wIf, wOr, DL.wAnd, DL.wNot, wBool, wTru, wUn, wOp, wFn, wCons, wNil, wVCons, wVNil, wAvNil, wAvVal, wAvBor, wCall2, wC, wVar, wAndV, wOrV, wNotV, wIte, wLst, wTup, wDct, wChn, wSlc, partE, varOp, asOp, entry, content, resO, resOs, frz, wRet, wRetV, wRetN, wNext, wDrop, wSet, wUnp, wPar, wSti, wBrk, wCnt, wMut, muD_append, muD_insert, muD_pop0, muD_pop1, mAppend, mInsert, mPop, mPopAt, wSeq', wFor, wWhile, wLc, wRng1, wRng2, wZip, itemsD, nth, bindTg, bindTgs, noOw, wipeS, restore, wback_val, wback_nil, wback_bor, List.nodup_nil, List.nodup_cons, List.not_mem_nil, bors, resA, pairD, keyD, le_size, List.replicate_succ, List.replicate_zero, List.length_cons, List.length_nil, List.cons_append, List.nil_append, List.getElem?_cons_zero, List.getElem?_cons_succ, List.getElem?_nil, List.set_cons_zero, List.set_cons_succ, Option.isSome_some, List.map_cons, List.map_nil, List.all_cons, List.all_nil, List.any_cons, List.any_nil, Nat.reduceSub, Nat.reduceAdd, Nat.reduceLT, Nat.reduceLeDiff, reduceIte, reduceCtorEq, Bool.not_true, Bool.not_false, Bool.false_eq_true, and_true, true_and, List.drop_zero, List.drop_succ_cons, List.take_succ_cons, List.take_zero, maxD2, minD2, lenD, intD, boolD, strD, listD, tupleD, allD, anyD, blsD, cmpB, cmpD, binD, addD, subD, mulD, fdivD, modD, powD, negD, idxD, slcD, truD, ltD, gtD, leD, geD, eqD_int, eqD_bl, eqD_str, eqD_non, L2.atI, ixN_lit, Int.reduceToNat, Option.bind_some, List.length_map, List.set_cons_zero, List.set_cons_succ, isNon, inD_ss, inStr_one, isiD, seqOf, lstOf, String.reduceNe, String.reduceEq, ne_eq, not_false_eq_true, not_true_eq_false, Bool.or_true, Bool.or_false, Bool.true_or, Bool.false_or, Bool.and_true, Bool.and_false, Bool.true_and, Bool.false_and, isT_NoneType_bool, isT_NoneType_int, isT_NoneType_str, isT_NoneType_list, isT_NoneType_tuple, isT_NoneType_dict, isT_bool_bool, isT_bool_int, isT_bool_str, isT_bool_list, isT_bool_tuple, isT_bool_dict, isT_int_bool, isT_int_int, isT_int_str, isT_int_list, isT_int_tuple, isT_int_dict, isT_str_bool, isT_str_int, isT_str_str, isT_str_list, isT_str_tuple, isT_str_dict, isT_list_bool, isT_list_int, isT_list_str, isT_list_list, isT_list_tuple, isT_list_dict, isT_tuple_bool, isT_tuple_int, isT_tuple_str, isT_tuple_list, isT_tuple_tuple, isT_tuple_dict, isT_dict_bool, isT_dict_int, isT_dict_str, isT_dict_list, isT_dict_tuple, isT_dict_dict, tyN_non, tyN_bl, tyN_int, tyN_str, tyN_lst, tyN_tup, tyN_ftup, tyN_klst, tyN_dic]))
theorem perm_map_inv {α : Type} {f : α → D} {ys zs : List D} (p : ys.Perm zs) : ∀ L : List α, zs = L.map f → ∃ M : List α, ys = M.map f ∧ M.Perm L := by
  induction p with
  | nil => exact fun L e => ⟨[], rfl, by rw [List.map_eq_nil_iff.mp e.symm]⟩
  | cons x p ih =>
    intro L e
    cases L with
    | nil => cases e
    | cons a L =>
      injection e with e1 e2
      obtain ⟨M, rfl, q⟩ := ih L e2
      exact ⟨a :: M, by rw [e1]; rfl, q.cons a⟩
  | swap x y l =>
    intro L e
    match L, e with
    | a :: b :: L, e =>
      injection e with e1 e2
      injection e2 with e2 e3
      exact ⟨b :: a :: L, by rw [e1, e2, e3]; rfl, .swap _ _ _⟩
  | trans p q ih1 ih2 =>
    intro L e
    obtain ⟨M, e2, m⟩ := ih2 L e
    obtain ⟨N, e3, n⟩ := ih1 M e2
    exact ⟨N, e3, n.trans m⟩
theorem ThinR.perm {L M : List IR} {r : D} (h : ThinR M r) (p : M.Perm L) : ThinR L r := by
  rcases h with ⟨rfl, rfl⟩ | ⟨T, h1, rfl, h2, h3, h4⟩
  · exact .inl ⟨List.nil_perm.mp p, rfl⟩
  · exact .inr ⟨T, h1, rfl, h2.perm (fun x => p.mem_iff) (fun x => Iff.rfl), h3, by rw [← p.length_eq]; exact h4⟩
theorem OpenR.perm {L M : List OR} {r : D} (h : OpenR M r) (p : M.Perm L) : OpenR L r := by
  rcases h with ⟨rfl, rfl⟩ | ⟨T, h1, rfl, h2, h3, h4⟩
  · exact .inl ⟨List.nil_perm.mp p, rfl⟩
  · exact .inr ⟨T, h1, rfl, h2.perm (fun x => (p.map nO).mem_iff) (fun x => Iff.rfl), h3, by rw [← p.length_eq]; exact h4⟩
theorem thin_ne {α : Type} {c : α → α → Prop} {L T : List α} (h : Thin c L T) (hL : L ≠ []) : T ≠ [] := by
  rintro rfl
  obtain ⟨x, hx⟩ := List.exists_mem_of_ne_nil L hL
  obtain ⟨y, hy, _⟩ := h.cov x hx
  cases hy
theorem ThinR.same {L : List IR} {w : Nat} {r s : D} (hw : ∀ x ∈ L, x.2.length = w) (h : ThinR L r) (g : ThinR L s) : r = s := by
  rcases h with ⟨rfl, rfl⟩ | ⟨T, h1, rfl, h2, h3, h4⟩
  · rcases g with ⟨_, rfl⟩ | ⟨U, g1, rfl, g2, g3, g4⟩
    · rfl
    · exact absurd (List.eq_nil_of_length_eq_zero (Nat.le_zero.mp g4)) g1
  · rcases g with ⟨rfl, rfl⟩ | ⟨U, g1, rfl, g2, g3, g4⟩
    · exact absurd (List.eq_nil_of_length_eq_zero (Nat.le_zero.mp h4)) h1
    · rw [Thin.same (c := fun x y => cI x y = true) CI.asym (fun x hx y hy z hz => cI_trans (by rw [hw x hx, hw y hy]) (by rw [hw y hy, hw z hz])) (fun x hx y hy => cI_anti (by rw [hw x hx, hw y hy])) h2 g2 h3 g3]
theorem OpenR.same {L : List OR} {r s : D} (h : OpenR L r) (g : OpenR L s) : r = s := by
  rcases h with ⟨rfl, rfl⟩ | ⟨T, h1, rfl, h2, h3, h4⟩
  · rcases g with ⟨_, rfl⟩ | ⟨U, g1, rfl, g2, g3, g4⟩
    · rfl
    · exact absurd (List.eq_nil_of_length_eq_zero (Nat.le_zero.mp g4)) g1
  · rcases g with ⟨rfl, rfl⟩ | ⟨U, g1, rfl, g2, g3, g4⟩
    · exact absurd (List.eq_nil_of_length_eq_zero (Nat.le_zero.mp h4)) h1
    · have hs : ∀ x ∈ L.map nO, Srtd x := fun x hx => by
        obtain ⟨y, _, rfl⟩ := List.mem_map.mp hx
        exact nO_srtd y
      rw [h2.same CO.asym (fun x _ y _ z _ => cO_trans x y z) (fun x hx y hy => cO_anti (hs x hx) (hs y hy)) g2 h3 g3]
theorem like_ints : ∀ l : List Int, (l.map D.int).all flatD = true
  | [] => rfl
  | a :: l => like_ints l
theorem like_strs : ∀ l : List Str, (l.map D.str).all flatD = true
  | [] => rfl
  | a :: l => like_strs l
theorem like_CI (x : IR) (h : x.2.length ≤ 1000) : likeOk 1 (CI.enc x) :=
  .inr (.inr ⟨_, .inl rfl, by show (List.map D.int (x.1 :: x.2)).length ≤ _; simp only [List.length_map, List.length_cons]; omega, fun y hy => List.all_eq_true.mp (like_ints (x.1 :: x.2)) y hy⟩)
theorem like_CO (x : OR) (h : x.2.length ≤ 1000) : likeOk 2 (rowO x) := by
  refine .inr (.inr ⟨_, .inl rfl, by show 2 ≤ 1000000; decide, fun y hy => ?_⟩)
  rcases List.mem_cons.mp hy with rfl | hy
  · exact .inl rfl
  · rw [List.mem_singleton.mp hy]
    exact .inr (.inr ⟨_, .inr rfl, by rw [List.length_map]; omega, fun y hy => List.all_eq_true.mp (like_strs x.2) y hy⟩)
theorem like_mono : ∀ {n : Nat} {d : D}, likeOk n d → likeOk (n + 1) d
  | 0, d, h => .inl h
  | n + 1, d, .inl h => .inl h
  | n + 1, d, .inr (.inl ⟨xs, e, l, h⟩) => .inr (.inl ⟨xs, e, l, fun x m => like_mono (h x m)⟩)
  | n + 1, d, .inr (.inr ⟨xs, e, l, h⟩) => .inr (.inr ⟨xs, e, l, fun x m => like_mono (h x m)⟩)
theorem like_rows {L : List IR} (hw : ∀ r ∈ L, r.2.length ≤ 1000) (hl : L.length ≤ 1000) : likeOk 3 (.lst (L.map CI.enc)) ∧ likeOk 3 (.tup (L.map CI.enc)) := by
  have h : ∀ x ∈ L.map CI.enc, likeOk 2 x := fun x hx => by
    obtain ⟨r, hr, rfl⟩ := List.mem_map.mp hx
    exact like_mono (like_CI r (hw r hr))
  exact ⟨.inr (.inl ⟨_, rfl, by rw [List.length_map]; omega, h⟩), .inr (.inr ⟨_, .inl rfl, by rw [List.length_map]; omega, h⟩)⟩
theorem like_lots {L : List OR} (hw : ∀ r ∈ L, r.2.length ≤ 1000) (hl : L.length ≤ 1000) : likeOk 3 (.lst (L.map rowO)) ∧ likeOk 3 (.tup (L.map rowO)) := by
  have h : ∀ x ∈ L.map rowO, likeOk 2 x := fun x hx => by
    obtain ⟨r, hr, rfl⟩ := List.mem_map.mp hx
    exact like_CO r (hw r hr)
  exact ⟨.inr (.inl ⟨_, rfl, by rw [List.length_map]; omega, h⟩), .inr (.inr ⟨_, .inl rfl, by rw [List.length_map]; omega, h⟩)⟩
theorem ThinR.like {L : List IR} {r : D} (hw : ∀ r ∈ L, r.2.length ≤ 1000) (hl : L.length ≤ 1000) (h : ThinR L r) : likeOk 3 r := by
  rcases h with ⟨_, rfl⟩ | ⟨T, h1, rfl, h2, h3, h4⟩
  · exact .inl rfl
  · exact (like_rows (fun r hr => hw r (h2.sub r hr)) (by omega)).2
theorem OpenR.like {L : List OR} {r : D} (hw : ∀ r ∈ L, okR r) (hl : L.length ≤ 1000) (h : OpenR L r) : likeOk 3 r := by
  rcases h with ⟨_, rfl⟩ | ⟨T, h1, rfl, h2, h3, h4⟩
  · exact .inl rfl
  · refine (like_lots (fun r hr => ?_) (by omega)).2
    obtain ⟨x, hx, e⟩ := List.mem_map.mp (h2.sub r hr)
    rw [← e]
    exact (okR_nO (hw x hx)).2
theorem like3 {d : D} (h : likeOk 3 d) : likeOk 4 (.lst [d, d, d]) := by
  refine .inr (.inl ⟨_, rfl, by show 3 ≤ 1000000; decide, fun x hx => ?_⟩)
  simp only [List.mem_cons, List.not_mem_nil, or_false] at hx
  rcases hx with rfl | rfl | rfl <;> exact h
def C__law_thin_so (lv : Nat) : CC := { N := ["_law_bag_here", "_law_deed", "_law_things", "_law_due", "_law_held", "_law_told"], sc := defScope (top 35), lv := lv, kp := [0], brw := [0], ali := [], calls := [("thin_rows", 1, []), ("thin_rows", 0, ["rows"]), ("_law_turned", 2, []), ("thin_open", 1, []), ("thin_open", 0, ["rows"]), ("_law_like", 2, [])], bis := [("list", 1), ("tuple", 1)], cons := [], meths := [], keys := [], lam := false, fr := FR }
def b__law_thin_so : List S := [(.set 4 (.bi 0 [(.var 2)])), (.ifs (.cmp .Eq (.var 1) (.str "rows")) [(.set 5 (.lst [(.call 0 [(.var 2)] []), (.call 0 [(.bi 1 [(.var 2)])] []), (.call 1 [] [(.call 2 [(.bor 0), (.var 2)] [])])]))] [(.set 5 (.lst [(.call 3 [(.var 2)] []), (.call 3 [(.bi 1 [(.var 2)])] []), (.call 4 [] [(.call 2 [(.bor 0), (.var 2)] [])])]))]), (.ret (.and (.call 5 [(.var 5), (.lst [(.var 3), (.var 3), (.var 3)])] []) (.call 5 [(.var 2), (.var 4)] [])))]
theorem sc__law_thin_so : FnScope ["_law_bag_here", "_law_deed", "_law_things", "_law_due", "_law_held", "_law_told"] ["_law_bag_here", "_law_deed", "_law_things", "_law_due"] (defScope (top 35)) := ⟨rfl, rfl, rfl, by decide +kernel, rfl, by decide +kernel, by decide +kernel⟩
theorem d__law_thin_so (lv : Nat) : DefC (C__law_thin_so lv) ["_law_bag_here", "_law_deed", "_law_things", "_law_due"] (defArgs (top 35)) (defBody (top 35)) (defScope (top 35)) b__law_thin_so := ⟨sc__law_thin_so, rfl, rfl, (show ∀ i ∈ ([0] : List Nat), i < 4 by decide), by kernel_rfl⟩
abbrev M__law_thin_so : Sem := mkSem [0] [F_thin_rows, (kwF 0 1 (fun as bs => pickG [(1, 0)] [] as bs) F_thin_rows), F__law_turned, F_thin_open, (kwF 0 1 (fun as bs => pickG [(1, 0)] [] as bs) F_thin_open), (F__law_like 5)] [listD, tupleD] [] [] (atOf AT)
def F__law_thin_so : FS := fun args R => ∃ (d due : D), BagOk d ∧ (
  (∃ (L : List IR) (w : Nat), args = [.ow d, .sh (.str (Str.ofString "rows")), .sh (.lst (L.map CI.enc)), .sh due] ∧ (∀ r ∈ L, r.2.length = w) ∧ w ≤ 10 ∧ L.length ≤ 100 ∧ ThinR L due) ∨
  (∃ (L : List OR), args = [.ow d, .sh (.str (Str.ofString "open")), .sh (.lst (L.map rowO)), .sh due] ∧ (∀ r ∈ L, okR r) ∧ L.length ≤ 100 ∧ OpenR L due)) ∧
  ∀ d', BagOk d' → R (.sh (.bl true)) [.ow d', .no, .no, .no]
theorem p__law_thin_so : ∀ args R, F__law_thin_so args R → runF [0] 4 6 (wSs M__law_thin_so b__law_thin_so) args R := by
  rintro args R ⟨d, due, hd, ⟨L, w, rfl, hw, hw2, hl, hdue⟩ | ⟨L, rfl, hok, hl, hdue⟩, hR⟩
  · refine ⟨rfl, ?_⟩
    unfold b__law_thin_so
    walk_at "SI"
    have lz : L.length ≤ sizeLine := Nat.le_trans (show _ ≤ 1000 by omega) (by decide)
    have lk : ∀ n : Nat, n ≤ 100 → n ≤ 1000 := fun n h => by omega
    have lw : ∀ r ∈ L, r.2.length ≤ 1000 := fun r hr => by rw [hw r hr]; omega
    have ldue := hdue.like lw (lk _ hl)
    walk_at "ST"
    refine ⟨_, L, w, rfl, rfl, hw, hw2, lk _ hl, fun r1 h1 o1 => ?_⟩
    cases h1.same hw hdue
    walk_at "SI"
    refine .inl ?_
    refine ⟨_, L, w, rfl, rfl, hw, hw2, lk _ hl, fun r2 h2 o2 => ?_⟩
    cases h2.same hw hdue
    walk_at "SI"
    refine ⟨d, _, _, _, rfl, .inl rfl, hd, rfl, by rw [List.length_map]; omega, fun ys d1 hp hd1 => ?_⟩
    obtain ⟨M, rfl, pM⟩ := perm_map_inv hp L rfl
    walk_at "SI"
    refine ⟨_, M, w, rfl, rfl, fun r hr => hw r (pM.mem_iff.mp hr), hw2, by rw [pM.length_eq]; omega, fun r3 h3 o3 o4 => ?_⟩
    cases (h3.perm pM).same hw hdue
    walk_at "ST"
    refine ⟨_, rfl, like3 ldue, fun o5 => ?_⟩
    walk_at "SI"
    refine ⟨_, rfl, like_mono (like_rows lw (lk _ hl)).1, fun o6 => ?_⟩
    exact hR d1 hd1
  · refine ⟨rfl, ?_⟩
    unfold b__law_thin_so
    walk_at "SI"
    have lz : L.length ≤ sizeLine := Nat.le_trans (show _ ≤ 1000 by omega) (by decide)
    have lk : ∀ n : Nat, n ≤ 100 → n ≤ 1000 := fun n h => by omega
    have lw : ∀ r ∈ L, r.2.length ≤ 1000 := fun r hr => (hok r hr).2
    have ldue := hdue.like hok (lk _ hl)
    walk_at "ST"
    refine ⟨_, L, rfl, rfl, hok, lk _ hl, fun r1 h1 o1 => ?_⟩
    cases h1.same hdue
    walk_at "SI"
    refine .inl ?_
    refine ⟨_, L, rfl, rfl, hok, lk _ hl, fun r2 h2 o2 => ?_⟩
    cases h2.same hdue
    walk_at "SI"
    refine ⟨d, _, _, _, rfl, .inl rfl, hd, rfl, by rw [List.length_map]; omega, fun ys d1 hp hd1 => ?_⟩
    obtain ⟨M, rfl, pM⟩ := perm_map_inv hp L rfl
    walk_at "SI"
    refine ⟨_, M, rfl, rfl, fun r hr => hok r (pM.mem_iff.mp hr), by rw [pM.length_eq]; omega, fun r3 h3 o3 o4 => ?_⟩
    cases (h3.perm pM).same hdue
    walk_at "ST"
    refine ⟨_, rfl, like3 ldue, fun o5 => ?_⟩
    walk_at "SI"
    refine ⟨_, rfl, like_mono (like_lots lw (lk _ hl)).1, fun o6 => ?_⟩
    exact hR d1 hd1
theorem ok__law_thin_so {P : Program} {w : World} {K : PySem.W.Frag} {mg : Str → Option Value} {base : Heap} (V : VE K mg base) : ∃ fd, FunD K "_law_thin_so" "_law_thin_so" (defArgs (top 35)) (defBody (top 35)) (defScope (top 35)) [] [] (He.ga K "_law_thin_so") fd ∧ FnOk P w K mg base CX0 6 (He.ga K "_law_thin_so") fd ["_law_bag_here", "_law_deed", "_law_things", "_law_due"] (spOf K F__law_thin_so) := by
  obtain ⟨fd, Fd⟩ := V.def_ 23 (d := dd "_law_thin_so" 35 []) rfl
  exact ⟨fd, Fd, fn_ok Fd (d__law_thin_so 5) (mkTab (.cons (cj_thin_rows_1 V (by first | decide | omega)) (.cons (cj_thin_rows_0_rows V (by first | decide | omega)) (.cons (cj__law_turned_2 V (by first | decide | omega)) (.cons (cj_thin_open_1 V (by first | decide | omega)) (.cons (cj_thin_open_0_rows V (by first | decide | omega)) (.cons (cj__law_like_2 V (by first | decide | omega)) .nil)))))) (.cons rfl (.cons rfl .nil)) (show ([("list", 1), ("tuple", 1)] : List (Str × Nat)).all (fun c => decide (c.1 ∈ FR)) = true by decide +kernel) .nil .nil (at_ok V) V.free rfl) (fun h => by cases h) rfl p__law_thin_so⟩
theorem cj__law_thin_so_4 {P : Program} {w : World} {K : PySem.W.Frag} {mg : Str → Option Value} {base : Heap} {lv : Nat} (V : VE K mg base) (h : 6 ≤ lv) : CallJ P w K mg base lv "_law_thin_so" 4 [] F__law_thin_so := by
  obtain ⟨fd, Fd, F⟩ := ok__law_thin_so (P := P) (w := w) (base := base) V
  exact callJ F h (V.glo 19 rfl) Fd.kp (FunD.bindsN Fd (fun _ _ _ _ _ _ us hl => match us, hl with | [_, _, _, _], _ => rfl)) 4
def C__law_covers_so (lv : Nat) : CC := { N := ["_law_x", "_law_y", "_law_due"], sc := defScope (top 36), lv := lv, kp := [], brw := [], ali := [], calls := [("_law_over", 2, []), ("_law_like", 2, []), ("covers", 2, []), ("covers", 0, ["other", "one"])], bis := [], cons := [], meths := [], keys := [], lam := false, fr := FR }
def b__law_covers_so : List S := [(.set 2 (.call 0 [(.var 0), (.var 1)] [])), (.ret (.call 1 [(.lst [(.call 2 [(.var 0), (.var 1)] []), (.call 3 [] [(.var 1), (.var 0)])]), (.lst [(.var 2), (.var 2)])] []))]
theorem sc__law_covers_so : FnScope ["_law_x", "_law_y", "_law_due"] ["_law_x", "_law_y"] (defScope (top 36)) := ⟨rfl, rfl, rfl, by decide +kernel, rfl, by decide +kernel, by decide +kernel⟩
theorem d__law_covers_so (lv : Nat) : DefC (C__law_covers_so lv) ["_law_x", "_law_y"] (defArgs (top 36)) (defBody (top 36)) (defScope (top 36)) b__law_covers_so := ⟨sc__law_covers_so, rfl, rfl, (show ∀ i ∈ ([] : List Nat), i < 2 by decide), by kernel_rfl⟩
abbrev M__law_covers_so : Sem := mkSem [] [F__law_over, (F__law_like 5), F_covers, (kwF 0 2 (fun as bs => pickG [(1, 1), (1, 0)] [] as bs) F_covers)] [] [] [] (atOf AT)
def F__law_covers_so : FS := fun args R => ∃ x y : OR, args = [.sh (rowO x), .sh (rowO y)] ∧ okR x ∧ okR y ∧ Srtd x ∧ Srtd y ∧ ∀ o, R (.sh (.bl true)) o
theorem p__law_covers_so : ∀ args R, F__law_covers_so args R → runF [] 2 3 (wSs M__law_covers_so b__law_covers_so) args R := by
  rintro args R ⟨x, y, rfl, hx, hy, sx, sy, hR⟩
  refine ⟨rfl, ?_⟩
  unfold b__law_covers_so
  walk_at "SI"
  refine ⟨x, y, rfl, hx.2, fun o => ?_⟩
  walk_at "ST"
  refine ⟨x, y, rfl, hx, hy, fun o => ?_⟩
  walk_at "SI"
  refine ⟨x, y, rfl, hx, hy, fun o o2 => ?_⟩
  refine ⟨_, rfl, like_mono (like_mono (like_mono (like_flat rfl (by show 2 ≤ 1000000; decide)))), fun o => ?_⟩
  exact hR _
theorem ok__law_covers_so {P : Program} {w : World} {K : PySem.W.Frag} {mg : Str → Option Value} {base : Heap} (V : VE K mg base) : ∃ fd, FunD K "_law_covers_so" "_law_covers_so" (defArgs (top 36)) (defBody (top 36)) (defScope (top 36)) [] [] (He.ga K "_law_covers_so") fd ∧ FnOk P w K mg base CX0 6 (He.ga K "_law_covers_so") fd ["_law_x", "_law_y"] (spOf K F__law_covers_so) := by
  obtain ⟨fd, Fd⟩ := V.def_ 24 (d := dd "_law_covers_so" 36 []) rfl
  exact ⟨fd, Fd, fn_ok Fd (d__law_covers_so 5) (mkTab (.cons (cj__law_over_2 V (by first | decide | omega)) (.cons (cj__law_like_2 V (by first | decide | omega)) (.cons (cj_covers_2 V (by first | decide | omega)) (.cons (cj_covers_0_other_one V (by first | decide | omega)) .nil)))) .nil (show ([] : List (Str × Nat)).all (fun c => decide (c.1 ∈ FR)) = true by decide +kernel) .nil .nil (at_ok V) V.free rfl) (fun h => by cases h) rfl p__law_covers_so⟩
theorem cj__law_covers_so_2 {P : Program} {w : World} {K : PySem.W.Frag} {mg : Str → Option Value} {base : Heap} {lv : Nat} (V : VE K mg base) (h : 6 ≤ lv) : CallJ P w K mg base lv "_law_covers_so" 2 [] F__law_covers_so := by
  obtain ⟨fd, Fd, F⟩ := ok__law_covers_so (P := P) (w := w) (base := base) V
  exact callJ F h (V.glo 20 rfl) Fd.kp (FunD.bindsN Fd (fun _ _ _ _ _ _ us hl => match us, hl with | [_, _], _ => rfl)) 2
end K06

namespace K06
open PySem DL
open L2 (V FnOk FunD CX0 defArgs defBody defScope SqL FnScope KBn)
local macro_rules | `(tactic| walk_at "SI") => `(tactic| simp only [wAls, wAug, wTMeth, tmD, wLcv, wSrs, wSrk, wSrl, wLc2, wTs, wCaps, wLMeth, lmD, wEnm, revD, rg1D, rg2D, wCMeth, wStf, putD, fldD, attrD, mkF, dflF, kwF, shs, pickG, pickO, consO, Option.map_some, List.take_nil, wMeth, methD, joinD, strsOf_map, wSs_cons, wSs_nil, Later_nil, wS, wE, wT, wI, wX, wVl, wOl, wAv, mk3, mkT, mkI, opd, wIf, wOr, DL.wAnd, DL.wNot, wBool, wTru, wUn, wOp, wFn, wCons, wNil, wVCons, wVNil, wAvNil, wAvVal, wAvBor, wCall2, wC, wVar, wAndV, wOrV, wNotV, wIte, wLst, wTup, wDct, wChn, wSlc, partE, varOp, asOp, entry, content, resO, resOs, frz, wRet, wRetV, wRetN, wNext, wDrop, wSet, wUnp, wPar, wSti, wBrk, wCnt, wMut, muD_append, muD_insert, muD_pop0, muD_pop1, mAppend, mInsert, mPop, mPopAt, wSeq', wFor, wWhile, wLc, wRng1, wRng2, wZip, itemsD, nth, bindTg, bindTgs, noOw, wipeS, restore, wback_val, wback_nil, wback_bor, List.nodup_nil, List.nodup_cons, List.not_mem_nil, bors, resA, pairD, keyD, le_size, List.replicate_succ, List.replicate_zero, List.length_cons, List.length_nil, List.cons_append, List.nil_append, List.getElem?_cons_zero, List.getElem?_cons_succ, List.getElem?_nil, List.set_cons_zero, List.set_cons_succ, Option.isSome_some, List.map_cons, List.map_nil, List.all_cons, List.all_nil, List.any_cons, List.any_nil, Nat.reduceSub, Nat.reduceAdd, Nat.reduceLT, Nat.reduceLeDiff, reduceIte, reduceCtorEq, Bool.not_true, Bool.not_false, Bool.false_eq_true, and_true, true_and, List.drop_zero, List.drop_succ_cons, List.take_succ_cons, List.take_zero, maxD2, minD2, lenD, intD, boolD, strD, listD, tupleD, allD, anyD, blsD, cmpB, cmpD, binD, addD, subD, mulD, fdivD, modD, powD, negD, idxD, slcD, truD, ltD, gtD, leD, geD, eqD_int, eqD_bl, eqD_str, eqD_non, L2.atI, ixN_lit, Int.reduceToNat, Option.bind_some, List.length_map, List.set_cons_zero, List.set_cons_succ, isNon, inD_ss, inStr_one, isiD, seqOf, lstOf, String.reduceNe, String.reduceEq, ne_eq, not_false_eq_true, not_true_eq_false, Bool.or_true, Bool.or_false, Bool.true_or, Bool.false_or, Bool.and_true, Bool.and_false, Bool.true_and, Bool.false_and, isT_NoneType_bool, isT_NoneType_int, isT_NoneType_str, isT_NoneType_list, isT_NoneType_tuple, isT_NoneType_dict, isT_bool_bool, isT_bool_int, isT_bool_str, isT_bool_list, isT_bool_tuple, isT_bool_dict, isT_int_bool, isT_int_int, isT_int_str, isT_int_list, isT_int_tuple, isT_int_dict, isT_str_bool, isT_str_int, isT_str_str, isT_str_list, isT_str_tuple, isT_str_dict, isT_list_bool, isT_list_int, isT_list_str, isT_list_list, isT_list_tuple, isT_list_dict, isT_tuple_bool, isT_tuple_int, isT_tuple_str, isT_tuple_list, isT_tuple_tuple, isT_tuple_dict, isT_dict_bool, isT_dict_int, isT_dict_str, isT_dict_list, isT_dict_tuple, isT_dict_dict, tyN_non, tyN_bl, tyN_int, tyN_str, tyN_lst, tyN_tup, tyN_ftup, tyN_klst, tyN_dic])
local macro_rules | `(tactic| walk_at "ST") => `(tactic| (refine later ?_; simp only [wAls, wAug, wTMeth, tmD, wLcv, wSrs, wSrk, wSrl, wLc2, wTs, wCaps, wLMeth, lmD, wEnm, revD, rg1D, rg2D, wCMeth, wStf, putD, fldD, attrD, mkF, dflF, kwF, shs, pickG, pickO, consO, Option.map_some, List.take_nil, wMeth, methD, joinD, strsOf_map, wSs_cons, wSs_nil, Later_nil, wS, wE, wT, wI, wX, wVl, wOl, wAv, mk3, mkT, mkI, opd, wIf, wOr, DL.wAnd, DL.wNot, wBool, wTru, wUn, wOp, wFn, wCons, wNil, wVCons, wVNil, wAvNil, wAvVal, wAvBor, wCall2, wC, wVar, wAndV, wOrV, wNotV, wIte, wLst, wTup, wDct, wChn, wSlc, partE, varOp, asOp, entry, content, resO, resOs, frz, wRet, wRetV, wRetN, wNext, wDrop, wSet, wUnp, wPar, wSti, wBrk, wCnt, wMut, muD_append, muD_insert, muD_pop0, muD_pop1, mAppend, mInsert, mPop, mPopAt, wSeq', wFor, wWhile, wLc, wRng1, wRng2, wZip, itemsD, nth, bindTg, bindTgs, noOw, wipeS, restore, wback_val, wback_nil, wback_bor, List.nodup_nil, List.nodup_cons, List.not_mem_nil, bors, resA, pairD, keyD, le_size, List.replicate_succ, List.replicate_zero, List.length_cons, List.length_nil, List.cons_append, List.nil_append, List.getElem?_cons_zero, List.getElem?_cons_succ, List.getElem?_nil, List.set_cons_zero, List.set_cons_succ, Option.isSome_some, List.map_cons, List.map_nil, List.all_cons, List.all_nil, List.any_cons, List.any_nil, Nat.reduceSub, Nat.reduceAdd, Nat.reduceLT, Nat.reduceLeDiff, reduceIte, reduceCtorEq, Bool.not_true, Bool.not_false, Bool.false_eq_true, and_true, true_and, List.drop_zero, List.drop_succ_cons, List.take_succ_cons, List.take_zero, maxD2, minD2, lenD, intD, boolD, strD, listD, tupleD, allD, anyD, blsD, cmpB, cmpD, binD, addD, subD, mulD, fdivD, modD, powD, negD, idxD, slcD, truD, ltD, gtD, leD, geD, eqD_int, eqD_bl, eqD_str, eqD_non, L2.atI, ixN_lit, Int.reduceToNat, Option.bind_some, List.length_map, List.set_cons_zero, List.set_cons_succ, isNon, inD_ss, inStr_one, isiD, seqOf, lstOf, String.reduceNe, String.reduceEq, ne_eq, not_false_eq_true, not_true_eq_false, Bool.or_true, Bool.or_false, Bool.true_or, Bool.false_or, Bool.and_true, Bool.and_false, Bool.true_and, Bool.false_and, isT_NoneType_bool, isT_NoneType_int, isT_NoneType_str, isT_NoneType_list, isT_NoneType_tuple, isT_NoneType_dict, isT_bool_bool, isT_bool_int, isT_bool_str, isT_bool_list, isT_bool_tuple, isT_bool_dict, isT_int_bool, isT_int_int, isT_int_str, isT_int_list, isT_int_tuple, isT_int_dict, isT_str_bool, isT_str_int, isT_str_str, isT_str_list, isT_str_tuple, isT_str_dict, isT_list_bool, isT_list_int, isT_list_str, isT_list_list, isT_list_tuple, isT_list_dict, isT_tuple_bool, isT_tuple_int, isT_tuple_str, isT_tuple_list, isT_tuple_tuple, isT_tuple_dict, isT_dict_bool, isT_dict_int, isT_dict_str, isT_dict_list, isT_dict_tuple, isT_dict_dict, tyN_non, tyN_bl, tyN_int, tyN_str, tyN_lst, tyN_tup, tyN_ftup, tyN_klst, tyN_dic]))
theorem cod_lays {α : Type} (C : Cod α) : ∀ {L : List α}, (∀ x ∈ L, SeqAt.shaped (C.dat x) = true) → PyData.canLayAll0 (L.map C.dat) = true ∧ PyData.depthAll (L.map C.dat) ≤ 8
  | [], _ => ⟨rfl, Nat.zero_le _⟩
  | a :: L, h => by
    obtain ⟨h1, h2⟩ := cod_lays C (L := L) fun x m => h x (.tail _ m)
    have ha := h a (.head _)
    have ha : ((C.dat a).canLay0 && decide ((C.dat a).depth ≤ 64)) = true := ha
    have hd : (C.dat a).depth ≤ 8 := by
      show (C.nk a).data.depth ≤ 8
      rw [nk_depth]; exact C.dep a
    refine ⟨?_, ?_⟩
    · show ((C.dat a).canLay0 && PyData.canLayAll0 (L.map C.dat)) = true
      rw [h1, (Bool.and_eq_true_iff.mp ha).1]; rfl
    · show max (C.dat a).depth (PyData.depthAll (L.map C.dat)) ≤ 8
      omega
theorem eqD_nilC {α : Type} (C : Cod α) {L : List α} {Q : Bool → Prop} (hs : ∀ x ∈ L, SeqAt.shaped (C.dat x) = true) (h : Q (decide (L = []))) : eqD (.lst (L.map C.enc)) (.lst []) Q := by
  obtain ⟨h1, h2⟩ := cod_lays C hs
  have e : toP (.lst (L.map C.enc)) = some (.list (L.map C.dat)) := by
    show (toPs (L.map C.enc)).map PyData.list = _
    rw [toPs_map C.enc C.dat C.encP L]; rfl
  show eqDD (.lst (L.map C.enc)) (.lst []) Q
  unfold eqDD
  rw [e]
  refine ⟨⟨?_, rfl⟩, ?_⟩
  · show (PyData.canLayAll0 (L.map C.dat) && decide (PyData.depthAll (L.map C.dat) + 1 ≤ 64)) = true
    rw [h1, decide_eq_true (show PyData.depthAll (L.map C.dat) + 1 ≤ 64 by omega)]; rfl
  · cases L with
    | nil => exact h
    | cons x E => exact h
def C_law (lv : Nat) : CC := { N := ["_law_script", "_law_bag_here", "_law_turn", "_law_wide", "_law_some", "_law_more", "_law_things", "_law_told", "_law_k", "_law_x", "_law_y"], sc := defScope (top 37), lv := lv, kp := [], brw := [1], ali := [], calls := [("_law_bag", 1, []), ("_law_thin_so", 4, []), ("_law_of", 2, []), ("_law_some_rows", 2, []), ("_law_thin", 1, []), ("Trade", 2, []), ("_law_like", 2, []), ("thin_rows", 1, []), ("_law_some_lots", 1, []), ("_law_open", 1, []), ("Open", 1, []), ("thin_open", 1, []), ("_law_draw", 2, []), ("_law_lot", 1, []), ("_law_covers_so", 2, [])], bis := [("tuple", 1), ("sorted", 1)], cons := [], meths := [("best", 2, [])], keys := [], lam := false, fr := FR }
def b_law : List S := [(.set 1 (.call 0 [(.var 0)] [])), (.ifs (.or (.nt (.call 1 [(.bor 1), (.str "rows"), (.lst []), .non] [])) (.nt (.call 1 [(.bor 1), (.str "open"), (.lst []), .non] []))) [(.ret (.bl false))] []), (.for (.nm 2) (.rng [(.int 3)]) [(.set 3 (.call 2 [(.bor 1), (.lst [(.int 1), (.int 2), (.int 2), (.int 2), (.int 3), (.int 4), (.int 5)])] [])), (.par 4 5 (.call 3 [(.bor 1), (.var 3)] []) (.call 3 [(.bor 1), (.var 3)] [])), (.for (.nm 6) (.lst [(.var 4), (.var 5), (.bin .Add (.var 4) (.var 5))]) [(.ifs (.nt (.call 1 [(.bor 1), (.str "rows"), (.var 6), (.ite (.cmp .Eq (.var 6) (.lst [])) .non (.call 4 [(.var 6)] []))] [])) [(.ret (.bl false))] [])]), (.ifs (.and (.cmp .Eq (.var 3) (.int 2)) (.and (.cmp .NotEq (.var 4) (.lst [])) (.cmp .NotEq (.var 5) (.lst [])))) [(.set 7 (.cmeth 0 "best" (.call 5 [(.str "a"), (.str "b")] []) [(.call 4 [(.var 4)] []), (.call 4 [(.var 5)] [])] [])), (.ifs (.or (.nt (.call 6 [(.var 7), (.call 7 [(.bin .Add (.var 4) (.var 5))] [])] [])) (.nt (.call 6 [(.var 7), (.call 4 [(.bin .Add (.var 5) (.var 4))] [])] []))) [(.ret (.bl false))] [])] []), (.par 4 5 (.call 8 [(.bor 1)] []) (.call 8 [(.bor 1)] [])), (.for (.nm 6) (.lst [(.var 4), (.var 5), (.bin .Add (.var 5) (.var 4))]) [(.ifs (.nt (.call 1 [(.bor 1), (.str "open"), (.var 6), (.ite (.cmp .Eq (.var 6) (.lst [])) .non (.call 9 [(.var 6)] []))] [])) [(.ret (.bl false))] [])]), (.ifs (.and (.cmp .NotEq (.var 4) (.lst [])) (.cmp .NotEq (.var 5) (.lst []))) [(.set 7 (.cmeth 0 "best" (.call 10 [(.str "a")] []) [(.call 9 [(.var 4)] []), (.call 9 [(.var 5)] [])] [])), (.ifs (.or (.nt (.call 6 [(.var 7), (.call 11 [(.bin .Add (.var 4) (.var 5))] [])] [])) (.nt (.call 6 [(.var 7), (.call 9 [(.bin .Add (.var 5) (.var 4))] [])] []))) [(.ret (.bl false))] [])] []), (.for (.nm 8) (.rng [(.int 6)]) [(.par 9 10 (.tup [(.call 12 [(.bor 1), (.int 3)] []), (.bi 0 [(.bi 1 [(.call 13 [(.bor 1)] [])])])]) (.tup [(.call 12 [(.bor 1), (.int 3)] []), (.bi 0 [(.bi 1 [(.call 13 [(.bor 1)] [])])])])), (.ifs (.or (.nt (.call 14 [(.var 9), (.var 10)] [])) (.or (.nt (.call 14 [(.var 10), (.var 9)] [])) (.nt (.call 14 [(.var 9), (.var 9)] [])))) [(.ret (.bl false))] []), (.ifs (.nt (.call 14 [(.var 9), (.tup [(.bin .Add (.idx (.var 9) (.int 0)) (.call 12 [(.bor 1), (.int 2)] [])), (.bi 0 [(.bi 1 [(.bin .Add (.idx (.var 9) (.int 1)) (.idx (.var 10) (.int 1)))])])])] [])) [(.ret (.bl false))] [])])]), (.ret (.bl true))]
theorem sc_law : FnScope ["_law_script", "_law_bag_here", "_law_turn", "_law_wide", "_law_some", "_law_more", "_law_things", "_law_told", "_law_k", "_law_x", "_law_y"] ["_law_script"] (defScope (top 37)) := ⟨rfl, rfl, rfl, by decide +kernel, rfl, by decide +kernel, by decide +kernel⟩
theorem d_law (lv : Nat) : DefC (C_law lv) ["_law_script"] (defArgs (top 37)) (defBody (top 37)) (defScope (top 37)) b_law := ⟨sc_law, rfl, rfl, (show ∀ i ∈ ([] : List Nat), i < 1 by decide), by kernel_rfl⟩
abbrev M_law : Sem := mkSem [] [F__law_bag, F__law_thin_so, F__law_of, F__law_some_rows, F__law_thin, (mkF "Trade" (starF 1 F_Trade___init__)), (F__law_like 5), F_thin_rows, F__law_some_lots, F__law_open, (mkF "Open" F_Open___init__), F_thin_open, F__law_draw, F__law_lot, F__law_covers_so] [tupleD, sortedD] [] [(fun c => if c = "Open" then some F_Open_best else if c = "Trade" then some F_Trade_best else none)] (atOf AT)
def F_law : FS := fun args R => ∃ ns : List Int, args = [.sh (.klst (ns.map .int))] ∧ ns.length ≤ 63 ∧ ∀ o, R (.sh (.bl true)) o
def lb : List S := match b_law with
  | [_, _, .for _ _ b, _] => b
  | _ => []
theorem srt_strs {t : D} {l : List Str} {R : Sl → Prop} (ht : seqOf t = some (l.map .str)) (hok : ∀ s ∈ l, okS s) (h : ∀ m : List Str, m.length = l.length → (∀ s ∈ m, okS s) → (∀ p, Srtd (p, m)) → R (.ow (.lst (m.map .str)))) : sortedD [t] R := by
  refine str_sorted (l := l) ht ?_
  exact h _ (srtS_perm l).length_eq (fun s hs => hok s ((srtS_perm l).mem_iff.mp hs)) (fun p => srtS_pw l)
theorem law_t7 {R : Sl → List Sl → Prop} {K X : DSt → Prop} (hK : ∀ (a0 : Sl) (d' : D) (a2 a3 a4 a5 a6 a7 a8 a9 a10 : Sl), BagOk d' → K [a0, .ow d', a2, a3, a4, a5, a6, a7, a8, a9, a10]) (a0 : Sl) (d' : D) (a2 a3 a4 a5 a6 a7 a8 a9 a10 : Sl) (hd : BagOk d') :
    Later M_law (lb.drop 7) { nx := K, rt := fun r s => R r (outA [] 1 s), bk := X, ct := K } [a0, .ow d', a2, a3, a4, a5, a6, a7, a8, a9, a10] := by
  refine later ?_
  unfold lb b_law
  walk_at "SI"
  refine ⟨by decide, ?_⟩
  refine forRange (fun i s => ∃ (d' : D) (a8 a9 a10 : Sl), s = [a0, .ow d', a2, a3, a4, a5, a6, a7, a8, a9, a10] ∧ BagOk d') 6 ⟨_, _, _, _, rfl, hd⟩ ?_ ?_
  · rintro s ⟨d', a8, a9, a10, rfl, hd'⟩
    walk_at "ST"
    exact hK _ _ _ _ _ _ _ _ _ _ _ hd'
  · rintro i s hi ⟨d', a8, a9, a10, rfl, hd'⟩ J hJ
    refine ⟨_, rfl, ?_⟩
    walk_at "SI"
    refine ⟨d', 3, rfl, hd', by decide, by decide, fun p d1 hp0 hp1 hd1 => ?_⟩
    walk_at "SI"
    refine ⟨d1, rfl, hd1, fun l d2 hl0 hl1 hd2 => ?_⟩
    walk_at "SI"
    refine srt_strs rfl hl0 fun l2 hl2 hl3 hl4 => ?_
    walk_at "SI"
    refine .inr ?_
    refine ⟨d2, 3, rfl, hd2, by decide, by decide, fun q d3 hq0 hq1 hd3 => ?_⟩
    walk_at "SI"
    refine ⟨d3, rfl, hd3, fun m d4 hm0 hm1 hd4 => ?_⟩
    walk_at "SI"
    refine srt_strs rfl hm0 fun m2 hm2 hm3 hm4 => ?_
    walk_at "SI"
    refine .inr ?_
    walk_at "ST"
    have ok1 : okR (p, l2) := ⟨hl3, by show l2.length ≤ 1000; omega⟩
    have ok2 : okR (q, m2) := ⟨hm3, by show m2.length ≤ 1000; omega⟩
    refine ⟨(p, l2), (q, m2), rfl, ok1, ok2, hl4 p, hm4 q, fun o => ?_⟩
    walk_at "SI"
    refine ⟨(q, m2), (p, l2), rfl, ok2, ok1, hm4 q, hl4 p, fun o => ?_⟩
    walk_at "SI"
    refine ⟨(p, l2), (p, l2), rfl, ok1, ok1, hl4 p, hl4 p, fun o => ?_⟩
    walk_at "SI"
    walk_at "ST"
    refine ⟨d4, 2, rfl, hd4, by decide, by decide, fun e d5 he0 he1 hd5 => ?_⟩
    walk_at "SI"
    refine ⟨Nat.le_trans (show _ ≤ 1000 by omega) (by decide), ?_⟩
    rw [← List.map_append]
    refine srt_strs rfl (fun s hs => (List.mem_append.mp hs).elim (hl3 s) (hm3 s)) fun n hn2 hn3 hn4 => ?_
    rw [List.length_append] at hn2
    refine .inr ?_
    refine ⟨(p, l2), (p + e, n), rfl, ok1, ⟨hn3, by show n.length ≤ 1000; omega⟩, hl4 p, hn4 _, fun o => ?_⟩
    walk_at "SI"
    exact hJ _ ⟨_, _, _, _, rfl, hd5⟩
theorem Thin.join {α : Type} {c : α → α → Prop} {A B T1 T2 T : List α} (tr : ∀ x ∈ A ++ B, ∀ y ∈ A ++ B, ∀ z ∈ A ++ B, c x y → c y z → c x z) (h1 : Thin c A T1) (h2 : Thin c B T2) (h : Thin c (T1 ++ T2) T) : Thin c (A ++ B) T := by
  have s12 : ∀ x ∈ T1 ++ T2, x ∈ A ++ B := fun x hx => by
    rcases List.mem_append.mp hx with hx | hx
    · exact List.mem_append_left _ (h1.sub x hx)
    · exact List.mem_append_right _ (h2.sub x hx)
  refine ⟨fun x hx => s12 x (h.sub x hx), h.anti, fun z hz => ?_⟩
  have : ∃ y ∈ T1 ++ T2, c y z := by
    rcases List.mem_append.mp hz with hz | hz
    · obtain ⟨y, hy, q⟩ := h1.cov z hz
      exact ⟨y, List.mem_append_left _ hy, q⟩
    · obtain ⟨y, hy, q⟩ := h2.cov z hz
      exact ⟨y, List.mem_append_right _ hy, q⟩
  obtain ⟨y, hy, q⟩ := this
  obtain ⟨x, hx, p⟩ := h.cov y hy
  exact ⟨x, hx, tr x (s12 x (h.sub x hx)) y (s12 y hy) z hz p q⟩
theorem map_nO_self : ∀ {L : List OR}, (∀ x ∈ L, Srtd x) → L.map nO = L
  | [], _ => rfl
  | x :: L, h => by
    show nO x :: L.map nO = _
    rw [map_nO_self fun y m => h y (.tail _ m)]
    have : nO x = x := by unfold nO; rw [srtS_self (h x (.head _))]
    rw [this]
theorem OpenR.join {A B T1 T2 : List OR} {r : D} (h1 : Thin cc (A.map nO) T1) (h2 : Thin cc (B.map nO) T2) (l1 : T1.length ≤ A.length) (l2 : T2.length ≤ B.length) (nA : A ≠ []) (h : OpenR (T1 ++ T2) r) : OpenR (A ++ B) r := by
  have ss : ∀ {L T : List OR}, Thin cc (L.map nO) T → ∀ x ∈ T, Srtd x := fun h x hx => by
    obtain ⟨y, _, rfl⟩ := List.mem_map.mp (h.sub x hx)
    exact nO_srtd y
  have e : (T1 ++ T2).map nO = T1 ++ T2 := map_nO_self fun x hx => (List.mem_append.mp hx).elim (ss h1 x) (ss h2 x)
  have n1 := thin_ne h1 (by simpa using nA)
  rcases h with ⟨e0, _⟩ | ⟨T, h3, rfl, h4, h5, h6⟩
  · exact absurd (List.append_eq_nil_iff.mp e0).1 n1
  · rw [e] at h4
    refine .inr ⟨T, h3, rfl, ?_, h5, by rw [List.length_append] at h6 ⊢; omega⟩
    rw [List.map_append]
    exact Thin.join (fun x _ y _ z _ => cO_trans x y z) h1 h2 h4
theorem ThinR.join {A B T1 T2 : List IR} {w : Nat} {r : D} (hA : ∀ x ∈ A, x.2.length = w) (hB : ∀ x ∈ B, x.2.length = w) (h1 : Thin (fun x y => cI x y = true) A T1) (h2 : Thin (fun x y => cI x y = true) B T2) (l1 : T1.length ≤ A.length) (l2 : T2.length ≤ B.length) (nA : A ≠ []) (h : ThinR (T1 ++ T2) r) : ThinR (A ++ B) r := by
  have n1 := thin_ne h1 nA
  have hw : ∀ x ∈ A ++ B, x.2.length = w := fun x hx => (List.mem_append.mp hx).elim (hA x) (hB x)
  rcases h with ⟨e0, _⟩ | ⟨T, h3, rfl, h4, h5, h6⟩
  · exact absurd (List.append_eq_nil_iff.mp e0).1 n1
  · refine .inr ⟨T, h3, rfl, ?_, h5, by rw [List.length_append] at h6 ⊢; omega⟩
    exact Thin.join (c := fun x y => cI x y = true) (fun x hx y hy z hz => cI_trans (by rw [hw x hx, hw y hy]) (by rw [hw y hy, hw z hz])) h1 h2 h4
theorem okR_thin {A T : List OR} (h : Thin cc (A.map nO) T) (hA : ∀ r ∈ A, okR r) : ∀ r ∈ T, okR r := fun r hr => by
  obtain ⟨x, hx, rfl⟩ := List.mem_map.mp (h.sub r hr)
  exact okR_nO (hA x hx)
theorem OpenR.of {L T : List OR} (h : Thin cc (L.map nO) T) (hp : T.Pairwise CO.lt) (hl : T.length ≤ L.length) (hne : L ≠ []) : OpenR L (.tup (T.map rowO)) := .inr ⟨T, thin_ne h (by simpa using hne), rfl, h, hp, hl⟩
theorem ThinR.of {L T : List IR} (h : Thin (fun x y => cI x y = true) L T) (hp : T.Pairwise CI.lt) (hl : T.length ≤ L.length) (hne : L ≠ []) : ThinR L (.tup (T.map CI.enc)) := .inr ⟨T, thin_ne h hne, rfl, h, hp, hl⟩
theorem nameA : NameS (Str.ofString "a") := ⟨by decide, by decide⟩
theorem nameBb : NameS (Str.ofString "b") := ⟨by decide, by decide⟩
theorem law_t6 {R : Sl → List Sl → Prop} {K X : DSt → Prop} (hK : ∀ (a0 : Sl) (d' : D) (a2 a3 a4 a5 a6 a7 a8 a9 a10 : Sl), BagOk d' → K [a0, .ow d', a2, a3, a4, a5, a6, a7, a8, a9, a10]) (a0 : Sl) (d' : D) (a2 a3 a6 a7 a8 a9 a10 : Sl) (A B : List OR) (hA : ∀ r ∈ A, okR r) (hB : ∀ r ∈ B, okR r) (lA : A.length ≤ 8) (lB : B.length ≤ 8) (hd : BagOk d') :
    Later M_law (lb.drop 6) { nx := K, rt := fun r s => R r (outA [] 1 s), bk := X, ct := K } [a0, .ow d', a2, a3, .sh (.lst (A.map rowO)), .sh (.lst (B.map rowO)), a6, a7, a8, a9, a10] := by
  refine later ?_
  unfold lb b_law
  walk_at "SI"
  refine eqD_nilC CO (fun x hx => CO_shaped (hA x hx)) ?_
  by_cases eA : A = []
  · rw [decide_eq_true eA]
    walk_at "SI"
    exact law_t7 hK _ _ _ _ _ _ _ _ _ _ _ hd
  rw [decide_eq_false eA]
  walk_at "SI"
  refine eqD_nilC CO (fun x hx => CO_shaped (hB x hx)) ?_
  by_cases eB : B = []
  · rw [decide_eq_true eB]
    walk_at "SI"
    exact law_t7 hK _ _ _ _ _ _ _ _ _ _ _ hd
  rw [decide_eq_false eB]
  walk_at "SI"
  refine ⟨_, rfl, nameA, rfl, _, _, rfl, ?_⟩
  refine ⟨rfl, A, rfl, hA, by omega, fun T1 t11 t12 t13 o1 => ?_⟩
  refine ⟨B, rfl, hB, by omega, fun T2 t21 t22 t23 o2 => ?_⟩
  have okT : ∀ r ∈ T1 ++ T2, okR r := fun r hr => (List.mem_append.mp hr).elim (okR_thin t11 hA r) (okR_thin t21 hB r)
  refine ⟨_, T1, T2, rfl, okT, by omega, fun r hr o3 => ?_⟩
  have hj := hr.join t11 t21 t13 t23 eA
  have okAB : ∀ r ∈ A ++ B, okR r := fun r hr => (List.mem_append.mp hr).elim (hA r) (hB r)
  have hlk := hj.like okAB (by rw [List.length_append]; omega)
  refine later ?_
  walk_at "SI"
  have b8 : ∀ n : Nat, n ≤ 1000 → n ≤ sizeLine := fun n h => Nat.le_trans h (by decide)
  have hne : B ++ A ≠ [] := fun e => eA (List.append_eq_nil_iff.mp e).2
  refine ⟨b8 _ (by omega), ?_⟩
  rw [← List.map_append, ← List.map_append]
  refine ⟨_, A ++ B, rfl, rfl, okAB, by rw [List.length_append]; omega, fun r2 hr2 o4 => ?_⟩
  cases hr2.same hj
  refine ⟨_, rfl, like_mono hlk, fun o5 => ?_⟩
  walk_at "SI"
  refine ⟨b8 _ (by omega), ?_⟩
  refine ⟨B ++ A, rfl, fun r hr => okAB r ((List.perm_append_comm).mem_iff.mp hr), by rw [List.length_append]; omega, fun T3 t31 t32 t33 o6 => ?_⟩
  have h3 := (OpenR.of t31 t32 t33 hne).perm (L := A ++ B) List.perm_append_comm
  cases h3.same hj
  refine ⟨_, rfl, like_mono hlk, fun o7 => ?_⟩
  walk_at "SI"
  exact law_t7 hK _ _ _ _ _ _ _ _ _ _ _ hd
theorem law_t5 {R : Sl → List Sl → Prop} {K X : DSt → Prop} (hK : ∀ (a0 : Sl) (d' : D) (a2 a3 a4 a5 a6 a7 a8 a9 a10 : Sl), BagOk d' → K [a0, .ow d', a2, a3, a4, a5, a6, a7, a8, a9, a10]) (a0 : Sl) (d' : D) (a2 a3 a6 a7 a8 a9 a10 : Sl) (A B : List OR) (hA : ∀ r ∈ A, okR r) (hB : ∀ r ∈ B, okR r) (lA : A.length ≤ 8) (lB : B.length ≤ 8) (hd : BagOk d') :
    Later M_law (lb.drop 5) { nx := K, rt := fun r s => R r (outA [] 1 s), bk := X, ct := K } [a0, .ow d', a2, a3, .ow (.lst (A.map rowO)), .ow (.lst (B.map rowO)), a6, a7, a8, a9, a10] := by
  refine later ?_
  unfold lb b_law
  walk_at "SI"
  have b8 : ∀ n : Nat, n ≤ 1000 → n ≤ sizeLine := fun n h => Nat.le_trans h (by decide)
  refine ⟨b8 _ (by omega), ?_⟩
  rw [← List.map_append]
  refine forGo_ind (fun ds s => ∃ (d' : D) (a6 : Sl), (∀ y ∈ ds, ∃ M : List OR, y = .lst (M.map rowO) ∧ (∀ r ∈ M, okR r) ∧ M.length ≤ 16) ∧ s = [a0, .ow d', a2, a3, .sh (.lst (A.map rowO)), .sh (.lst (B.map rowO)), a6, a7, a8, a9, a10] ∧ BagOk d') ?_ ?_ _ _ ⟨d', a6, ?_, rfl, hd⟩
  · rintro s ⟨d', a6, _, rfl, hd'⟩
    exact law_t6 hK _ _ _ _ _ _ _ _ _ A B hA hB lA lB hd'
  · rintro y ds s ⟨d', a6, hm, rfl, hd'⟩ J hJ
    obtain ⟨M, rfl, hM, lM⟩ := hm y (.head _)
    refine ⟨_, rfl, ?_⟩
    walk_at "SI"
    refine eqD_nilC CO (fun x hx => CO_shaped (hM x hx)) ?_
    have fin : ∀ (due : D), OpenR M due → F__law_thin_so [.ow d', .sh (.str (Str.ofString "open")), .sh (.lst (M.map rowO)), .sh due] (fun r args' => ∃ d2, r = .sh (.bl true) ∧ args' = [.ow d2, .no, .no, .no] ∧ BagOk d2) := fun due h => ⟨d', due, hd', .inr ⟨M, rfl, hM, by omega, h⟩, fun d2 hd2 => ⟨d2, rfl, rfl, hd2⟩⟩
    by_cases eM : M = []
    · subst eM
      rw [decide_eq_true rfl]
      walk_at "SI"
      refine ⟨d', _, hd', .inr ⟨[], rfl, hM, by decide, .inl ⟨rfl, rfl⟩⟩, fun d2 hd2 => ?_⟩
      walk_at "SI"
      exact hJ _ ⟨_, _, fun y m => hm y (.tail _ m), rfl, hd2⟩
    · rw [decide_eq_false eM]
      walk_at "SI"
      refine ⟨M, rfl, hM, by omega, fun T t1 t2 t3 o1 => ?_⟩
      walk_at "SI"
      refine ⟨d', _, hd', .inr ⟨M, rfl, hM, by omega, OpenR.of t1 t2 t3 eM⟩, fun d2 hd2 => ?_⟩
      walk_at "SI"
      exact hJ _ ⟨_, _, fun y m => hm y (.tail _ m), rfl, hd2⟩
  · intro y hy
    simp only [List.mem_cons, List.not_mem_nil, or_false] at hy
    rcases hy with rfl | rfl | rfl
    · exact ⟨A, rfl, hA, by omega⟩
    · exact ⟨B, rfl, hB, by omega⟩
    · exact ⟨B ++ A, rfl, fun r hr => (List.mem_append.mp hr).elim (hB r) (hA r), by rw [List.length_append]; omega⟩
theorem law_t4 {R : Sl → List Sl → Prop} {K X : DSt → Prop} (hK : ∀ (a0 : Sl) (d' : D) (a2 a3 a4 a5 a6 a7 a8 a9 a10 : Sl), BagOk d' → K [a0, .ow d', a2, a3, a4, a5, a6, a7, a8, a9, a10]) (a0 : Sl) (d' : D) (a2 a3 a4 a5 a6 a7 a8 a9 a10 : Sl) (hd : BagOk d') :
    Later M_law (lb.drop 4) { nx := K, rt := fun r s => R r (outA [] 1 s), bk := X, ct := K } [a0, .ow d', a2, a3, a4, a5, a6, a7, a8, a9, a10] := by
  refine later ?_
  unfold lb b_law
  walk_at "SI"
  refine ⟨d', rfl, hd, fun A d2 hA lA hd2 => ?_⟩
  walk_at "SI"
  refine ⟨d2, rfl, hd2, fun B d3 hB lB hd3 => ?_⟩
  exact law_t5 hK _ _ _ _ _ _ _ _ _ A B hA hB lA lB hd3
theorem law_t3 {R : Sl → List Sl → Prop} {K X : DSt → Prop} (hK : ∀ (a0 : Sl) (d' : D) (a2 a3 a4 a5 a6 a7 a8 a9 a10 : Sl), BagOk d' → K [a0, .ow d', a2, a3, a4, a5, a6, a7, a8, a9, a10]) (a0 : Sl) (d' : D) (a2 a6 a7 a8 a9 a10 : Sl) (w : Nat) (hw : w ≤ 5) (A B : List IR) (hA : ∀ r ∈ A, r.2.length = w) (hB : ∀ r ∈ B, r.2.length = w) (lA : A.length ≤ 8) (lB : B.length ≤ 8) (hd : BagOk d') :
    Later M_law (lb.drop 3) { nx := K, rt := fun r s => R r (outA [] 1 s), bk := X, ct := K } [a0, .ow d', a2, .sh (.int ((w + 1 : Nat) : Int)), .sh (.lst (A.map CI.enc)), .sh (.lst (B.map CI.enc)), a6, a7, a8, a9, a10] := by
  refine later ?_
  unfold lb b_law
  walk_at "SI"
  by_cases hw1 : w = 1
  case neg =>
    rw [if_neg (show ¬ (((w + 1 : Nat) : Int) == 2) = true by rw [beq_iff_eq]; omega)]
    exact law_t4 hK _ _ _ _ _ _ _ _ _ _ _ hd
  rw [if_pos (show (((w + 1 : Nat) : Int) == 2) = true by rw [beq_iff_eq]; omega)]
  refine eqD_nilC CI (fun x hx => CI_shaped x) ?_
  by_cases eA : A = []
  · rw [decide_eq_true eA]
    walk_at "SI"
    exact law_t4 hK _ _ _ _ _ _ _ _ _ _ _ hd
  rw [decide_eq_false eA]
  walk_at "SI"
  refine eqD_nilC CI (fun x hx => CI_shaped x) ?_
  by_cases eB : B = []
  · rw [decide_eq_true eB]
    walk_at "SI"
    exact law_t4 hK _ _ _ _ _ _ _ _ _ _ _ hd
  rw [decide_eq_false eB]
  walk_at "SI"
  refine ⟨⟨rfl, by show 1 ≤ 3; decide, by show 2 ≤ sizeLine; decide⟩, Str.ofString "a", Str.ofString "b", rfl, nameA, nameBb, by decide, rfl, _, _, rfl, ?_⟩
  refine ⟨rfl, A, w, rfl, hA, by omega, by omega, fun T1 t11 t12 t13 o1 => ?_⟩
  refine ⟨B, w, rfl, hB, by omega, by omega, fun T2 t21 t22 t23 o2 => ?_⟩
  have wT : ∀ r ∈ T1 ++ T2, r.2.length = w := fun r hr => (List.mem_append.mp hr).elim (fun h => hA r (t11.sub r h)) (fun h => hB r (t21.sub r h))
  refine ⟨_, _, T1, T2, w, rfl, wT, by omega, by omega, fun r hr o3 => ?_⟩
  have hj := hr.join hA hB t11 t21 t13 t23 eA
  have wAB : ∀ r ∈ A ++ B, r.2.length = w := fun r hr => (List.mem_append.mp hr).elim (hA r) (hB r)
  have hlk := hj.like (fun r hr => by rw [wAB r hr]; omega) (by rw [List.length_append]; omega)
  refine later ?_
  walk_at "SI"
  have b8 : ∀ n : Nat, n ≤ 1000 → n ≤ sizeLine := fun n h => Nat.le_trans h (by decide)
  have hne : B ++ A ≠ [] := fun e => eA (List.append_eq_nil_iff.mp e).2
  refine ⟨b8 _ (by omega), ?_⟩
  rw [← List.map_append, ← List.map_append]
  refine ⟨_, A ++ B, w, rfl, rfl, wAB, by omega, by rw [List.length_append]; omega, fun r2 hr2 o4 => ?_⟩
  cases hr2.same wAB hj
  refine ⟨_, rfl, like_mono hlk, fun o5 => ?_⟩
  walk_at "SI"
  refine ⟨b8 _ (by omega), ?_⟩
  refine ⟨B ++ A, w, rfl, fun r hr => wAB r ((List.perm_append_comm).mem_iff.mp hr), by omega, by rw [List.length_append]; omega, fun T3 t31 t32 t33 o6 => ?_⟩
  have h3 := (ThinR.of t31 t32 t33 hne).perm (L := A ++ B) List.perm_append_comm
  cases h3.same wAB hj
  refine ⟨_, rfl, like_mono hlk, fun o7 => ?_⟩
  walk_at "SI"
  exact law_t4 hK _ _ _ _ _ _ _ _ _ _ _ hd
theorem law_t2 {R : Sl → List Sl → Prop} {K X : DSt → Prop} (hK : ∀ (a0 : Sl) (d' : D) (a2 a3 a4 a5 a6 a7 a8 a9 a10 : Sl), BagOk d' → K [a0, .ow d', a2, a3, a4, a5, a6, a7, a8, a9, a10]) (a0 : Sl) (d' : D) (a2 a6 a7 a8 a9 a10 : Sl) (w : Nat) (hw : w ≤ 5) (A B : List IR) (hA : ∀ r ∈ A, r.2.length = w) (hB : ∀ r ∈ B, r.2.length = w) (lA : A.length ≤ 8) (lB : B.length ≤ 8) (hd : BagOk d') :
    Later M_law (lb.drop 2) { nx := K, rt := fun r s => R r (outA [] 1 s), bk := X, ct := K } [a0, .ow d', a2, .sh (.int ((w + 1 : Nat) : Int)), .ow (.lst (A.map CI.enc)), .ow (.lst (B.map CI.enc)), a6, a7, a8, a9, a10] := by
  refine later ?_
  unfold lb b_law
  walk_at "SI"
  have b8 : ∀ n : Nat, n ≤ 1000 → n ≤ sizeLine := fun n h => Nat.le_trans h (by decide)
  refine ⟨b8 _ (by omega), ?_⟩
  rw [← List.map_append]
  refine forGo_ind (fun ds s => ∃ (d' : D) (a6 : Sl), (∀ y ∈ ds, ∃ M : List IR, y = .lst (M.map CI.enc) ∧ (∀ r ∈ M, r.2.length = w) ∧ M.length ≤ 16) ∧ s = [a0, .ow d', a2, .sh (.int ((w + 1 : Nat) : Int)), .sh (.lst (A.map CI.enc)), .sh (.lst (B.map CI.enc)), a6, a7, a8, a9, a10] ∧ BagOk d') ?_ ?_ _ _ ⟨d', a6, ?_, rfl, hd⟩
  · rintro s ⟨d', a6, _, rfl, hd'⟩
    exact law_t3 hK _ _ _ _ _ _ _ _ w hw A B hA hB lA lB hd'
  · rintro y ds s ⟨d', a6, hm, rfl, hd'⟩ J hJ
    obtain ⟨M, rfl, hM, lM⟩ := hm y (.head _)
    refine ⟨_, rfl, ?_⟩
    walk_at "SI"
    refine eqD_nilC CI (fun x hx => CI_shaped x) ?_
    by_cases eM : M = []
    · subst eM
      rw [decide_eq_true rfl]
      walk_at "SI"
      refine ⟨d', _, hd', .inl ⟨[], w, rfl, hM, by omega, by decide, .inl ⟨rfl, rfl⟩⟩, fun d2 hd2 => ?_⟩
      walk_at "SI"
      exact hJ _ ⟨_, _, fun y m => hm y (.tail _ m), rfl, hd2⟩
    · rw [decide_eq_false eM]
      walk_at "SI"
      refine ⟨M, w, rfl, hM, by omega, by omega, fun T t1 t2 t3 o1 => ?_⟩
      walk_at "SI"
      refine ⟨d', _, hd', .inl ⟨M, w, rfl, hM, by omega, by omega, ThinR.of t1 t2 t3 eM⟩, fun d2 hd2 => ?_⟩
      walk_at "SI"
      exact hJ _ ⟨_, _, fun y m => hm y (.tail _ m), rfl, hd2⟩
  · intro y hy
    simp only [List.mem_cons, List.not_mem_nil, or_false] at hy
    rcases hy with rfl | rfl | rfl
    · exact ⟨A, rfl, hA, by omega⟩
    · exact ⟨B, rfl, hB, by omega⟩
    · exact ⟨A ++ B, rfl, fun r hr => (List.mem_append.mp hr).elim (hA r) (hB r), by rw [List.length_append]; omega⟩
theorem p_law : ∀ args R, F_law args R → runF [] 1 11 (wSs M_law b_law) args R := by
  rintro args R ⟨ns, rfl, hl, hR⟩
  refine ⟨rfl, ?_⟩
  unfold b_law
  walk_at "SI"
  refine ⟨ns, rfl, hl, fun d o hd => ?_⟩
  walk_at "SI"
  walk_at "ST"
  refine ⟨d, .non, hd, .inl ⟨[], 0, rfl, ?_, by decide, by decide, .inl ⟨rfl, rfl⟩⟩, fun d1 hd1 => ?_⟩
  · intro r h
    cases h
  walk_at "SI"
  refine ⟨d1, .non, hd1, .inr ⟨[], rfl, ?_, by decide, .inl ⟨rfl, rfl⟩⟩, fun d2 hd2 => ?_⟩
  · intro r h
    cases h
  walk_at "SI"
  walk_at "ST"
  refine ⟨by decide, ?_⟩
  refine forRange (fun i s => ∃ (a0 : Sl) (d' : D) (a2 a3 a4 a5 a6 a7 a8 a9 a10 : Sl), s = [a0, .ow d', a2, a3, a4, a5, a6, a7, a8, a9, a10] ∧ BagOk d') 3 ⟨_, _, _, _, _, _, _, _, _, _, _, rfl, hd2⟩ ?_ ?_
  · rintro s ⟨a0, d', a2, a3, a4, a5, a6, a7, a8, a9, a10, rfl, hd'⟩
    walk_at "ST"
    exact hR _
  · rintro i s hi ⟨a0, d', a2, a3, a4, a5, a6, a7, a8, a9, a10, rfl, hd'⟩ K hK
    have hK2 : ∀ (a0 : Sl) (d' : D) (a2 a3 a4 a5 a6 a7 a8 a9 a10 : Sl), BagOk d' → K [a0, .ow d', a2, a3, a4, a5, a6, a7, a8, a9, a10] := fun a0 d' a2 a3 a4 a5 a6 a7 a8 a9 a10 h => hK _ ⟨_, _, _, _, _, _, _, _, _, _, _, rfl, h⟩
    refine ⟨_, rfl, ?_⟩
    walk_at "SI"
    refine ⟨d', _, _, _, rfl, .inl rfl, hd', rfl, by show 0 < 7; decide, by show 7 ≤ 1000000; decide, fun x d1 hx hd1 => ?_⟩
    have hxi : ∃ w : Nat, x = .int ((w + 1 : Nat) : Int) ∧ w ≤ 5 := by
      simp only [List.mem_cons, List.not_mem_nil, or_false] at hx
      rcases hx with rfl | rfl | rfl | rfl | rfl | rfl | rfl
      · exact ⟨0, rfl, by decide⟩
      · exact ⟨1, rfl, by decide⟩
      · exact ⟨1, rfl, by decide⟩
      · exact ⟨1, rfl, by decide⟩
      · exact ⟨2, rfl, by decide⟩
      · exact ⟨3, rfl, by decide⟩
      · exact ⟨4, rfl, by decide⟩
    obtain ⟨w, rfl, hw⟩ := hxi
    walk_at "SI"
    walk_at "ST"
    refine ⟨d1, w, rfl, hd1, by omega, fun A d2 hA hAl hd2 => ?_⟩
    walk_at "SI"
    refine ⟨d2, w, rfl, hd2, by omega, fun B d3 hB hBl hd3 => ?_⟩
    exact law_t2 hK2 _ _ _ _ _ _ _ _ w hw A B hA hB hAl hBl hd3
theorem ok_law {P : Program} {w : World} {K : PySem.W.Frag} {mg : Str → Option Value} {base : Heap} (V : VE K mg base) : ∃ fd, FunD K "law" "law" (defArgs (top 37)) (defBody (top 37)) (defScope (top 37)) [] [] (He.ga K "law") fd ∧ FnOk P w K mg base CX0 7 (He.ga K "law") fd ["_law_script"] (spOf K F_law) := by
  obtain ⟨fd, Fd⟩ := V.def_ 25 (d := dd "law" 37 []) rfl
  exact ⟨fd, Fd, fn_ok Fd (d_law 6) (mkTab (.cons (cj__law_bag_1 V (by first | decide | omega)) (.cons (cj__law_thin_so_4 V (by first | decide | omega)) (.cons (cj__law_of_2 V (by first | decide | omega)) (.cons (cj__law_some_rows_2 V (by first | decide | omega)) (.cons (cj__law_thin_1 V (by first | decide | omega)) (.cons (cj_Trade_2 V (by first | decide | omega)) (.cons (cj__law_like_2 V (by first | decide | omega)) (.cons (cj_thin_rows_1 V (by first | decide | omega)) (.cons (cj__law_some_lots_1 V (by first | decide | omega)) (.cons (cj__law_open_1 V (by first | decide | omega)) (.cons (cj_Open_1 V (by first | decide | omega)) (.cons (cj_thin_open_1 V (by first | decide | omega)) (.cons (cj__law_draw_2 V (by first | decide | omega)) (.cons (cj__law_lot_1 V (by first | decide | omega)) (.cons (cj__law_covers_so_2 V (by first | decide | omega)) .nil))))))))))))))) (.cons rfl (.cons rfl .nil)) (show ([("tuple", 1), ("sorted", 1)] : List (Str × Nat)).all (fun c => decide (c.1 ∈ FR)) = true by decide +kernel) .nil (.cons (methJ (fun cls F h => by
      by_cases e : cls = "Open"
      · subst e; cases h; exact me_Open_best V (by first | decide | omega | (show _ ≤ n + 0; omega))
      rw [if_neg e] at h
      by_cases e : cls = "Trade"
      · subst e; cases h; exact me_Trade_best V (by first | decide | omega | (show _ ≤ n + 0; omega))
      rw [if_neg e] at h
      cases h) 2) .nil) (at_ok V) V.free rfl) (fun h => by cases h) rfl p_law⟩
end K06

namespace K06
open PySem DL
open L2 (V FnOk FunD CX0 defArgs defBody defScope SqL FnScope KBn)
local macro_rules | `(tactic| walk_at "SI") => `(tactic| simp only [wAls, wAug, wTMeth, tmD, wLcv, wSrs, wSrk, wSrl, wLc2, wTs, wCaps, wLMeth, lmD, wEnm, revD, rg1D, rg2D, wCMeth, wStf, putD, fldD, attrD, mkF, dflF, kwF, shs, pickG, pickO, consO, Option.map_some, List.take_nil, wMeth, methD, joinD, strsOf_map, wSs_cons, wSs_nil, Later_nil, wS, wE, wT, wI, wX, wVl, wOl, wAv, mk3, mkT, mkI, opd, wIf, wOr, DL.wAnd, DL.wNot, wBool, wTru, wUn, wOp, wFn, wCons, wNil, wVCons, wVNil, wAvNil, wAvVal, wAvBor, wCall2, wC, wVar, wAndV, wOrV, wNotV, wIte, wLst, wTup, wDct, wChn, wSlc, partE, varOp, asOp, entry, content, resO, resOs, frz, wRet, wRetV, wRetN, wNext, wDrop, wSet, wUnp, wPar, wSti, wBrk, wCnt, wMut, muD_append, muD_insert, muD_pop0, muD_pop1, mAppend, mInsert, mPop, mPopAt, wSeq', wFor, wWhile, wLc, wRng1, wRng2, wZip, itemsD, nth, bindTg, bindTgs, noOw, wipeS, restore, wback_val, wback_nil, wback_bor, List.nodup_nil, List.nodup_cons, List.not_mem_nil, bors, resA, pairD, keyD, le_size, List.replicate_succ, List.replicate_zero, List.length_cons, List.length_nil, List.cons_append, List.nil_append, List.getElem?_cons_zero, List.getElem?_cons_succ, List.getElem?_nil, List.set_cons_zero, List.set_cons_succ, Option.isSome_some, List.map_cons, List.map_nil, List.all_cons, List.all_nil, List.any_cons, List.any_nil, Nat.reduceSub, Nat.reduceAdd, Nat.reduceLT, Nat.reduceLeDiff, reduceIte, reduceCtorEq, Bool.not_true, Bool.not_false, Bool.false_eq_true, and_true, true_and, List.drop_zero, List.drop_succ_cons, List.take_succ_cons, List.take_zero, maxD2, minD2, lenD, intD, boolD, strD, listD, tupleD, allD, anyD, blsD, cmpB, cmpD, binD, addD, subD, mulD, fdivD, modD, powD, negD, idxD, slcD, truD, ltD, gtD, leD, geD, eqD_int, eqD_bl, eqD_str, eqD_non, L2.atI, ixN_lit, Int.reduceToNat, Option.bind_some, List.length_map, List.set_cons_zero, List.set_cons_succ, isNon, inD_ss, inStr_one, isiD, seqOf, lstOf, String.reduceNe, String.reduceEq, ne_eq, not_false_eq_true, not_true_eq_false, Bool.or_true, Bool.or_false, Bool.true_or, Bool.false_or, Bool.and_true, Bool.and_false, Bool.true_and, Bool.false_and, isT_NoneType_bool, isT_NoneType_int, isT_NoneType_str, isT_NoneType_list, isT_NoneType_tuple, isT_NoneType_dict, isT_bool_bool, isT_bool_int, isT_bool_str, isT_bool_list, isT_bool_tuple, isT_bool_dict, isT_int_bool, isT_int_int, isT_int_str, isT_int_list, isT_int_tuple, isT_int_dict, isT_str_bool, isT_str_int, isT_str_str, isT_str_list, isT_str_tuple, isT_str_dict, isT_list_bool, isT_list_int, isT_list_str, isT_list_list, isT_list_tuple, isT_list_dict, isT_tuple_bool, isT_tuple_int, isT_tuple_str, isT_tuple_list, isT_tuple_tuple, isT_tuple_dict, isT_dict_bool, isT_dict_int, isT_dict_str, isT_dict_list, isT_dict_tuple, isT_dict_dict, tyN_non, tyN_bl, tyN_int, tyN_str, tyN_lst, tyN_tup, tyN_ftup, tyN_klst, tyN_dic])
local macro_rules | `(tactic| walk_at "ST") => `(tactic| (refine later ?_; simp only [wAls, wAug, wTMeth, tmD, wLcv, wSrs, wSrk, wSrl, wLc2, wTs, wCaps, wLMeth, lmD, wEnm, revD, rg1D, rg2D, wCMeth, wStf, putD, fldD, attrD, mkF, dflF, kwF, shs, pickG, pickO, consO, Option.map_some, List.take_nil, wMeth, methD, joinD, strsOf_map, wSs_cons, wSs_nil, Later_nil, wS, wE, wT, wI, wX, wVl, wOl, wAv, mk3, mkT, mkI, opd, wIf, wOr, DL.wAnd, DL.wNot, wBool, wTru, wUn, wOp, wFn, wCons, wNil, wVCons, wVNil, wAvNil, wAvVal, wAvBor, wCall2, wC, wVar, wAndV, wOrV, wNotV, wIte, wLst, wTup, wDct, wChn, wSlc, partE, varOp, asOp, entry, content, resO, resOs, frz, wRet, wRetV, wRetN, wNext, wDrop, wSet, wUnp, wPar, wSti, wBrk, wCnt, wMut, muD_append, muD_insert, muD_pop0, muD_pop1, mAppend, mInsert, mPop, mPopAt, wSeq', wFor, wWhile, wLc, wRng1, wRng2, wZip, itemsD, nth, bindTg, bindTgs, noOw, wipeS, restore, wback_val, wback_nil, wback_bor, List.nodup_nil, List.nodup_cons, List.not_mem_nil, bors, resA, pairD, keyD, le_size, List.replicate_succ, List.replicate_zero, List.length_cons, List.length_nil, List.cons_append, List.nil_append, List.getElem?_cons_zero, List.getElem?_cons_succ, List.getElem?_nil, List.set_cons_zero, List.set_cons_succ, Option.isSome_some, List.map_cons, List.map_nil, List.all_cons, List.all_nil, List.any_cons, List.any_nil, Nat.reduceSub, Nat.reduceAdd, Nat.reduceLT, Nat.reduceLeDiff, reduceIte, reduceCtorEq, Bool.not_true, Bool.not_false, Bool.false_eq_true, and_true, true_and, List.drop_zero, List.drop_succ_cons, List.take_succ_cons, List.take_zero, maxD2, minD2, lenD, intD, boolD, strD, listD, tupleD, allD, anyD, blsD, cmpB, cmpD, binD, addD, subD, mulD, fdivD, modD, powD, negD, idxD, slcD, truD, ltD, gtD, leD, geD, eqD_int, eqD_bl, eqD_str, eqD_non, L2.atI, ixN_lit, Int.reduceToNat, Option.bind_some, List.length_map, List.set_cons_zero, List.set_cons_succ, isNon, inD_ss, inStr_one, isiD, seqOf, lstOf, String.reduceNe, String.reduceEq, ne_eq, not_false_eq_true, not_true_eq_false, Bool.or_true, Bool.or_false, Bool.true_or, Bool.false_or, Bool.and_true, Bool.and_false, Bool.true_and, Bool.false_and, isT_NoneType_bool, isT_NoneType_int, isT_NoneType_str, isT_NoneType_list, isT_NoneType_tuple, isT_NoneType_dict, isT_bool_bool, isT_bool_int, isT_bool_str, isT_bool_list, isT_bool_tuple, isT_bool_dict, isT_int_bool, isT_int_int, isT_int_str, isT_int_list, isT_int_tuple, isT_int_dict, isT_str_bool, isT_str_int, isT_str_str, isT_str_list, isT_str_tuple, isT_str_dict, isT_list_bool, isT_list_int, isT_list_str, isT_list_list, isT_list_tuple, isT_list_dict, isT_tuple_bool, isT_tuple_int, isT_tuple_str, isT_tuple_list, isT_tuple_tuple, isT_tuple_dict, isT_dict_bool, isT_dict_int, isT_dict_str, isT_dict_list, isT_dict_tuple, isT_dict_dict, tyN_non, tyN_bl, tyN_int, tyN_str, tyN_lst, tyN_tup, tyN_ftup, tyN_klst, tyN_dic]))
abbrev R : PySem.W.OpenRow := PySem.W.OpenLaw.row PySem.Challenge.rw_feeblind_k06_thinned_rows_of_trade_and_o
abbrev FA : List He.Fa := fa ++ FR.map He.Fa.free
abbrev TF : List He.Defn := lamD.map (·.1)
def EX (K : PySem.W.Frag) : Bool := (TB.tabs K).all fun p => (TB.tabs K).all fun q => !decide (p.1 = q.1) || decide (p.2 = q.2)
abbrev hk : PySem.W.Hook := He.hookX 4 FA fn [] TF EX
def ob (s : PySem.W.SharedT) : He.AlX := He.obsX 4 FA fn [] TF EX (HandSHeadRun.getT s)
theorem ob_eq (s : PySem.W.SharedT) : ob s = hk.obs s.abs := He.obsX_eq (HandSHeadRun.getT_eq s)
def loose : List PySem.Str := [("ChartError" : PySem.Str), ("BadName" : PySem.Str), ("BadMeasure" : PySem.Str), ("TakenName" : PySem.Str), ("LETTERS" : PySem.Str), ("LONGEST" : PySem.Str), ("is_name" : PySem.Str), ("is_number" : PySem.Str), ("Measure" : PySem.Str), ("_at_most" : PySem.Str), ("thin_rows" : PySem.Str), ("_within" : PySem.Str), ("_covers_in_order" : PySem.Str), ("covers" : PySem.Str), ("_by_price_and_size" : PySem.Str), ("thin_open" : PySem.Str), ("_is_open_row" : PySem.Str), ("Trade" : PySem.Str), ("Open" : PySem.Str), ("_law_bag" : PySem.Str), ("_law_draw" : PySem.Str), ("_law_of" : PySem.Str), ("_law_turned" : PySem.Str), ("_law_like" : PySem.Str), ("_law_thin" : PySem.Str), ("_law_over" : PySem.Str), ("_law_open" : PySem.Str), ("_law_some_rows" : PySem.Str), ("_law_lot" : PySem.Str), ("_law_some_lots" : PySem.Str), ("_law_thin_so" : PySem.Str), ("_law_covers_so" : PySem.Str)]
theorem run (w : World) : HandSHeadRun.RunEq R (PySem.W.view R.prog [37]) hk ob 6000 loose w := by
  intro os
  kernel_rfl
theorem facts {P : Program} {w : World} {K : PySem.W.Frag} {h : Heap} {mg : Str → Option Value} {f : Addr} (X : K.In h) (G : h.Ns mainGlobals mg) (hfa : mg ("law" : Str) = some (.ref f)) (c : He.SaysD FA fn K) (hu : ∀ p ∈ TB.tabs K, ∀ q ∈ TB.tabs K, p.1 = q.1 → p.2 = q.2) :
    ∃ fd : FuncData, (∀ (s : Shared) (v : Value), PySem.BindsTo s fd ⟨[v], []⟩ [("_law_script", v)]) ∧ ∀ base : Heap, K.In base → base.Ns mainGlobals mg → (∀ p ∈ CS K, LamX.TabB base mg p.1 p.2) → FnOk P w K mg base CX0 7 f fd ["_law_script"] (spOf K F_law) := by
  have E : LawEnv FR fa fn K mg := ⟨h, X, G, c⟩
  have e := hfa.symm.trans (E.glo 21 rfl)
  cases e
  obtain ⟨fd, Fd⟩ := E.def_ 25 (d := dd "law" 37 []) rfl
  have b := FunD.bindsA (ps := ["_law_script"]) Fd fun _ _ _ _ _ _ us hl => match us, hl with | [_], _ => rfl
  refine ⟨fd, fun s v => b s [v] rfl, fun base _ _ ht => ?_⟩
  obtain ⟨fd2, Fd2, F⟩ := ok_law (P := P) (w := w) (base := base) ⟨E, ht, hu⟩
  have : fd2 = fd := fun_uniq Fd2 Fd
  rw [← this]
  exact F
end K06
open PySem PySem.W PySem.Calls PyProof.Rows
theorem PySem.Challenge.cw_feeblind_k06_thinned_rows_of_trade_and_o_holds : PySem.Challenge.rw_feeblind_k06_thinned_rows_of_trade_and_o.Holds := by
  w_on; o_law
  refine HandSHeadRun.head_any (r := OpenLaw.row PySem.Challenge.rw_feeblind_k06_thinned_rows_of_trade_and_o) (q := view (OpenLaw.row PySem.Challenge.rw_feeblind_k06_thinned_rows_of_trade_and_o).prog [37]) (H := K06.hk) (ob := K06.ob) (M := 6000) (loose := K06.loose) (d := HandSHeadRun.topDef (OpenLaw.row PySem.Challenge.rw_feeblind_k06_thinned_rows_of_trade_and_o).prog 37) (kwd := []) K06.ob_eq
    (by kernel_rfl) (fun s => by kernel_rfl) K06.run (by kernel_rfl) (by kernel_rfl) (by kernel_rfl) (by rfl) (by first | assumption | decide +kernel) (by decide +kernel) ⟨rfl, rfl, rfl, rfl, rfl, by decide +kernel⟩ ?hw ?hc
  case hw => w_witness2
  case hc =>
    refine LamX.walk_ofTsE (l := PySem.Challenge.rw_feeblind_k06_thinned_rows_of_trade_and_o) (n := 63) (k := 7) (x := "_law_script") (CX := fun _ => L2.CX0) rfl (by decide) (by kernel_rfl) ⟨rfl, by decide, by decide⟩ ?F (fun _ _ _ _ _ z => z)
    intro w mg fa h Y G hmg0
    obtain ⟨K, KX, c⟩ := Y
    have hmg : mg ("law" : PySem.Str) = some (.ref fa) := by
      have e : (HandSHeadRun.topDef (OpenLaw.row PySem.Challenge.rw_feeblind_k06_thinned_rows_of_trade_and_o).prog 37).name = ("law" : PySem.Str) := by kernel_rfl
      rw [← e]
      exact hmg0
    exact DL.law_end (FR := K06.FR) (fa := K06.fa) (fn := K06.fn) (lamD := K06.lamD) (EX := K06.EX) KX c (fun p => rfl) rfl rfl (K06.facts (P := (PySem.Challenge.rw_feeblind_k06_thinned_rows_of_trade_and_o).prog) (w := w) KX G hmg c.t.d) (fun ns hl R hR => ⟨ns, rfl, hl, hR⟩)
