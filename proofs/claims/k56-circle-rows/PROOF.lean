import PyProof.Rows.All
import Wide.All
import OpenK.AllK
import Wide.FinOn
import HandS.ForMost
import HandS.Evl
import HandS.TupAny
import HandS.Zip
import HandS.Style
import HandS.Wide
import HandS.Gcd
import HandS.IsInst
import HandS.Defaults
import HandS.NoneIn
import PySem.Challenge.RW_onepassexact_k56_circle_rows_by_planted
set_option Elab.async false
set_option linter.all false
set_option maxRecDepth 100000
section Part0
set_option Elab.async false
set_option linter.all false
set_option maxRecDepth 100000
set_option maxHeartbeats 2000000
/-! The data layer: programs over plain data, with a few lists that a def owns and changes. -/
namespace DL
open PySem PySem.Spec PyProof.Rows L2 Evl

/-! ### data at a value -/
mutual
inductive Dq (K : PySem.W.Frag) (H : Hp) : V → PyData → Prop
  | non : Dq K H .non .none
  | bl (b : Bool) : Dq K H (.bl b) (.bool b)
  | int (i : Int) : Dq K H (.int i) (.int i)
  | str (x : Str) : Dq K H (.str x) (.str x)
  | lst {a : Addr} {xs : List V} {ds : List PyData} : H a = some (.lst xs) → DqA K H xs ds → Dq K H (.ref a) (.list ds)
  | tup {a : Addr} {xs : List V} {ds : List PyData} : SqT K H a xs → DqA K H xs ds → Dq K H (.ref a) (.tuple ds)
  /-- a list that is only read, wherever it stands: told by a mark of its own -/
  | scr {a : Addr} {xs : List V} {ds : List PyData} : SqL K H a xs → DqA K H xs ds → Dq K H (.ref a) (.dict [(.list ds, .none)])
inductive DqA (K : PySem.W.Frag) (H : Hp) : List V → List PyData → Prop
  | nil : DqA K H [] []
  | cons {v : V} {vs : List V} {d : PyData} {ds : List PyData} : Dq K H v d → DqA K H vs ds → DqA K H (v :: vs) (d :: ds)
end
section
variable {K : PySem.W.Frag} {H H' : Hp}
mutual
theorem Dq.mono (e : Ex H H') : ∀ {v : V} {d : PyData}, Dq K H v d → Dq K H' v d
  | _, _, .non => .non
  | _, _, .bl b => .bl b
  | _, _, .int i => .int i
  | _, _, .str x => .str x
  | _, _, .lst h a => .lst (e _ _ h) (DqA.mono e a)
  | _, _, .tup h a => .tup (ex_t e h) (DqA.mono e a)
  | _, _, .scr h a => .scr (ex_l e h) (DqA.mono e a)
theorem DqA.mono (e : Ex H H') : ∀ {vs : List V} {ds : List PyData}, DqA K H vs ds → DqA K H' vs ds
  | _, _, .nil => .nil
  | _, _, .cons h a => .cons (Dq.mono e h) (DqA.mono e a)
end
mutual
theorem Dq.dp : ∀ {v : V} {d : PyData}, Dq K H v d → PyData.canLay0 d = true → Dp K H v d
  | _, _, .non, _ => .non
  | _, _, .bl b, _ => .bl b
  | _, _, .int i, _ => .int i
  | _, _, .str x, _ => .str x
  | _, _, .lst h a, c => .lst (SqL.of h) (DqA.dp a (by simpa [PyData.canLay0] using c))
  | _, _, .tup h a, c => .tup h (DqA.dp a (by simpa [PyData.canLay0] using c))
  | _, _, .scr h a, c => by simp [PyData.canLay0] at c
theorem DqA.dp : ∀ {vs : List V} {ds : List PyData}, DqA K H vs ds → PyData.canLayAll0 ds = true → DpAll K H vs ds
  | _, _, .nil, _ => .nil
  | _, _, .cons h a, c => by
    have c' := Bool.and_eq_true_iff.mp (show (PyData.canLay0 _ && PyData.canLayAll0 _) = true by simpa [PyData.canLayAll0] using c)
    exact .cons (Dq.dp h c'.1) (DqA.dp a c'.2)
end
theorem DqA.length : ∀ {vs : List V} {ds : List PyData}, DqA K H vs ds → vs.length = ds.length
  | _, _, .nil => rfl
  | _, _, .cons _ a => congrArg Nat.succ (DqA.length a)
theorem DqA.get : ∀ {vs : List V} {ds : List PyData} {i : Nat} {d : PyData}, DqA K H vs ds → ds[i]? = some d → ∃ v, vs[i]? = some v ∧ Dq K H v d
  | _, _, _, _, .nil, e => by simp at e
  | _, _, 0, d, .cons h _, e => by
    have e' := Option.some.inj e
    subst e'
    exact ⟨_, rfl, h⟩
  | _, _, i + 1, d, .cons _ a, e => DqA.get (i := i) a (by simpa using e)
theorem DqA.get' : ∀ {vs : List V} {ds : List PyData} {i : Nat} {v : V}, DqA K H vs ds → vs[i]? = some v → ∃ d, ds[i]? = some d ∧ Dq K H v d
  | _, _, _, _, .nil, e => by simp at e
  | _, _, 0, d, .cons h _, e => by
    have e' := Option.some.inj e
    subst e'
    exact ⟨_, rfl, h⟩
  | _, _, i + 1, d, .cons _ a, e => DqA.get' (i := i) a (by simpa using e)
theorem DqA.append : ∀ {vs ws : List V} {ds es : List PyData}, DqA K H vs ds → DqA K H ws es → DqA K H (vs ++ ws) (ds ++ es)
  | _, _, _, _, .nil, b => b
  | _, _, _, _, .cons h a, b => .cons h (DqA.append a b)
theorem DqA.take : ∀ {vs : List V} {ds : List PyData} (n : Nat), DqA K H vs ds → DqA K H (vs.take n) (ds.take n)
  | _, _, 0, _ => .nil
  | _, _, _ + 1, .nil => .nil
  | _, _, n + 1, .cons h a => .cons h (DqA.take n a)
theorem DqA.drop : ∀ {vs : List V} {ds : List PyData} (n : Nat), DqA K H vs ds → DqA K H (vs.drop n) (ds.drop n)
  | _, _, 0, h => h
  | _, _, _ + 1, .nil => .nil
  | _, _, n + 1, .cons _ a => DqA.drop n a
theorem DqA.set {v : V} {d : PyData} (hv : Dq K H v d) : ∀ {vs : List V} {ds : List PyData} (n : Nat), DqA K H vs ds → DqA K H (vs.set n v) (ds.set n d)
  | _, _, _, .nil => .nil
  | _, _, 0, .cons _ a => .cons hv a
  | _, _, n + 1, .cons h a => .cons h (DqA.set hv n a)
theorem DqA.reverse : ∀ {vs : List V} {ds : List PyData}, DqA K H vs ds → DqA K H vs.reverse ds.reverse
  | _, _, .nil => .nil
  | _, _, .cons h a => by
    rw [List.reverse_cons, List.reverse_cons]
    exact DqA.append (DqA.reverse a) (.cons h .nil)
theorem DqA.replicate {vs : List V} {ds : List PyData} (h : DqA K H vs ds) : ∀ n : Nat, DqA K H (List.replicate n vs).flatten (List.replicate n ds).flatten
  | 0 => .nil
  | n + 1 => by
    rw [List.replicate_succ, List.replicate_succ, List.flatten_cons, List.flatten_cons]
    exact h.append (DqA.replicate h n)
theorem DqA.nil_iff {vs : List V} {ds : List PyData} (h : DqA K H vs ds) : vs = [] ↔ ds = [] := by
  cases h with
  | nil => simp
  | cons _ _ => simp
end
def sliceD (ds : List PyData) (lo hi : Option Int) : List PyData := (ds.drop (HT.sIx ds.length 0 lo)).take (HT.sIx ds.length ds.length hi - HT.sIx ds.length 0 lo)
theorem DqA.cut {K : PySem.W.Frag} {H : Hp} {vs : List V} {ds : List PyData} (h : DqA K H vs ds) (lo hi : Option Int) : DqA K H (cutV vs lo hi) (sliceD ds lo hi) := by
  unfold cutV sliceD
  rw [h.length]
  exact (h.drop _).take _
theorem atI_map {K : PySem.W.Frag} {H : Hp} {vs : List V} {ds : List PyData} {i : Int} {d : PyData} (h : DqA K H vs ds) (e : atI ds i = some d) : ∃ v, atI vs i = some v ∧ Dq K H v d := by
  unfold atI at e ⊢
  rw [h.length]
  cases q : ixN ds.length i with
  | none =>
    rw [q] at e
    cases e
  | some j =>
    rw [q] at e
    exact h.get (i := j) e
/-- the built-in class of data -/
def tyD : PyData → String
  | .none => "NoneType"
  | .bool _ => "bool"
  | .int _ => "int"
  | .str _ => "str"
  | .list _ => "list"
  | .tuple _ => "tuple"
  | .dict _ => "list"
theorem Dq.ty {K : PySem.W.Frag} {H : Hp} {v : V} {d : PyData} (h : Dq K H v d) : TyX K H v (.type (tyD d)) := by
  cases h with
  | non => exact .base .non
  | bl b => exact .base (.bl b)
  | int i => exact .base (.int i)
  | str x => exact .base (.str x)
  | lst e a => exact .base (.lst e)
  | tup e a =>
    rcases e with (e | ⟨o, e⟩) | ⟨o, its, n, e, c, _⟩
    · exact .base (.tup e)
    · exact .fTuple e
    · exact .kTuple e c
  | scr e a =>
    rcases e with (e | ⟨o, e⟩) | ⟨o, its, n, e, c, _⟩
    · exact .base (.lst e)
    · exact .base (.frz e)
    · exact .kList e c
/-- the mark of a list that is only read -/
@[reducible] def scrD (ds : List PyData) : PyData := .dict [(.list ds, .none)]

/-! ### the state -/
inductive Slot where
  | un
  | dat (d : PyData)
  /-- a list at p that nobody else holds; loc: made here -/
  | own (loc : Bool) (p : Addr) (ds : List PyData)
structure Entry where
  B : Hp
  H : Hp
  M : Addr → Prop
def SlotOk (K : PySem.W.Frag) (E : Entry) (B H : Hp) (o : Option V) : Slot → Prop
  | .un => True
  | .dat d => ∃ v, o = some v ∧ Dq K B v d
  | .own loc p ds => o = some (.ref p) ∧ (∃ xs, H p = some (.lst xs) ∧ DqA K B xs ds) ∧ B p = none ∧ (if loc = true then E.H p = none else E.M p)
structure Stt (K : PySem.W.Frag) (E : Entry) (B H : Hp) (σ : L2.St) (Γ : List Slot) : Prop where
  ex : Ex B H
  bx : Ex E.B B
  eb : Ex E.B E.H
  kp : ∀ a o, E.H a = some o → ¬ E.M a → H a = some o
  mm : ∀ a, E.M a → H a ≠ none
  fr : ∀ a, E.B a = none → E.H a ≠ none → B a = none
  len : σ.length = Γ.length
  sl : ∀ (i : Nat) (g : Slot), Γ[i]? = some g → ∃ o, σ[i]? = some o ∧ SlotOk K E B H o g
  ap : ∀ (i j : Nat) (p : Addr) (b c : Bool) (ds es : List PyData), i ≠ j → Γ[i]? = some (.own b p ds) → Γ[j]? = some (.own c p es) → False
section
variable {K : PySem.W.Frag} {E : Entry} {B H B' H' : Hp} {σ : L2.St} {Γ Γ' : List Slot}
theorem SlotOk.mono {o : Option V} {g : Slot} (h : SlotOk K E B H o g) (b : Ex B B') (hh : ∀ a x, H a = some x → H' a = some x) (f : ∀ a, B a = none → H a ≠ none → B' a = none) : SlotOk K E B' H' o g := by
  cases g with
  | un => exact h
  | dat d =>
    obtain ⟨v, e, q⟩ := h
    exact ⟨v, e, q.mono b⟩
  | own loc p ds =>
    obtain ⟨e, ⟨xs, q1, q2⟩, q3, q4⟩ := h
    exact ⟨e, ⟨xs, hh _ _ q1, q2.mono b⟩, f p q3 (by rw [q1]; intro z; cases z), q4⟩
/-- what was known is kept, new objects may stand -/
theorem Stt.grow (s : Stt K E B H σ Γ) (hh : Ex H H') (b : Ex B B') (bh : Ex B' H') (f : ∀ a, B a = none → H a ≠ none → B' a = none) : Stt K E B' H' σ Γ where
  ex := bh
  bx := s.bx.trans b
  eb := s.eb
  kp := fun a o e m => hh a o (s.kp a o e m)
  mm := fun a m z => by
    cases q : H a with
    | none => exact s.mm a m q
    | some o =>
      rw [hh a o q] at z
      cases z
  fr := fun a e1 e2 => by
    have hb := s.fr a e1 e2
    refine f a hb fun z => ?_
    by_cases m : E.M a
    · exact s.mm a m z
    · cases q : E.H a with
      | none => exact e2 q
      | some o =>
        rw [s.kp a o q m] at z
        cases z
  len := s.len
  sl := fun i g e => by
    obtain ⟨o, h1, h2⟩ := s.sl i g e
    exact ⟨o, h1, h2.mono b hh f⟩
  ap := s.ap
theorem Stt.alloc (s : Stt K E B H σ Γ) {p : Addr} {o : HO} (h : H p = none) : Stt K E (upd B p o) (upd H p o) σ Γ := by
  have hb : B p = none := fresh_back s.ex h
  refine s.grow (Ex.new h) (Ex.new hb) (fun a u e => ?_) (fun a e1 e2 => ?_)
  · by_cases q : a = p
    · subst q
      rw [upd_same] at e ⊢
      exact e
    · rw [upd_ne q] at e ⊢
      exact s.ex a u e
  · have q : a ≠ p := fun z => e2 (by rw [z]; exact h)
    rw [upd_ne q]
    exact e1
/-- a new object that stays out of the data -/
theorem Stt.allocO (s : Stt K E B H σ Γ) {p : Addr} {o : HO} (h : H p = none) : Stt K E B (upd H p o) σ Γ :=
  s.grow (Ex.new h) (Ex.refl B) (s.ex.trans (Ex.new h)) (fun _ e _ => e)
theorem Stt.get (s : Stt K E B H σ Γ) {i : Nat} {d : PyData} (e : Γ[i]? = some (.dat d)) : ∃ v, σ[i]? = some (some v) ∧ Dq K B v d := by
  obtain ⟨o, h1, v, h2, h3⟩ := s.sl i _ e
  exact ⟨v, by rw [h1, h2], h3⟩
theorem Stt.getO (s : Stt K E B H σ Γ) {i : Nat} {b : Bool} {p : Addr} {ds : List PyData} (e : Γ[i]? = some (.own b p ds)) : σ[i]? = some (some (.ref p)) ∧ (∃ xs, H p = some (.lst xs) ∧ DqA K B xs ds) ∧ B p = none ∧ (if b = true then E.H p = none else E.M p) := by
  obtain ⟨o, h1, h2, h3⟩ := s.sl i _ e
  exact ⟨by rw [h1, h2], h3⟩
theorem Stt.set (s : Stt K E B H σ Γ) {i : Nat} {v : V} {d : PyData} (h : Dq K B v d) : Stt K E B H (σ.set i (some v)) (Γ.set i (.dat d)) where
  ex := s.ex
  bx := s.bx
  eb := s.eb
  kp := s.kp
  mm := s.mm
  fr := s.fr
  len := by rw [List.length_set, List.length_set, s.len]
  sl := fun j g e => by
    by_cases q : i = j
    · subst q
      have hlt : i < Γ.length := by
        have := (List.getElem?_eq_some_iff.mp e).1
        rw [List.length_set] at this
        exact this
      rw [List.getElem?_set_self hlt] at e
      cases e
      exact ⟨some v, List.getElem?_set_self (by rw [s.len]; exact hlt), v, rfl, h⟩
    · rw [List.getElem?_set_ne q] at e
      obtain ⟨o, h1, h2⟩ := s.sl j g e
      exact ⟨o, by rw [List.getElem?_set_ne q]; exact h1, h2⟩
  ap := fun a c p b1 b2 ds es ne e1 e2 => by
    have ka : i ≠ a := fun z => by
      subst z
      have hlt : i < Γ.length := by
        have := (List.getElem?_eq_some_iff.mp e1).1
        rw [List.length_set] at this
        exact this
      rw [List.getElem?_set_self hlt] at e1
      cases e1
    have kc : i ≠ c := fun z => by
      subst z
      have hlt : i < Γ.length := by
        have := (List.getElem?_eq_some_iff.mp e2).1
        rw [List.length_set] at this
        exact this
      rw [List.getElem?_set_self hlt] at e2
      cases e2
    rw [List.getElem?_set_ne ka] at e1
    rw [List.getElem?_set_ne kc] at e2
    exact s.ap a c p b1 b2 ds es ne e1 e2
/-- a slot holds a new list -/
theorem Stt.setO (s : Stt K E B H σ Γ) {i : Nat} {p : Addr} {xs : List V} {ds : List PyData} (h1 : H p = some (.lst xs)) (h2 : DqA K B xs ds) (h3 : B p = none) (h4 : E.H p = none) (h5 : ∀ (j : Nat) (b : Bool) (es : List PyData), Γ[j]? = some (.own b p es) → False) :
    Stt K E B H (σ.set i (some (.ref p))) (Γ.set i (.own true p ds)) where
  ex := s.ex
  bx := s.bx
  eb := s.eb
  kp := s.kp
  mm := s.mm
  fr := s.fr
  len := by rw [List.length_set, List.length_set, s.len]
  sl := fun j g e => by
    by_cases q : i = j
    · subst q
      have hlt : i < Γ.length := by
        have := (List.getElem?_eq_some_iff.mp e).1
        rw [List.length_set] at this
        exact this
      rw [List.getElem?_set_self hlt] at e
      cases e
      exact ⟨some (.ref p), List.getElem?_set_self (by rw [s.len]; exact hlt), rfl, ⟨xs, h1, h2⟩, h3, by rw [if_pos rfl]; exact h4⟩
    · rw [List.getElem?_set_ne q] at e
      obtain ⟨o, k1, k2⟩ := s.sl j g e
      exact ⟨o, by rw [List.getElem?_set_ne q]; exact k1, k2⟩
  ap := fun a c p' b1 b2 ds' es ne e1 e2 => by
    by_cases ka : i = a
    · subst ka
      have hlt : i < Γ.length := by
        have := (List.getElem?_eq_some_iff.mp e1).1
        rw [List.length_set] at this
        exact this
      rw [List.getElem?_set_self hlt] at e1
      cases e1
      rw [List.getElem?_set_ne ne] at e2
      exact h5 c _ _ e2
    · rw [List.getElem?_set_ne ka] at e1
      by_cases kc : i = c
      · subst kc
        have hlt : i < Γ.length := by
          have := (List.getElem?_eq_some_iff.mp e2).1
          rw [List.length_set] at this
          exact this
        rw [List.getElem?_set_self hlt] at e2
        cases e2
        exact h5 a _ _ e1
      · rw [List.getElem?_set_ne kc] at e2
        exact s.ap a c p' b1 b2 ds' es ne e1 e2
/-- an own list is changed -/
theorem Stt.mut (s : Stt K E B H σ Γ) {i : Nat} {b : Bool} {p : Addr} {ds es : List PyData} {ys : List V} (e : Γ[i]? = some (.own b p ds)) (h : DqA K B ys es) : Stt K E B (upd H p (.lst ys)) σ (Γ.set i (.own b p es)) := by
  obtain ⟨g1, ⟨xs, g2, g3⟩, g4, g5⟩ := s.getO e
  have hi : i < Γ.length := (List.getElem?_eq_some_iff.mp e).1
  have hM : E.H p = none ∨ E.M p := by
    cases b with
    | true => exact .inl g5
    | false => exact .inr g5
  refine ⟨fun a o q => ?_, s.bx, s.eb, fun a o q m => ?_, fun a m z => ?_, s.fr, by rw [List.length_set, s.len], fun j g q => ?_, fun a c p' b1 b2 ds' es' ne e1 e2 => ?_⟩
  · have ne : a ≠ p := ne_of_none q g4
    rw [upd_ne ne]
    exact s.ex a o q
  · have ne : a ≠ p := fun z => by
      subst z
      rcases hM with z | z
      · rw [z] at q
        cases q
      · exact m z
    rw [upd_ne ne]
    exact s.kp a o q m
  · by_cases ne : a = p
    · subst ne
      rw [upd_same] at z
      cases z
    · rw [upd_ne ne] at z
      exact s.mm a m z
  · by_cases q' : i = j
    · subst q'
      rw [List.getElem?_set_self hi] at q
      cases q
      exact ⟨some (.ref p), g1, rfl, ⟨ys, upd_same, h⟩, g4, g5⟩
    · rw [List.getElem?_set_ne q'] at q
      obtain ⟨o, k1, k2⟩ := s.sl j g q
      refine ⟨o, k1, ?_⟩
      cases g with
      | un => exact k2
      | dat d => exact k2
      | own c p' ds' =>
        obtain ⟨m1, ⟨zs, m2, m3⟩, m4, m5⟩ := k2
        have ne : p' ≠ p := fun z => by
          subst z
          exact s.ap i j p' b c ds ds' q' e q
        exact ⟨m1, ⟨zs, by rw [upd_ne ne]; exact m2, m3⟩, m4, m5⟩
  · have key : ∀ (k : Nat) (b' : Bool) (p'' : Addr) (fs : List PyData), (Γ.set i (.own b p es))[k]? = some (.own b' p'' fs) → ∃ b'' fs', Γ[k]? = some (.own b'' p'' fs') := fun k b' p'' fs q => by
      by_cases q' : i = k
      · subst q'
        rw [List.getElem?_set_self hi] at q
        cases q
        exact ⟨b, ds, e⟩
      · rw [List.getElem?_set_ne q'] at q
        exact ⟨_, _, q⟩
    obtain ⟨_, _, k1⟩ := key a _ _ _ e1
    obtain ⟨_, _, k2⟩ := key c _ _ _ e2
    exact s.ap a c p' _ _ _ _ ne k1 k2
/-- an own list becomes data -/
theorem Stt.freeze (s : Stt K E B H σ Γ) {i : Nat} {p : Addr} {ds : List PyData} (e : Γ[i]? = some (.own true p ds)) : ∃ B', Ex B B' ∧ Stt K E B' H σ (Γ.set i (.dat (.list ds))) := by
  obtain ⟨g1, ⟨xs, g2, g3⟩, g4, g5⟩ := s.getO e
  have hi : i < Γ.length := (List.getElem?_eq_some_iff.mp e).1
  have g5 : E.H p = none := g5
  have bx : Ex B (upd B p (.lst xs)) := Ex.new g4
  refine ⟨upd B p (.lst xs), bx, fun a o q => ?_, s.bx.trans bx, s.eb, s.kp, s.mm, fun a e1 e2 => ?_, by rw [List.length_set, s.len], fun j g q => ?_, fun a c p' b1 b2 ds' es' ne e1 e2 => ?_⟩
  · by_cases ne : a = p
    · subst ne
      rw [upd_same] at q
      cases q
      exact g2
    · rw [upd_ne ne] at q
      exact s.ex a o q
  · have ne : a ≠ p := fun z => by
      subst z
      exact e2 g5
    rw [upd_ne ne]
    exact s.fr a e1 e2
  · by_cases q' : i = j
    · subst q'
      rw [List.getElem?_set_self hi] at q
      cases q
      exact ⟨some (.ref p), g1, .ref p, rfl, .lst upd_same (g3.mono bx)⟩
    · rw [List.getElem?_set_ne q'] at q
      obtain ⟨o, k1, k2⟩ := s.sl j g q
      refine ⟨o, k1, ?_⟩
      cases g with
      | un => exact k2
      | dat d =>
        obtain ⟨v, m1, m2⟩ := k2
        exact ⟨v, m1, m2.mono bx⟩
      | own c p' ds' =>
        obtain ⟨m1, ⟨zs, m2, m3⟩, m4, m5⟩ := k2
        have ne : p' ≠ p := fun z => by
          subst z
          exact s.ap i j p' true c ds ds' q' e q
        exact ⟨m1, ⟨zs, m2, m3.mono bx⟩, by rw [upd_ne ne]; exact m4, m5⟩
  · have key : ∀ (k : Nat) (b' : Bool) (p'' : Addr) (fs : List PyData), (Γ.set i (.dat (.list ds)))[k]? = some (.own b' p'' fs) → Γ[k]? = some (.own b' p'' fs) := fun k b' p'' fs q => by
      by_cases q' : i = k
      · subst q'
        rw [List.getElem?_set_self hi] at q
        cases q
      · rw [List.getElem?_set_ne q'] at q
        exact q
    exact s.ap a c p' _ _ _ _ ne (key a _ _ _ e1) (key c _ _ _ e2)
/-- slots forgotten -/
theorem Stt.wipe1 (s : Stt K E B H σ Γ) (i : Nat) : Stt K E B H (σ.set i none) (Γ.set i .un) where
  ex := s.ex
  bx := s.bx
  eb := s.eb
  kp := s.kp
  mm := s.mm
  fr := s.fr
  len := by rw [List.length_set, List.length_set, s.len]
  sl := fun j g e => by
    by_cases q : i = j
    · subst q
      have hlt : i < Γ.length := by
        have := (List.getElem?_eq_some_iff.mp e).1
        rw [List.length_set] at this
        exact this
      rw [List.getElem?_set_self hlt] at e
      cases e
      exact ⟨none, List.getElem?_set_self (by rw [s.len]; exact hlt), True.intro⟩
    · rw [List.getElem?_set_ne q] at e
      obtain ⟨o, h1, h2⟩ := s.sl j g e
      exact ⟨o, by rw [List.getElem?_set_ne q]; exact h1, h2⟩
  ap := fun a c p b1 b2 ds es ne e1 e2 => by
    have key : ∀ (k : Nat) (b' : Bool) (fs : List PyData), (Γ.set i .un)[k]? = some (.own b' p fs) → Γ[k]? = some (.own b' p fs) := fun k b' fs q => by
      by_cases q' : i = k
      · subst q'
        have hlt : i < Γ.length := by
          have := (List.getElem?_eq_some_iff.mp q).1
          rw [List.length_set] at this
          exact this
        rw [List.getElem?_set_self hlt] at q
        cases q
      · rw [List.getElem?_set_ne q'] at q
        exact q
    exact s.ap a c p _ _ _ _ ne (key a _ _ e1) (key c _ _ e2)
def wipeG (Γ : List Slot) : List Nat → List Slot
  | [] => Γ
  | v :: vs => (wipeG Γ vs).set v .un
theorem Stt.wipe (s : Stt K E B H σ Γ) : ∀ vs : List Nat, Stt K E B H (wipe σ vs) (wipeG Γ vs)
  | [] => s
  | v :: vs => (Stt.wipe s vs).wipe1 v
/-- without what is said of own slots, other slots -/
theorem Stt.weak (s : Stt K E B H σ Γ) (hl : Γ'.length = Γ.length) (h : ∀ (i : Nat) g, Γ'[i]? = some g → g = .un ∨ Γ[i]? = some g) : Stt K E B H σ Γ' where
  ex := s.ex
  bx := s.bx
  eb := s.eb
  kp := s.kp
  mm := s.mm
  fr := s.fr
  len := by rw [s.len, hl]
  sl := fun i g e => by
    rcases h i g e with q | q
    · subst q
      have hlt : i < σ.length := by
        rw [s.len, ← hl]
        exact (List.getElem?_eq_some_iff.mp e).1
      exact ⟨σ[i], List.getElem?_eq_getElem hlt, True.intro⟩
    · exact s.sl i g q
  ap := fun a c p b1 b2 ds es ne e1 e2 => by
    rcases h a _ e1 with q | q
    · cases q
    · rcases h c _ e2 with r | r
      · cases r
      · exact s.ap a c p _ _ _ _ ne q r
end
end DL
end Part0

section Part1
set_option Elab.async false
set_option linter.all false
set_option maxRecDepth 100000
set_option maxHeartbeats 2000000
namespace DL
open PySem PySem.Spec PyProof.Rows L2
open Evl (Ex ex_rd ex_l ex_t fresh_back)

/-! ### what an expression is worth -/
def EvX (K : PySem.W.Frag) (te : TE) (Γ : List Slot) (d : PyData) (Γ' : List Slot) : Prop :=
  ∀ (E : Entry) (σ : L2.St) (B H : Hp), Stt K E B H σ Γ → ∀ Q : VK, (∀ v B' H', Ex B B' → Stt K E B' H' σ Γ' → Dq K B' v d → Q v H') → te σ H Q
def EvA (K : PySem.W.Frag) (ta : TA) (Γ : List Slot) (ds : List PyData) (Γ' : List Slot) : Prop :=
  ∀ (E : Entry) (σ : L2.St) (B H : Hp), Stt K E B H σ Γ → ∀ Q : List V → Hp → Prop, (∀ vs B' H', Ex B B' → Stt K E B' H' σ Γ' → DqA K B' vs ds → Q vs H') → ta σ H Q
def EvB (K : PySem.W.Frag) (tt : TT) (Γ : List Slot) (b : Bool) (Γ' : List Slot) : Prop :=
  ∀ (E : Entry) (σ : L2.St) (B H : Hp), Stt K E B H σ Γ → ∀ Q : Bool → Hp → Prop, (∀ B' H', Ex B B' → Stt K E B' H' σ Γ' → Q b H') → tt σ H Q
def EvO (K : PySem.W.Frag) (to : TO) (Γ : List Slot) (o : Option Int) (Γ' : List Slot) : Prop :=
  ∀ (E : Entry) (σ : L2.St) (B H : Hp), Stt K E B H σ Γ → ∀ Q : Option Int → Hp → Prop, (∀ B' H', Ex B B' → Stt K E B' H' σ Γ' → Q o H') → to σ H Q
/-- a new list that nobody else holds -/
def EvN (K : PySem.W.Frag) (te : TE) (Γ : List Slot) (ds : List PyData) (Γ' : List Slot) : Prop :=
  ∀ (E : Entry) (σ : L2.St) (B H : Hp), Stt K E B H σ Γ → ∀ Q : VK, (∀ p xs B' H', Ex B B' → Stt K E B' H' σ Γ' → B' p = none → E.H p = none → (∀ (j : Nat) (b : Bool) (es : List PyData), Γ'[j]? = some (.own b p es) → False) → H' p = some (.lst xs) → DqA K B' xs ds → Q (.ref p) H') → te σ H Q
/-- operations by values -/
def RV (K : PySem.W.Frag) (r : R2) (d1 d2 d : PyData) : Prop :=
  ∀ (E : Entry) (σ : L2.St) (Γ : List Slot) (B H : Hp) (x y : V), Stt K E B H σ Γ → Dq K B x d1 → Dq K B y d2 → ∀ Q : VK, (∀ v B' H', Ex B B' → Stt K E B' H' σ Γ → Dq K B' v d → Q v H') → r x y H Q
def RC (K : PySem.W.Frag) (r : List V → Hp → VK → Prop) (ds : List PyData) (d : PyData) : Prop :=
  ∀ (E : Entry) (σ : L2.St) (Γ : List Slot) (B H : Hp) (vs : List V), Stt K E B H σ Γ → DqA K B vs ds → ∀ Q : VK, (∀ v B' H', Ex B B' → Stt K E B' H' σ Γ → Dq K B' v d → Q v H') → r vs H Q
section
variable {K : PySem.W.Frag} {Γ Γ1 Γ2 Γ3 : List Slot} {ta tb te tc : TE} {d d1 d2 : PyData} {r r' : R2} {i j : Int}
theorem Stt.newH {E : Entry} {B H : Hp} {σ : L2.St} (s : Stt K E B H σ Γ) {p : Addr} (h : H p = none) : E.H p = none := by
  cases q : E.H p with
  | none => rfl
  | some o =>
    by_cases m : E.M p
    · exact absurd h (s.mm p m)
    · rw [s.kp p o q m] at h
      cases h
theorem ev_var {i : Nat} (e : Γ[i]? = some (.dat d)) : EvX K (tVar i) Γ d Γ := fun E σ B H s Q q => by
  obtain ⟨v, h1, h2⟩ := s.get e
  exact ⟨v, h1, q v B H (Ex.refl B) s h2⟩
theorem ev_k {v : V} (h : ∀ B, Dq K B v d) : EvX K (tC v) Γ d Γ := fun E σ B H s Q q => q v B H (Ex.refl B) s (h B)
theorem ev_int : EvX K (tC (.int i)) Γ (.int i) Γ := ev_k fun _ => .int i
theorem ev_bl {b : Bool} : EvX K (tC (.bl b)) Γ (.bool b) Γ := ev_k fun _ => .bl b
theorem ev_non : EvX K (tC .non) Γ .none Γ := ev_k fun _ => .non
theorem ev_str {x : Str} : EvX K (tC (.str x)) Γ (.str x) Γ := ev_k fun _ => .str x
theorem ev_op (ha : EvX K ta Γ d1 Γ1) (hb : EvX K tb Γ1 d2 Γ2) (hr : RV K r d1 d2 d) : EvX K (tOp r ta tb) Γ d Γ2 := fun E σ B H s Q q =>
  ha E σ B H s _ fun x B1 H1 e1 s1 x1 => hb E σ B1 H1 s1 _ fun y B2 H2 e2 s2 y2 => hr E σ Γ2 B2 H2 x y s2 (x1.mono e2) y2 Q fun v B3 H3 e3 s3 v3 => q v B3 H3 (e1.trans (e2.trans e3)) s3 v3
theorem ev_is {d' : PyData} (h : EvX K te Γ d Γ1) (e : d = d') : EvX K te Γ d' Γ1 := by
  rw [← e]
  exact h
theorem rv_l (h : RV K r d1 d2 d) : RV K (fun x y H Q => r x y H Q ∨ r' x y H Q) d1 d2 d := fun E σ Γ B H x y s hx hy Q q => .inl (h E σ Γ B H x y s hx hy Q q)
theorem rv_r (h : RV K r' d1 d2 d) : RV K (fun x y H Q => r x y H Q ∨ r' x y H Q) d1 d2 d := fun E σ Γ B H x y s hx hy Q q => .inr (h E σ Γ B H x y s hx hy Q q)
theorem rv_I {C : Int → Int → Prop} {g : Int → Int → V} (h : C i j) (hg : ∀ B, Dq K B (g i j) d) : RV K (rI C g) (.int i) (.int j) d := fun E σ Γ B H x y s hx hy Q q => by
  cases hx
  cases hy
  exact ⟨i, j, rfl, rfl, h, q _ B H (Ex.refl B) s (hg B)⟩
theorem rv_I0 {g : Int → Int → V} (hg : ∀ B, Dq K B (g i j) d) : RV K (rI0 g) (.int i) (.int j) d := fun E σ Γ B H x y s hx hy Q q => by
  cases hx
  cases hy
  exact ⟨i, j, rfl, rfl, q _ B H (Ex.refl B) s (hg B)⟩
theorem rv_lt : RV K (rI0 fun i j => .bl (decide (i < j))) (.int i) (.int j) (.bool (decide (i < j))) := rv_I0 fun _ => .bl _
theorem rv_le : RV K (rI0 fun i j => .bl (decide (i ≤ j))) (.int i) (.int j) (.bool (decide (i ≤ j))) := rv_I0 fun _ => .bl _
theorem rv_gt : RV K (rI0 fun i j => .bl (decide (j < i))) (.int i) (.int j) (.bool (decide (j < i))) := rv_I0 fun _ => .bl _
theorem rv_ge : RV K (rI0 fun i j => .bl (decide (j ≤ i))) (.int i) (.int j) (.bool (decide (j ≤ i))) := rv_I0 fun _ => .bl _
theorem rv_sub : RV K (rI0 fun i j => .int (i - j)) (.int i) (.int j) (.int (i - j)) := rv_I0 fun _ => .int _
theorem rv_eq (h1 : SeqAt.shaped d1 = true) (h2 : SeqAt.shaped d2 = true) : RV K (rEqD K) d1 d2 (.bool (PyData.eqv d1 d2)) := fun E σ Γ B H x y s hx hy Q q =>
  ⟨d1, d2, (hx.mono s.ex).dp (SeqAt.canLay_of_shaped h1), (hy.mono s.ex).dp (SeqAt.canLay_of_shaped h2), h1, h2, q _ B H (Ex.refl B) s (.bl _)⟩
theorem rv_ne (h1 : SeqAt.shaped d1 = true) (h2 : SeqAt.shaped d2 = true) : RV K (rNeD K) d1 d2 (.bool (!PyData.eqv d1 d2)) := fun E σ Γ B H x y s hx hy Q q =>
  ⟨d1, d2, (hx.mono s.ex).dp (SeqAt.canLay_of_shaped h1), (hy.mono s.ex).dp (SeqAt.canLay_of_shaped h2), h1, h2, q _ B H (Ex.refl B) s (.bl _)⟩
def isNon : PyData → Bool
  | .none => true
  | _ => false
theorem Dq.non_iff {H : Hp} {v : V} (h : Dq K H v d) : decide (v = .non) = isNon d := by
  cases h <;> first | rfl | (refine decide_eq_false ?_; intro z; cases z)
theorem rv_isN : RV K (fun x y H Q => y = .non ∧ Q (.bl (decide (x = .non))) H) d1 .none (.bool (isNon d1)) := fun E σ Γ B H x y s hx hy Q q => by
  cases hy
  refine ⟨rfl, ?_⟩
  rw [hx.non_iff]
  exact q _ B H (Ex.refl B) s (.bl _)
theorem rv_notN : RV K (fun x y H Q => y = .non ∧ Q (.bl (!decide (x = .non))) H) d1 .none (.bool (!isNon d1)) := fun E σ Γ B H x y s hx hy Q q => by
  cases hy
  refine ⟨rfl, ?_⟩
  rw [hx.non_iff]
  exact q _ B H (Ex.refl B) s (.bl _)
theorem rv_isB {a b : Bool} : RV K rIsB (.bool a) (.bool b) (.bool (decide (a = b))) := fun E σ Γ B H x y s hx hy Q q => by
  cases hx
  cases hy
  exact ⟨a, b, rfl, rfl, q _ B H (Ex.refl B) s (.bl _)⟩
theorem rv_notB {a b : Bool} : RV K rNotB (.bool a) (.bool b) (.bool (!decide (a = b))) := fun E σ Γ B H x y s hx hy Q q => by
  cases hx
  cases hy
  exact ⟨a, b, rfl, rfl, q _ B H (Ex.refl B) s (.bl _)⟩

/-! ### + * // -/
def rPlus (K : PySem.W.Frag) : R2 := fun x y H Q => rI0 (fun i j => .int (i + j)) x y H Q ∨ (rCatA K x y H Q ∨ rCat x y H Q)
theorem op_plus {X : Cx} : OpR X (binaryOp .Add) (rPlus X.K) := op_add.or (op_catA.or op_cat)
theorem rv_add : RV K (rPlus K) (.int i) (.int j) (.int (i + j)) := rv_l (rv_I0 fun _ => .int _)
theorem new_tup {E : Entry} {σ : L2.St} {B H : Hp} {xs : List V} {ds : List PyData} {Q : VK} (s : Stt K E B H σ Γ) (h : DqA K B xs ds) (q : ∀ v B' H', Ex B B' → Stt K E B' H' σ Γ → Dq K B' v (.tuple ds) → Q v H') :
    ∀ p, H p = none → Q (.ref p) (upd H p (.tup xs)) := fun p hp =>
  q _ (upd B p (.tup xs)) _ (Ex.new (fresh_back s.ex hp)) (s.alloc hp) (.tup (SqT.of upd_same) (h.mono (Ex.new (fresh_back s.ex hp))))
theorem new_lst {E : Entry} {σ : L2.St} {B H : Hp} {xs : List V} {ds : List PyData} {Q : VK} (s : Stt K E B H σ Γ) (h : DqA K B xs ds) (q : ∀ v B' H', Ex B B' → Stt K E B' H' σ Γ → Dq K B' v (.list ds) → Q v H') :
    ∀ p, H p = none → Q (.ref p) (upd H p (.lst xs)) := fun p hp =>
  q _ (upd B p (.lst xs)) _ (Ex.new (fresh_back s.ex hp)) (s.alloc hp) (.lst upd_same (h.mono (Ex.new (fresh_back s.ex hp))))
theorem sz5 {n : Nat} (h : n ≤ 100000) : n ≤ sizeLine := Nat.le_trans h (by decide)
theorem rv_catT {xs ys : List PyData} (h : xs.length + ys.length ≤ 100000) : RV K (rPlus K) (.tuple xs) (.tuple ys) (.tuple (xs ++ ys)) := fun E σ Γ B H x y s hx hy Q q => by
  cases hx with
  | tup ha hxs =>
    cases hy with
    | tup hb hys =>
      rename_i a us b ws
      refine .inr (.inl ⟨a, b, us, ws, rfl, rfl, ex_t s.ex ha, ex_t s.ex hb, ?_, fun e => ?_, fun _ e => ?_, fun _ _ => new_tup s (hxs.append hys) q⟩)
      · rw [hxs.length, hys.length]
        exact sz5 h
      · have e' := hxs.nil_iff.mp e
        subst e'
        exact q _ B H (Ex.refl B) s (.tup hb hys)
      · have e' := hys.nil_iff.mp e
        subst e'
        rw [List.append_nil] at q
        exact q _ B H (Ex.refl B) s (.tup ha hxs)
theorem rv_catL {xs ys : List PyData} (h : xs.length + ys.length ≤ 100000) : RV K (rPlus K) (.list xs) (.list ys) (.list (xs ++ ys)) := fun E σ Γ B H x y s hx hy Q q => by
  cases hx with
  | lst ha hxs =>
    cases hy with
    | lst hb hys =>
      rename_i a us b ws
      refine .inr (.inr ⟨a, b, us, ws, rfl, rfl, s.ex _ _ ha, s.ex _ _ hb, ?_, new_lst s (hxs.append hys) q⟩)
      rw [hxs.length, hys.length]
      exact sz5 h
def rMulX : R2 := fun x y H Q => rI CMulW (fun i j => .int (i * j)) x y H Q ∨ rRep x y H Q
theorem op_mulX {X : Cx} : OpR X (binaryOp .Mult) rMulX := op_mulW.or op_rep
theorem rv_mul (h : CMulW i j) : RV K rMulX (.int i) (.int j) (.int (i * j)) := rv_l (rv_I h fun _ => .int _)
theorem rv_rep {xs : List PyData} (h0 : -1000 ≤ j ∧ j ≤ 1000) (h : xs.length * j.toNat ≤ 100000) : RV K rMulX (.list xs) (.int j) (.list (List.replicate j.toNat xs).flatten) := fun E σ Γ B H x y s hx hy Q q => by
  cases hx with
  | lst ha hxs =>
    cases hy
    rename_i a us
    refine .inr ⟨a, j, us, rfl, rfl, s.ex _ _ ha, by omega, by omega, ?_, new_lst s (hxs.replicate j.toNat) q⟩
    rw [hxs.length]
    exact sz5 h
/-- // by what is not 0, where the division is no case of _pylong -/
def CFd (i j : Int) : Prop := j ≠ 0 ∧ Builtin.divisionGoesByPylong i j = false
theorem op_fdX {X : Cx} : OpR X (binaryOp .FloorDiv) (rI CFd fun i j => .int (i.fdiv j)) := opI fun _ _ _ _ _ _ _ hc q => floordiv_int hc.1 q (.inl hc.2)
theorem rv_fd (h : CFd i j) : RV K (rI CFd fun i j => .int (i.fdiv j)) (.int i) (.int j) (.int (i.fdiv j)) := rv_I h fun _ => .int _
theorem rv_mod (h : j ≠ 0) : RV K (rI (fun _ j => j ≠ 0) fun i j => .int (i.fmod j)) (.int i) (.int j) (.int (i.fmod j)) := rv_I h fun _ => .int _
theorem rv_pow (h : CPow i j) : RV K (rI CPow fun i j => .int (i ^ j.toNat)) (.int i) (.int j) (.int (i ^ j.toNat)) := rv_I h fun _ => .int _
theorem rv_shl (h : CPow i j) : RV K (rI CPow fun i j => .int (i * 2 ^ j.toNat)) (.int i) (.int j) (.int (i * 2 ^ j.toNat)) := rv_I h fun _ => .int _

/-! ### subscripts -/
theorem rv_ixT {xs : List PyData} (h : atI xs i = some d) : RV K (rIx K) (.tuple xs) (.int i) d := fun E σ Γ B H x y s hx hy Q q => by
  cases hx with
  | tup ha hxs =>
    cases hy
    rename_i a us
    obtain ⟨v, h1, h2⟩ := atI_map hxs h
    exact .inr (.inl ⟨a, us, i, v, rfl, rfl, ex_t s.ex ha, h1, q v B H (Ex.refl B) s h2⟩)
theorem rv_ixL {xs : List PyData} (h : atI xs i = some d) : RV K (rIx K) (.list xs) (.int i) d := fun E σ Γ B H x y s hx hy Q q => by
  cases hx with
  | lst ha hxs =>
    cases hy
    rename_i a us
    obtain ⟨v, h1, h2⟩ := atI_map hxs h
    exact .inl ⟨a, us, i, v, rfl, rfl, SqL.of (s.ex _ _ ha), h1, q v B H (Ex.refl B) s h2⟩
theorem rv_ixS {xs : List PyData} (h : atI xs i = some d) : RV K (rIx K) (scrD xs) (.int i) d := fun E σ Γ B H x y s hx hy Q q => by
  cases hx with
  | scr ha hxs =>
    cases hy
    rename_i a us
    obtain ⟨v, h1, h2⟩ := atI_map hxs h
    exact .inl ⟨a, us, i, v, rfl, rfl, ex_l s.ex ha, h1, q v B H (Ex.refl B) s h2⟩
/-- of an own list -/
theorem ev_ixO {n : Nat} {b : Bool} {p : Addr} {xs : List PyData} (e : Γ[n]? = some (.own b p xs)) (hb : EvX K tb Γ (.int i) Γ1) (e1 : Γ1[n]? = some (.own b p xs)) (h : atI xs i = some d) : EvX K (tOp (rIx K) (tVar n) tb) Γ d Γ1 := fun E σ B H s Q q => by
  obtain ⟨g1, _⟩ := s.getO e
  refine ⟨.ref p, g1, hb E σ B H s _ fun y B1 H1 x1 s1 y1 => ?_⟩
  cases y1
  obtain ⟨_, ⟨us, g2, g3⟩, _, _⟩ := s1.getO e1
  obtain ⟨v, h1, h2⟩ := atI_map g3 h
  exact .inl ⟨p, us, i, v, rfl, rfl, SqL.of g2, h1, q v B1 H1 x1 s1 h2⟩
/-! ### and, or, not, if -/
theorem ev_and {a b : Bool} (h1 : EvX K ta Γ (.bool a) Γ1) (h2 : a = true → EvX K tb Γ1 (.bool b) Γ1) : EvX K (tAndV ta tb) Γ (.bool (a && b)) Γ1 := fun E σ B H s Q q => h1 E σ B H s _ fun x B1 H1 e1 s1 x1 => by
  cases x1
  refine ⟨a, rfl, ?_⟩
  cases a with
  | true => exact iteT (h2 rfl E σ B1 H1 s1 Q fun v B2 H2 e2 s2 v2 => q v B2 H2 (e1.trans e2) s2 v2)
  | false => exact iteF (q _ B1 H1 e1 s1 (.bl false))
theorem ev_or {a b : Bool} (h1 : EvX K ta Γ (.bool a) Γ1) (h2 : a = false → EvX K tb Γ1 (.bool b) Γ1) : EvX K (tOrV ta tb) Γ (.bool (a || b)) Γ1 := fun E σ B H s Q q => h1 E σ B H s _ fun x B1 H1 e1 s1 x1 => by
  cases x1
  refine ⟨a, rfl, ?_⟩
  cases a with
  | true => exact iteT (q _ B1 H1 e1 s1 (.bl true))
  | false => exact iteF (h2 rfl E σ B1 H1 s1 Q fun v B2 H2 e2 s2 v2 => q v B2 H2 (e1.trans e2) s2 v2)
theorem ev_not {a : Bool} (h1 : EvX K ta Γ (.bool a) Γ1) : EvX K (tNotV ta) Γ (.bool (!a)) Γ1 := fun E σ B H s Q q => h1 E σ B H s _ fun x B1 H1 e1 s1 x1 => by
  cases x1
  exact ⟨a, rfl, q _ B1 H1 e1 s1 (.bl _)⟩
theorem ev_neg : ∀ {i : Int}, EvX K ta Γ (.int i) Γ1 → EvX K (tUn (rU fun i => .int (-i)) ta) Γ (.int (-i)) Γ1 := fun {i} h1 E σ B H s Q q => h1 E σ B H s _ fun x B1 H1 e1 s1 x1 => by
  cases x1
  exact ⟨i, rfl, q _ B1 H1 e1 s1 (.int _)⟩
variable {tt tu : TT} {a b : Bool}
theorem eb_val (h : EvX K te Γ (.bool b) Γ1) : EvB K (tB te) Γ b Γ1 := fun E σ B H s Q q => h E σ B H s _ fun x B1 H1 e1 s1 x1 => by
  cases x1
  exact ⟨b, rfl, q B1 H1 e1 s1⟩
theorem eb_test (h : EvX K te Γ (.bool b) Γ1) : EvB K (tTest te) Γ b Γ1 := fun E σ B H s Q q => h E σ B H s _ fun x B1 H1 e1 s1 x1 => by
  cases x1
  exact ⟨b, rfl, q B1 H1 e1 s1⟩
theorem eb_and (h1 : EvB K tt Γ a Γ1) (h2 : a = true → EvB K tu Γ1 b Γ1) : EvB K (tAnd tt tu) Γ (a && b) Γ1 := fun E σ B H s Q q => h1 E σ B H s _ fun B1 H1 e1 s1 => by
  cases a with
  | true => exact iteT (h2 rfl E σ B1 H1 s1 Q fun B2 H2 e2 s2 => q B2 H2 (e1.trans e2) s2)
  | false => exact iteF (q B1 H1 e1 s1)
theorem eb_or (h1 : EvB K tt Γ a Γ1) (h2 : a = false → EvB K tu Γ1 b Γ1) : EvB K (tOr tt tu) Γ (a || b) Γ1 := fun E σ B H s Q q => h1 E σ B H s _ fun B1 H1 e1 s1 => by
  cases a with
  | true => exact iteT (q B1 H1 e1 s1)
  | false => exact iteF (h2 rfl E σ B1 H1 s1 Q fun B2 H2 e2 s2 => q B2 H2 (e1.trans e2) s2)
theorem eb_andT (h1 : EvB K tt Γ true Γ1) (h2 : EvB K tu Γ1 b Γ2) : EvB K (tAnd tt tu) Γ b Γ2 := fun E σ B H s Q q => h1 E σ B H s _ fun B1 H1 e1 s1 =>
  iteT (h2 E σ B1 H1 s1 Q fun B2 H2 e2 s2 => q B2 H2 (e1.trans e2) s2)
theorem eb_andF (h1 : EvB K tt Γ false Γ1) : EvB K (tAnd tt tu) Γ false Γ1 := fun E σ B H s Q q => h1 E σ B H s _ fun B1 H1 e1 s1 => iteF (q B1 H1 e1 s1)
theorem eb_orT (h1 : EvB K tt Γ true Γ1) : EvB K (tOr tt tu) Γ true Γ1 := fun E σ B H s Q q => h1 E σ B H s _ fun B1 H1 e1 s1 => iteT (q B1 H1 e1 s1)
theorem eb_orF (h1 : EvB K tt Γ false Γ1) (h2 : EvB K tu Γ1 b Γ2) : EvB K (tOr tt tu) Γ b Γ2 := fun E σ B H s Q q => h1 E σ B H s _ fun B1 H1 e1 s1 =>
  iteF (h2 E σ B1 H1 s1 Q fun B2 H2 e2 s2 => q B2 H2 (e1.trans e2) s2)
theorem eb_not (h1 : EvB K tt Γ a Γ1) : EvB K (tNot tt) Γ (!a) Γ1 := fun E σ B H s Q q => h1 E σ B H s _ fun B1 H1 e1 s1 => q B1 H1 e1 s1
theorem eb_is {b' : Bool} (h : EvB K tt Γ b Γ1) (e : b = b') : EvB K tt Γ b' Γ1 := by
  rw [← e]
  exact h
theorem ev_if (h : EvB K tt Γ b Γ1) (h1 : b = true → EvX K ta Γ1 d Γ2) (h2 : b = false → EvX K tb Γ1 d Γ2) : EvX K (tIf tt ta tb) Γ d Γ2 := fun E σ B H s Q q => h E σ B H s _ fun B1 H1 e1 s1 => by
  cases b with
  | true => exact iteT (h1 rfl E σ B1 H1 s1 Q fun v B2 H2 e2 s2 v2 => q v B2 H2 (e1.trans e2) s2 v2)
  | false => exact iteF (h2 rfl E σ B1 H1 s1 Q fun v B2 H2 e2 s2 v2 => q v B2 H2 (e1.trans e2) s2 v2)

/-! ### arguments, displays -/
theorem ea_nil : EvA K tNil Γ [] Γ := fun E σ B H s Q q => q [] B H (Ex.refl B) s .nil
theorem ea_cons {tr : TA} {ds : List PyData} (h : EvX K ta Γ d Γ1) (hr : EvA K tr Γ1 ds Γ2) : EvA K (tCons ta tr) Γ (d :: ds) Γ2 := fun E σ B H s Q q =>
  h E σ B H s _ fun x B1 H1 e1 s1 x1 => hr E σ B1 H1 s1 _ fun xs B2 H2 e2 s2 x2 => q (x :: xs) B2 H2 (e1.trans e2) s2 (.cons (x1.mono e2) x2)
theorem ev_tup {tr : TA} {ds : List PyData} (h : EvA K tr Γ ds Γ1) (hl : ds.length ≤ 100000) : EvX K (tTup tr) Γ (.tuple ds) Γ1 := fun E σ B H s Q q =>
  h E σ B H s _ fun xs B1 H1 e1 s1 x1 => ⟨by rw [x1.length]; exact sz5 hl, new_tup s1 x1 fun v B2 H2 e2 s2 v2 => q v B2 H2 (e1.trans e2) s2 v2⟩
theorem ev_lst {tr : TA} {ds : List PyData} (h : EvA K tr Γ ds Γ1) (hl : ds.length ≤ 100000) : EvX K (tLst tr) Γ (.list ds) Γ1 := fun E σ B H s Q q =>
  h E σ B H s _ fun xs B1 H1 e1 s1 x1 => ⟨by rw [x1.length]; exact sz5 hl, new_lst s1 x1 fun v B2 H2 e2 s2 v2 => q v B2 H2 (e1.trans e2) s2 v2⟩
theorem Stt.no_own {E : Entry} {B H : Hp} {σ : L2.St} (s : Stt K E B H σ Γ) {p : Addr} (h : H p = none) : ∀ (j : Nat) (b : Bool) (es : List PyData), Γ[j]? = some (.own b p es) → False := fun j b es e => by
  obtain ⟨_, ⟨xs, g, _⟩, _⟩ := s.getO e
  rw [h] at g
  cases g
theorem new_own {E : Entry} {σ : L2.St} {B H : Hp} {xs : List V} {ds : List PyData} {Q : VK} (s : Stt K E B H σ Γ) (h : DqA K B xs ds)
    (q : ∀ p xs B' H', Ex B B' → Stt K E B' H' σ Γ → B' p = none → E.H p = none → (∀ (j : Nat) (b : Bool) (es : List PyData), Γ[j]? = some (.own b p es) → False) → H' p = some (.lst xs) → DqA K B' xs ds → Q (.ref p) H') :
    ∀ p, H p = none → Q (.ref p) (upd H p (.lst xs)) := fun p hp => q p xs B _ (Ex.refl B) (s.allocO hp) (fresh_back s.ex hp) (s.newH hp) (s.no_own hp) upd_same h
theorem en_lst {tr : TA} {ds : List PyData} (h : EvA K tr Γ ds Γ1) (hl : ds.length ≤ 100000) : EvN K (tLst tr) Γ ds Γ1 := fun E σ B H s Q q =>
  h E σ B H s _ fun xs B1 H1 e1 s1 x1 => ⟨by rw [x1.length]; exact sz5 hl, new_own s1 x1 fun p ys B2 H2 e2 s2 => q p ys B2 H2 (e1.trans e2) s2⟩
/-- what makes a new list by values -/
def RVN (K : PySem.W.Frag) (r : R2) (d1 d2 : PyData) (ds : List PyData) : Prop :=
  ∀ (E : Entry) (σ : L2.St) (Γ : List Slot) (B H : Hp) (x y : V), Stt K E B H σ Γ → Dq K B x d1 → Dq K B y d2 → ∀ Q : VK, (∀ p xs B' H', Ex B B' → Stt K E B' H' σ Γ → B' p = none → E.H p = none → (∀ (j : Nat) (b : Bool) (es : List PyData), Γ[j]? = some (.own b p es) → False) → H' p = some (.lst xs) → DqA K B' xs ds → Q (.ref p) H') → r x y H Q
theorem en_op {ds : List PyData} (ha : EvX K ta Γ d1 Γ1) (hb : EvX K tb Γ1 d2 Γ2) (hr : RVN K r d1 d2 ds) : EvN K (tOp r ta tb) Γ ds Γ2 := fun E σ B H s Q q =>
  ha E σ B H s _ fun x B1 H1 e1 s1 x1 => hb E σ B1 H1 s1 _ fun y B2 H2 e2 s2 y2 => hr E σ Γ2 B2 H2 x y s2 (x1.mono e2) y2 Q fun p xs B3 H3 e3 => q p xs B3 H3 (e1.trans (e2.trans e3))
theorem rn_rep {xs : List PyData} (h0 : -1000 ≤ j ∧ j ≤ 1000) (h : xs.length * j.toNat ≤ 100000) : RVN K rMulX (.list xs) (.int j) (List.replicate j.toNat xs).flatten := fun E σ Γ B H x y s hx hy Q q => by
  cases hx with
  | lst ha hxs =>
    cases hy
    rename_i a us
    refine .inr ⟨a, j, us, rfl, rfl, s.ex _ _ ha, by omega, by omega, ?_, new_own s (hxs.replicate j.toNat) q⟩
    rw [hxs.length]
    exact sz5 h
theorem rn_catL {xs ys : List PyData} (h : xs.length + ys.length ≤ 100000) : RVN K (rPlus K) (.list xs) (.list ys) (xs ++ ys) := fun E σ Γ B H x y s hx hy Q q => by
  cases hx with
  | lst ha hxs =>
    cases hy with
    | lst hb hys =>
      rename_i a us b ws
      refine .inr (.inr ⟨a, b, us, ws, rfl, rfl, s.ex _ _ ha, s.ex _ _ hb, ?_, new_own s (hxs.append hys) q⟩)
      rw [hxs.length, hys.length]
      exact sz5 h
theorem en_if {ds : List PyData} (h : EvB K tt Γ b Γ1) (h1 : b = true → EvN K ta Γ1 ds Γ2) (h2 : b = false → EvN K tb Γ1 ds Γ2) : EvN K (tIf tt ta tb) Γ ds Γ2 := fun E σ B H s Q q => h E σ B H s _ fun B1 H1 e1 s1 => by
  cases b with
  | true => exact iteT (h1 rfl E σ B1 H1 s1 Q fun p xs B2 H2 e2 => q p xs B2 H2 (e1.trans e2))
  | false => exact iteF (h2 rfl E σ B1 H1 s1 Q fun p xs B2 H2 e2 => q p xs B2 H2 (e1.trans e2))
end
end DL
end Part1

section Part2
set_option Elab.async false
set_option linter.all false
set_option maxRecDepth 100000
set_option maxHeartbeats 4000000
/-! t[::-1] of a tuple -/
namespace DLR
open PySem PySem.Spec PyProof.Rows HT
section
variable {prog : Program} {w : World} {A : Around} {E : Value → Shared → Prop} {s : Shared}
theorem rev_places (n : Nat) : Builtin.Slice.slicePlaces ((n : Int) - 1) (-1) (-1) = n := by
  unfold Builtin.Slice.slicePlaces
  have h1 : ¬ ((-1 : Int) > 0) := by omega
  have h2 : (-(-1) : Int) = 1 := by omega
  simp only [h1, if_false, h2, Int.ediv_one]
  split <;> omega
theorem sliceApplied_rev {sl : Addr} {vs : Value} {n : Nat} {Q : Int × Int × Nat → Shared → Prop} (hs : s.heap.IsSliceOf sl .none .none vs) (ps : IsPart vs (some (-1)))
    (h : Q ((n : Int) - 1, -1, n) s) : wpAny (model prog w) A (Builtin.Slice.sliceApplied (.ref sl) (pure (n : Int))) Q E s := by
  obtain ⟨os, hos, hcs, hds⟩ := id hs
  unfold Builtin.Slice.sliceApplied Builtin.Slice.sliceFields
  refine wpAny_bind (wpAny_bind (wpAny_field hos hds (x := .none) rfl (wpAny_bind (wpAny_field hos hds (x := .none) rfl (wpAny_bind (wpAny_field hos hds (x := vs) rfl (wpAny_pure ?_)))))))
  refine wpAny_bind (slicePart_ ps ?_)
  show wpAny _ _ (if ((-1 : Int) == 0) = true then _ else _) _ _ s
  rw [if_neg (by decide)]
  refine wpAny_bind (slicePart_none (wpAny_bind (slicePart_none (wpAny_bind (wpAny_pure ?_)))))
  show wpAny _ _ (pure ((n : Int) - 1, (-1 : Int), Builtin.Slice.slicePlaces ((n : Int) - 1) (-1) (-1))) _ _ s
  rw [rev_places]
  exact wpAny_pure h
theorem fm_congr {α β : Type} {f g : α → Option β} : ∀ {l : List α}, (∀ x ∈ l, f x = g x) → l.filterMap f = l.filterMap g
  | [], _ => rfl
  | x :: l, h => by
    rw [List.filterMap_cons, List.filterMap_cons, h x List.mem_cons_self, fm_congr fun y hy => h y (List.mem_cons_of_mem _ hy)]
theorem pick_rev (xs : Array Value) : ((List.range xs.size).filterMap fun (m : Nat) => xs[(((xs.size : Int) - 1) + (m : Int) * (-1)).toNat]?).toArray = xs.toList.reverse.toArray := by
  have e : (List.range xs.size).filterMap (fun (m : Nat) => xs[(((xs.size : Int) - 1) + (m : Int) * (-1)).toNat]?) = ((List.range xs.size).map (fun k => xs.size - 1 - k)).filterMap (fun m => xs[m]?) := by
    rw [List.filterMap_map]
    apply fm_congr
    intro m hm
    have : (((xs.size : Int) - 1) + (m : Int) * (-1)).toNat = xs.size - 1 - m := by
      have := List.mem_range.mp hm
      omega
    rw [this]
    rfl
  rw [e, PySem.W.krv_range, List.filterMap_reverse, PySem.W.krv_all]
theorem getItem_tuple_rev {t sl : Addr} {items : Array Value} {vs : Value} {Q : Value → Shared → Prop} (ht : IsTup s.heap t items) (hs : s.heap.IsSliceOf sl .none .none vs) (ps : IsPart vs (some (-1)))
    (h : Q (.ref s.heap.objs.size) { s with heap := s.heap.push { cls := .type "tuple", data := .seq items.toList.reverse.toArray } })
    (hsz : items.size ≤ sizeLine) : wpAny (model prog w) A (getItem (.ref t) (.ref sl)) Q E s := by
  have htake : sizeOk (.seq items.toList.reverse.toArray) := by
    show items.toList.reverse.toArray.size ≤ sizeLine
    rw [List.size_toArray, List.length_reverse, Array.length_toList]
    exact hsz
  obtain ⟨os, hos, hcs, hds⟩ := id hs
  have hTs : s.TypeIs (.ref sl) "slice" := ⟨os, hos, hcs⟩
  unfold getItem
  try with_reducible refine wpAny_holding ?_
  first | refine wpAny_bind (wpAny_pure ?_) | skip
  refine wpAny_bind (wpAny_sequenceKey ht.typeIs (by decide) ?_)
  refine wpAny_bind (wpAny_callSpecial?_slot (name := Str.ofString "__getitem__") ht.typeIs PyProof.Rows.slot_tuple_getitem
    (wpAny_call_entry PyProof.Rows.slot_tuple_getitem ht.typeIs entry_tuple_getitem ?_ (args_tuple_getitem _ _)))
  show wpAny _ _ (Builtin.Tuple.tupleItemsOf (.ref t) >>= _) _ _ s
  refine wpAny_bind (tupleItemsOf_ ht ?_)
  refine wpAny_bind (wpAny_typeOf hTs ?_)
  rw [if_pos (by decide)]
  refine wpAny_bind (sliceApplied_rev hs ps ?_)
  have hno : ¬ ((((items.size : Int) - 1) == 0 && (-1 : Int) == 1 && items.size == items.size) = true) := by
    intro q
    rw [Bool.and_eq_true, Bool.and_eq_true] at q
    exact absurd q.1.2 (by decide)
  show wpAny _ _ (if (((items.size : Int) - 1) == 0 && (-1 : Int) == 1 && items.size == items.size) = true then _ else _) _ _ s
  rw [if_neg hno, pick_rev]
  first
    | exact wpAny_bind (m := Builtin.Tuple.tupleExact _) (wpAny_newObj_type (wpAny_pure ⟨_, rfl, wpAny_pure h⟩) htake)
    | exact wpAny_bind (m := Builtin.Tuple.tupleExact _) (wpAny_newObj_type (wpAny_bind (wpAny_pure (wpAny_pure ⟨_, rfl, wpAny_pure h⟩))) htake)
    | exact wpAny_bind (wpAny_bind (m := Builtin.Tuple.tupleExact _) (wpAny_newObj_type (wpAny_pure (wpAny_pure ⟨_, rfl, wpAny_pure h⟩)) htake))
    | exact wpAny_bind (wpAny_bind (m := Builtin.Tuple.tupleExact _) (wpAny_newObj_type (wpAny_pure ⟨_, rfl, wpAny_pure h⟩) htake))
end
end DLR
namespace DL
open PySem PySem.Spec PyProof.Rows L2
open Evl (Ex ex_rd ex_l ex_t fresh_back)
/-- e[::-1] of a list, of a tuple -/
def tRev (K : PySem.W.Frag) (te : TE) : TE := fun σ H Q => te σ H fun x H1 => ∃ a xs, x = .ref a ∧ ((SqL K H1 a xs ∧ ∀ p, H1 p = none → Q (.ref p) (upd H1 p (.lst xs.reverse))) ∨ (SqT K H1 a xs ∧ ∀ p, H1 p = none → Q (.ref p) (upd H1 p (.tup xs.reverse))))
theorem pe_rev {X : Cx} {e : Expr} {te : TE} {k : Nat} {p1 p2 p3 pos : Pos} (he : PE X e te) : PE X (.Subscript e (.Slice none none (some (.UnaryOp .USub (.Constant (.int 1) k p1) p2)) p3) pos) (tRev X.K te) := by
  refine ⟨fun pins s σ H Q I h => ?_⟩
  refine Subscript_ (thn (he.run pins s σ H _ I h) fun v s1 ⟨x, H1, I1, r1, q1⟩ => ?_)
  obtain ⟨a, xs, ex, hx⟩ := q1
  subst ex
  cases r1
  have hst : PO X (some (.UnaryOp .USub (.Constant (.int 1) k p1) p2)) (tPart (tUn (rU fun i => .int (-i)) (tC (.int 1)))) := po_some (pe_un un_neg pe_int)
  refine wpAny_Slice (thn (po_none.run pins s1 σ H1 (fun o H2 => o = none ∧ H2 = H1) I1 ⟨rfl, rfl⟩) fun vl s2 ⟨l, H2, I2, pl, el, e2⟩ => ?_)
  subst el e2
  refine thn (po_none.run pins s2 σ H2 (fun o H3 => o = none ∧ H3 = H2) I2 ⟨rfl, rfl⟩) fun vu s3 ⟨u, H3, I3, pu, eu, e3⟩ => ?_
  subst eu e3
  refine thn (hst.run pins s3 σ H3 (fun o H4 => o = some (-1) ∧ H4 = H3) I3 ⟨1, rfl, -1, rfl, rfl, rfl⟩) fun vs s4 ⟨o, H4, I4, ps, eo, e4⟩ => ?_
  subst eo e4
  have I5 : Inv X pins σ H4 { s4 with heap := s4.heap.push { cls := .type "slice", data := .fields #[vl, vu, vs] } } := I4.kept (t' := s4.toks) fun b ob q => Heap.get?_push_of_some _ q
  show wpAny (model X.prog X.w) X.A (subscriptTail e (.Slice none none (some (.UnaryOp .USub (.Constant (.int 1) k p1) p2)) p3) (.ref a) (.ref s4.heap.objs.size)) (EP X pins σ Q) X.xe { s4 with heap := s4.heap.push { cls := .type "slice", data := .fields #[vl, vu, vs] } }
  rcases hx with ⟨hx, q⟩ | ⟨hx, q⟩
  · obtain ⟨its, r, ht, hz⟩ := I5.list hx
    have hlen := r.length
    refine tail_any (ops := [.ref a, .ref s4.heap.objs.size]) ht.isList.typeIs (PySem.slot_list_getitem.lookup) ?_ (by with_unfolding_all rfl)
    refine wpAny_getItem_list_slice ht.isList (Heap.IsSliceOf.new _ vl vu vs) pl pu ps (by decide) ?_ (by rw [List.size_toArray]; omega)
    rw [PySem.W.krv_pick]
    refine ⟨.ref _, _, I5.laid (t' := s4.toks) (o := .lst xs.reverse) (fun b ob q => Heap.get?_push_of_some _ q) (Nat.le_refl _) ?_, rfl, q _ (I5.hok.fresh (Nat.le_refl _))⟩
    exact ⟨by rw [List.length_reverse]; exact hz, _, 0, r.reverse, Heap.get?_push_size _ rfl⟩
  · obtain ⟨its, r, ht, hz⟩ := I5.tuple hx
    have hlen := r.length
    cases pl
    cases pu
    refine tail_any (ops := [.ref a, .ref s4.heap.objs.size]) ht.typeIs (PyProof.Rows.slot_tuple_getitem.lookup) ?_ (by with_unfolding_all rfl)
    refine DLR.getItem_tuple_rev ht (Heap.IsSliceOf.new _ .none .none vs) ps ?_ (by rw [List.size_toArray]; omega)
    refine ⟨.ref _, _, I5.laid (t' := s4.toks) (o := .tup xs.reverse) (fun b ob q => Heap.get?_push_of_some _ q) (Nat.le_refl _) ?_, rfl, q _ (I5.hok.fresh (Nat.le_refl _))⟩
    exact ⟨by rw [List.length_reverse]; exact hz, _, r.reverse, _, Heap.get?_push_size _ rfl, rfl, _, rfl⟩
/-- f(k = v, ..) -/
theorem pe_callK0 {X : Cx} {CX : CXT} {k : Nat} {f : Addr} {fd : FuncData} {ps ks : List Str} {sp : Sp} {E : XK} {x : Str} {p pos : Pos} {kws : List Keyword} {tk : TA} {g : List Value → List Value → List Value} {gV : List V → List V → List V}
    (F : FnOk X.prog X.w X.K X.mg X.base CX k f fd ps sp) (hr : Room k X.A) (hg : Gl X x) (hm : X.mg x = some (.ref f)) (hk : PySem.W.keepIn X.K (.ref f) = true) (hb : KBinds X.K fd ps ks g gV) (hx : Passes CX X E)
    (hkw : PK X kws tk) (hall : (backToKw pos (keywordEach kws X.env)).all (·.1.isSome) = true := by rfl) (hks : (backToKw pos (keywordEach kws X.env)).filterMap (·.1) = ks := by rfl)
    (hdb : (x == ("__debug__" : Str)) = false := by decide)
    (hpl : ((backTo pos (starEach [] X.env)).any (·.1) || (backToKw pos (keywordEach kws X.env)).any (·.1.isNone)) = false := by rfl) :
    PE X (.Call (.Name x p) [] kws pos) (tCallK sp gV E tNil tk) := by
  refine ⟨fun pins s σ H Q I h => ?_⟩
  refine wpAny_Call_Name_kw (ld_glob I hg hm ?_ hdb)
  refine PySem.W.callWith_KW0 (h₀ := X.base) I.ok.mod.kin hk hall ?_ hpl
  refine thn (hkw.run pos pins s σ H _ I h) fun ws s2 ⟨zs, H2, I2, rz, q2⟩ => ⟨I2.kIn, ?_⟩
  rw [hks]
  exact run_fnk F hr hb hx I2 .nil rz q2
section
variable {K : PySem.W.Frag} {Γ Γ1 Γ2 Γ3 : List Slot} {ta tb te tc : TE} {d d1 d2 : PyData} {r r' : R2} {i j : Int}
theorem ev_revT {ds : List PyData} (h : EvX K te Γ (.tuple ds) Γ1) : EvX K (tRev K te) Γ (.tuple ds.reverse) Γ1 := fun E σ B H s Q q => h E σ B H s _ fun x B1 H1 e1 s1 x1 => by
  cases x1 with
  | tup ha hxs => exact ⟨_, _, rfl, .inr ⟨ex_t s1.ex ha, new_tup s1 hxs.reverse fun v B2 H2 e2 s2 v2 => q v B2 H2 (e1.trans e2) s2 v2⟩⟩
theorem ev_revL {ds : List PyData} (h : EvX K te Γ (.list ds) Γ1) : EvX K (tRev K te) Γ (.list ds.reverse) Γ1 := fun E σ B H s Q q => h E σ B H s _ fun x B1 H1 e1 s1 x1 => by
  cases x1 with
  | lst ha hxs => exact ⟨_, _, rfl, .inl ⟨SqL.of (s1.ex _ _ ha), new_lst s1 hxs.reverse fun v B2 H2 e2 s2 v2 => q v B2 H2 (e1.trans e2) s2 v2⟩⟩
/-! ### slices -/
def rSl (K : PySem.W.Frag) : V → Option Int → Option Int → Hp → VK → Prop := fun x lo hi H Q => rSlA K x lo hi H Q ∨ rSlL K x lo hi H Q
theorem sl_any {X : Cx} : SlR X (rSl X.K) := sl_tupA.or sl_list
theorem eo_none : EvO K tNoPart Γ none Γ := fun E σ B H s Q q => q B H (Ex.refl B) s
theorem eo_some (h : EvX K te Γ (.int i) Γ1) : EvO K (tPart te) Γ (some i) Γ1 := fun E σ B H s Q q => h E σ B H s _ fun x B1 H1 e1 s1 x1 => by
  cases x1
  exact ⟨i, rfl, q B1 H1 e1 s1⟩
theorem sliceD_whole {ds : List PyData} {lo hi : Option Int} (h : HT.sIx ds.length 0 lo = 0 ∧ HT.sIx ds.length ds.length hi = ds.length) : sliceD ds lo hi = ds := by
  unfold sliceD
  rw [h.1, h.2, List.drop_zero, Nat.sub_zero, List.take_length]
theorem ev_slT {tl th : TO} {ds : List PyData} {lo hi : Option Int} (h : EvX K te Γ (.tuple ds) Γ1) (h1 : EvO K tl Γ1 lo Γ2) (h2 : EvO K th Γ2 hi Γ3) : EvX K (tSl (rSl K) te tl th) Γ (.tuple (sliceD ds lo hi)) Γ3 := fun E σ B H s Q q =>
  h E σ B H s _ fun x B1 H1 e1 s1 x1 => h1 E σ B1 H1 s1 _ fun B2 H2 e2 s2 => h2 E σ B2 H2 s2 _ fun B3 H3 e3 s3 => by
    have x3 := x1.mono (e2.trans e3)
    cases x3 with
    | tup ha hxs =>
      rename_i a us
      refine .inl ⟨a, us, rfl, ex_t s3.ex ha, fun w => ?_, fun _ => new_tup s3 (hxs.cut lo hi) fun v B4 H4 e4 s4 v4 => q v B4 H4 (e1.trans (e2.trans (e3.trans e4))) s4 v4⟩
      refine q _ B3 H3 (e1.trans (e2.trans e3)) s3 (.tup ha ?_)
      rw [hxs.length] at w
      rw [sliceD_whole w]
      exact hxs
theorem ev_slL {tl th : TO} {ds : List PyData} {lo hi : Option Int} (h : EvX K te Γ (.list ds) Γ1) (h1 : EvO K tl Γ1 lo Γ2) (h2 : EvO K th Γ2 hi Γ3) : EvX K (tSl (rSl K) te tl th) Γ (.list (sliceD ds lo hi)) Γ3 := fun E σ B H s Q q =>
  h E σ B H s _ fun x B1 H1 e1 s1 x1 => h1 E σ B1 H1 s1 _ fun B2 H2 e2 s2 => h2 E σ B2 H2 s2 _ fun B3 H3 e3 s3 => by
    have x3 := x1.mono (e2.trans e3)
    cases x3 with
    | lst ha hxs => exact .inr ⟨_, _, rfl, SqL.of (s3.ex _ _ ha), new_lst s3 (hxs.cut lo hi) fun v B4 H4 e4 s4 v4 => q v B4 H4 (e1.trans (e2.trans (e3.trans e4))) s4 v4⟩
/-! ### built-in functions -/
theorem ev_cb {rr : List V → Hp → VK → Prop} {tr : TA} {ds : List PyData} (h : EvA K tr Γ ds Γ1) (hr : RC K rr ds d) : EvX K (tCB rr tr) Γ d Γ1 := fun E σ B H s Q q =>
  h E σ B H s _ fun vs B1 H1 e1 s1 x1 => hr E σ Γ1 B1 H1 vs s1 x1 Q fun v B2 H2 e2 s2 v2 => q v B2 H2 (e1.trans e2) s2 v2
theorem DqA.one {H : Hp} {vs : List V} {d : PyData} (h : DqA K H vs [d]) : ∃ v, vs = [v] ∧ Dq K H v d := by
  cases h with
  | cons h1 h2 =>
    cases h2
    exact ⟨_, rfl, h1⟩
theorem DqA.two {H : Hp} {vs : List V} {d e : PyData} (h : DqA K H vs [d, e]) : ∃ v w, vs = [v, w] ∧ Dq K H v d ∧ Dq K H w e := by
  cases h with
  | cons h1 h2 =>
    obtain ⟨w, rfl, h3⟩ := h2.one
    exact ⟨_, w, rfl, h1, h3⟩
theorem ev_isi {n : String} {b : Bool} (h : EvX K te Γ d Γ1) (hk : PySem.W.kitOne K (.type (tyD d)) (.type n) = some b) : EvX K (tCB (rIsi K) (tCons te (tCons (tC (.ty n)) tNil))) Γ (.bool b) Γ1 := fun E σ B H s Q q =>
  h E σ B H s _ fun x B1 H1 e1 s1 x1 => ⟨x, .ty n, .type (tyD d), .type n, b, rfl, .ty n, (x1.mono s1.ex).ty, hk, q _ B1 H1 e1 s1 (.bl b)⟩
def rLenX (K : PySem.W.Frag) : List V → Hp → VK → Prop := fun xs H Q => ∃ x n, xs = [x] ∧ LenV K x H n ∧ Q (.int n) H
theorem call_lenX {X : Cx} : CallR X (.builtin "len") (rLenX X.K) := call_len
theorem rc_lenT {ds : List PyData} : RC K (rLenX K) [.tuple ds] (.int (ds.length : Nat)) := fun E σ Γ B H vs s hv Q q => by
  obtain ⟨v, rfl, h⟩ := hv.one
  cases h with
  | tup ha hxs => exact ⟨_, _, rfl, .inr ⟨_, ex_t s.ex ha, hxs.length.symm⟩, q _ B H (Ex.refl B) s (.int _)⟩
theorem rc_lenL {ds : List PyData} : RC K (rLenX K) [.list ds] (.int (ds.length : Nat)) := fun E σ Γ B H vs s hv Q q => by
  obtain ⟨v, rfl, h⟩ := hv.one
  cases h with
  | lst ha hxs => exact ⟨_, _, rfl, .inl ⟨_, SqL.of (s.ex _ _ ha), hxs.length.symm⟩, q _ B H (Ex.refl B) s (.int _)⟩
theorem rc_lenS {ds : List PyData} : RC K (rLenX K) [scrD ds] (.int (ds.length : Nat)) := fun E σ Γ B H vs s hv Q q => by
  obtain ⟨v, rfl, h⟩ := hv.one
  cases h with
  | scr ha hxs => exact ⟨_, _, rfl, .inl ⟨_, ex_l s.ex ha, hxs.length.symm⟩, q _ B H (Ex.refl B) s (.int _)⟩
theorem ev_lenO {n : Nat} {b : Bool} {p : Addr} {ds : List PyData} (e : Γ[n]? = some (.own b p ds)) : EvX K (tCB (rLenX K) (tCons (tVar n) tNil)) Γ (.int (ds.length : Nat)) Γ := fun E σ B H s Q q => by
  obtain ⟨g1, ⟨xs, g2, g3⟩, _, _⟩ := s.getO e
  exact ⟨.ref p, g1, .ref p, _, rfl, .inl ⟨_, SqL.of g2, g3.length.symm⟩, q _ B H (Ex.refl B) s (.int _)⟩
theorem rc_gcd : RC K rGcd [.int i, .int j] (.int ((Nat.gcd i.natAbs j.natAbs : Nat) : Int)) := fun E σ Γ B H vs s hv Q q => by
  obtain ⟨v, w, rfl, h1, h2⟩ := hv.two
  cases h1
  cases h2
  exact ⟨i, j, rfl, q _ B H (Ex.refl B) s (.int _)⟩
def rAbs : List V → Hp → VK → Prop := fun xs H Q => ∃ i, xs = [.int i] ∧ Q (.int (if i < 0 then -i else i)) H
theorem call_absX {X : Cx} : CallR X (.builtin "abs") rAbs := call_abs
theorem rc_abs : RC K rAbs [.int i] (.int (i.natAbs : Int)) := fun E σ Γ B H vs s hv Q q => by
  obtain ⟨v, rfl, h1⟩ := hv.one
  cases h1
  refine ⟨i, rfl, ?_⟩
  have e : (if i < 0 then -i else i) = (i.natAbs : Int) := by split <;> omega
  rw [e]
  exact q _ B H (Ex.refl B) s (.int _)
def rMin : List V → Hp → VK → Prop := fun xs H Q => ∃ i j, xs = [.int i, .int j] ∧ Q (.int (if j < i then j else i)) H
def rMax : List V → Hp → VK → Prop := fun xs H Q => ∃ i j, xs = [.int i, .int j] ∧ Q (.int (if j > i then j else i)) H
theorem call_minX {X : Cx} (hc : X.calm = true) : CallR X (.builtin "min") rMin := call_min2 hc
theorem call_maxX {X : Cx} (hc : X.calm = true) : CallR X (.builtin "max") rMax := call_max2 hc
theorem rc_min : RC K rMin [.int i, .int j] (.int (min i j)) := fun E σ Γ B H vs s hv Q q => by
  obtain ⟨v, w, rfl, h1, h2⟩ := hv.two
  cases h1
  cases h2
  refine ⟨i, j, rfl, ?_⟩
  have e : (if j < i then j else i) = min i j := by split <;> omega
  rw [e]
  exact q _ B H (Ex.refl B) s (.int _)
theorem rc_max : RC K rMax [.int i, .int j] (.int (max i j)) := fun E σ Γ B H vs s hv Q q => by
  obtain ⟨v, w, rfl, h1, h2⟩ := hv.two
  cases h1
  cases h2
  refine ⟨i, j, rfl, ?_⟩
  have e : (if j > i then j else i) = max i j := by split <;> omega
  rw [e]
  exact q _ B H (Ex.refl B) s (.int _)
def rInt1 : List V → Hp → VK → Prop := fun xs H Q => (∃ i, xs = [.int i] ∧ Q (.int i) H) ∨ ∃ k, xs = [.bl k] ∧ Q (.int (if k then 1 else 0)) H
theorem call_intX {X : Cx} : CallR X (.type "int") rInt1 := call_int1
theorem rc_intI : RC K rInt1 [.int i] (.int i) := fun E σ Γ B H vs s hv Q q => by
  obtain ⟨v, rfl, h1⟩ := hv.one
  cases h1
  exact .inl ⟨i, rfl, q _ B H (Ex.refl B) s (.int _)⟩
theorem rc_intB {b : Bool} : RC K rInt1 [.bool b] (.int (if b then 1 else 0)) := fun E σ Γ B H vs s hv Q q => by
  obtain ⟨v, rfl, h1⟩ := hv.one
  cases h1
  exact .inr ⟨b, rfl, q _ B H (Ex.refl B) s (.int _)⟩
def rTupOf (K : PySem.W.Frag) : List V → Hp → VK → Prop := fun xs H Q => ∃ p ys, xs = [.ref p] ∧ ((SqL K H p ys ∧ ∀ l, H l = none → Q (.ref l) (upd H l (.tup ys))) ∨ (SqT K H p ys ∧ Q (.ref p) H))
theorem call_tupX {X : Cx} : CallR X (.type "tuple") (rTupOf X.K) := call_tuple_of
theorem rc_tupL {ds : List PyData} : RC K (rTupOf K) [.list ds] (.tuple ds) := fun E σ Γ B H vs s hv Q q => by
  obtain ⟨v, rfl, h⟩ := hv.one
  cases h with
  | lst ha hxs => exact ⟨_, _, rfl, .inl ⟨SqL.of (s.ex _ _ ha), new_tup s hxs q⟩⟩
theorem rc_tupT {ds : List PyData} : RC K (rTupOf K) [.tuple ds] (.tuple ds) := fun E σ Γ B H vs s hv Q q => by
  obtain ⟨v, rfl, h⟩ := hv.one
  cases h with
  | tup ha hxs => exact ⟨_, _, rfl, .inr ⟨ex_t s.ex ha, q _ B H (Ex.refl B) s (.tup ha hxs)⟩⟩
theorem ev_tupO {n : Nat} {b : Bool} {p : Addr} {ds : List PyData} (e : Γ[n]? = some (.own b p ds)) : EvX K (tCB (rTupOf K) (tCons (tVar n) tNil)) Γ (.tuple ds) Γ := fun E σ B H s Q q => by
  obtain ⟨g1, ⟨xs, g2, g3⟩, _, _⟩ := s.getO e
  exact ⟨.ref p, g1, p, xs, rfl, .inl ⟨SqL.of g2, new_tup s g3 q⟩⟩
def rLstOf (K : PySem.W.Frag) : List V → Hp → VK → Prop := fun xs H Q => ∃ p ys, xs = [.ref p] ∧ (SqL K H p ys ∨ SqT K H p ys) ∧ ∀ l, H l = none → Q (.ref l) (upd H l (.lst ys))
theorem call_lstX {X : Cx} : CallR X (.type "list") (rLstOf X.K) := call_list_of
theorem rc_lstT {ds : List PyData} : RC K (rLstOf K) [.tuple ds] (.list ds) := fun E σ Γ B H vs s hv Q q => by
  obtain ⟨v, rfl, h⟩ := hv.one
  cases h with
  | tup ha hxs => exact ⟨_, _, rfl, .inr (ex_t s.ex ha), new_lst s hxs q⟩
theorem rc_lstL {ds : List PyData} : RC K (rLstOf K) [.list ds] (.list ds) := fun E σ Γ B H vs s hv Q q => by
  obtain ⟨v, rfl, h⟩ := hv.one
  cases h with
  | lst ha hxs => exact ⟨_, _, rfl, .inl (SqL.of (s.ex _ _ ha)), new_lst s hxs q⟩
theorem DqA.bools : ∀ {H : Hp} {vs : List V} {bs : List Bool}, DqA K H vs (bs.map PyData.bool) → vs = bs.map V.bl
  | _, _, [], .nil => rfl
  | H, _, b :: bs, .cons h a => by
    cases h
    rw [DqA.bools a]
    rfl
theorem rc_all {bs : List Bool} : RC K (rAll K) [.list (bs.map PyData.bool)] (.bool (bs.all id)) := fun E σ Γ B H vs s hv Q q => by
  obtain ⟨v, rfl, h⟩ := hv.one
  cases h with
  | lst ha hxs =>
    have e := hxs.bools
    subst e
    exact ⟨_, bs, rfl, SqL.of (s.ex _ _ ha), q _ B H (Ex.refl B) s (.bl _)⟩
theorem rc_any {bs : List Bool} : RC K (rAny K) [.list (bs.map PyData.bool)] (.bool (bs.any id)) := fun E σ Γ B H vs s hv Q q => by
  obtain ⟨v, rfl, h⟩ := hv.one
  cases h with
  | lst ha hxs =>
    have e := hxs.bools
    subst e
    exact ⟨_, bs, rfl, SqL.of (s.ex _ _ ha), q _ B H (Ex.refl B) s (.bl _)⟩

/-! ### promises -/
structure Gr (B H B' H' : Hp) : Prop where
  ex : Ex H H'
  bx : Ex B B'
  inn : Ex B' H'
  fr : ∀ a, B a = none → H a ≠ none → B' a = none
/-- data in, data out -/
def spD (K : PySem.W.Frag) (R : List PyData → PyData → Prop) : Sp := fun vs H Q _ => ∃ (B : Hp) (ds : List PyData) (d : PyData), Ex B H ∧ DqA K B vs ds ∧ R ds d ∧ ∀ v B' H', Gr B H B' H' → Dq K B' v d → Q v H'
/-- the first argument is a list that is changed -/
def spJ (K : PySem.W.Frag) (R : List PyData → List PyData → PyData → List PyData → Prop) : Sp := fun vs H Q _ => ∃ (B : Hp) (j : Addr) (ws xs : List V) (js ds : List PyData) (d : PyData) (js' : List PyData),
  Ex B H ∧ B j = none ∧ H j = some (.lst xs) ∧ DqA K B xs js ∧ vs = .ref j :: ws ∧ DqA K B ws ds ∧ R js ds d js' ∧
  ∀ v B' H' xs', (∀ a o, a ≠ j → H a = some o → H' a = some o) → Ex B B' → Ex B' H' → (∀ a, B a = none → H a ≠ none → B' a = none) → H' j = some (.lst xs') → DqA K B' xs' js' → Dq K B' v d → Q v H'
theorem Stt.gr {E : Entry} {B H B' H' : Hp} {σ : L2.St} (s : Stt K E B H σ Γ) (g : Gr B H B' H') : Stt K E B' H' σ Γ := s.grow g.ex g.bx g.inn g.fr
theorem ev_call {R : List PyData → PyData → Prop} {E0' : XK} {tr : TA} {ds : List PyData} (h : EvA K tr Γ ds Γ1) (hR : R ds d) : EvX K (tCall (spD K R) [] E0' tr) Γ d Γ1 := fun E σ B H s Q q =>
  h E σ B H s _ fun vs B1 H1 e1 s1 x1 => ⟨B1, ds, d, s1.ex, by rw [List.append_nil]; exact x1, hR, fun v B2 H2 g v2 => q v B2 H2 (e1.trans g.bx) (s1.gr g) v2⟩
theorem ev_callK {R : List PyData → PyData → Prop} {E0' : XK} {tr tk : TA} {gV : List V → List V → List V} {gD : List PyData → List PyData → List PyData} {ds es : List PyData} (h : EvA K tr Γ ds Γ1) (hk : EvA K tk Γ1 es Γ2)
    (hg : ∀ (B : Hp) vs ws, DqA K B vs ds → DqA K B ws es → DqA K B (gV vs ws) (gD ds es)) (hR : R (gD ds es) d) : EvX K (tCallK (spD K R) gV E0' tr tk) Γ d Γ2 := fun E σ B H s Q q =>
  h E σ B H s _ fun vs B1 H1 e1 s1 x1 => hk E σ B1 H1 s1 _ fun ws B2 H2 e2 s2 x2 => ⟨B2, gD ds es, d, s2.ex, hg B2 vs ws (x1.mono e2) x2, hR, fun v B3 H3 g v2 => q v B3 H3 (e1.trans (e2.trans g.bx)) (s2.gr g) v2⟩
theorem ap_own {n : Nat} {b : Bool} {p : Addr} {js : List PyData} (js' : List PyData) (ap : ∀ (i j : Nat) (p : Addr) (b c : Bool) (ds es : List PyData), i ≠ j → Γ[i]? = some (.own b p ds) → Γ[j]? = some (.own c p es) → False) (e : Γ[n]? = some (.own b p js)) :
    ∀ (i j : Nat) (q : Addr) (b' c : Bool) (ds es : List PyData), i ≠ j → (Γ.set n (.own b p js'))[i]? = some (.own b' q ds) → (Γ.set n (.own b p js'))[j]? = some (.own c q es) → False := fun a c q b1 b2 ds' es' ne e1 e2 => by
  have hi : n < Γ.length := (List.getElem?_eq_some_iff.mp e).1
  have key : ∀ (k : Nat) (b' : Bool) (p'' : Addr) (fs : List PyData), (Γ.set n (.own b p js'))[k]? = some (.own b' p'' fs) → ∃ b'' fs', Γ[k]? = some (.own b'' p'' fs') := fun k b' p'' fs q => by
    by_cases q' : n = k
    · subst q'
      rw [List.getElem?_set_self hi] at q
      cases q
      exact ⟨b, js, e⟩
    · rw [List.getElem?_set_ne q'] at q
      exact ⟨_, _, q⟩
  obtain ⟨_, _, k1⟩ := key a _ _ _ e1
  obtain ⟨_, _, k2⟩ := key c _ _ _ e2
  exact ap a c q _ _ _ _ ne k1 k2
/-- behind a call that changes the own list at p -/
theorem Stt.jar {E : Entry} {B H B' H' : Hp} {σ : L2.St} {n : Nat} {b : Bool} {p : Addr} {js js' : List PyData} {xs' : List V} (s : Stt K E B H σ Γ) (e : Γ[n]? = some (.own b p js))
    (k : ∀ a o, a ≠ p → H a = some o → H' a = some o) (bx : Ex B B') (bh : Ex B' H') (fr : ∀ a, B a = none → H a ≠ none → B' a = none) (hp : H' p = some (.lst xs')) (hd : DqA K B' xs' js') : Stt K E B' H' σ (Γ.set n (.own b p js')) := by
  obtain ⟨g1, ⟨xs, g2, g3⟩, g4, g5⟩ := s.getO e
  have hi : n < Γ.length := (List.getElem?_eq_some_iff.mp e).1
  have bp : B' p = none := fr p g4 (by rw [g2]; intro z; cases z)
  have hM : E.H p = none ∨ E.M p := by
    cases b with
    | true => exact .inl g5
    | false => exact .inr g5
  refine ⟨bh, s.bx.trans bx, s.eb, fun a o q m => ?_, fun a m z => ?_, fun a e1 e2 => ?_, by rw [List.length_set, s.len], fun j g q => ?_, ap_own js' s.ap e⟩
  · have ne : a ≠ p := fun z => by
      subst z
      rcases hM with z | z
      · rw [z] at q
        cases q
      · exact m z
    exact k a o ne (s.kp a o q m)
  · by_cases ne : a = p
    · subst ne
      rw [hp] at z
      cases z
    · cases q : H a with
      | none => exact s.mm a m q
      | some o =>
        rw [k a o ne q] at z
        cases z
  · refine fr a (s.fr a e1 e2) fun z => ?_
    by_cases m : E.M a
    · exact s.mm a m z
    · cases q : E.H a with
      | none => exact e2 q
      | some o =>
        rw [s.kp a o q m] at z
        cases z
  · by_cases q' : n = j
    · subst q'
      rw [List.getElem?_set_self hi] at q
      cases q
      exact ⟨some (.ref p), g1, rfl, ⟨xs', hp, hd⟩, bp, g5⟩
    · rw [List.getElem?_set_ne q'] at q
      obtain ⟨o, k1, k2⟩ := s.sl j g q
      refine ⟨o, k1, ?_⟩
      cases g with
      | un => exact k2
      | dat d =>
        obtain ⟨v, m1, m2⟩ := k2
        exact ⟨v, m1, m2.mono bx⟩
      | own c p' ds' =>
        obtain ⟨m1, ⟨zs, m2, m3⟩, m4, m5⟩ := k2
        have ne : p' ≠ p := fun z => by
          subst z
          exact s.ap n j p' b c js ds' q' e q
        exact ⟨m1, ⟨zs, k p' _ ne m2, m3.mono bx⟩, fr p' m4 (by rw [m2]; intro z; cases z), m5⟩
theorem ev_callJ {R : List PyData → List PyData → PyData → List PyData → Prop} {E0' : XK} {tr : TA} {n : Nat} {b : Bool} {p : Addr} {js0 js js' ds : List PyData} (e0 : Γ[n]? = some (.own b p js0)) (h : EvA K tr Γ ds Γ1) (e : Γ1[n]? = some (.own b p js)) (hR : R js ds d js') :
    EvX K (tCall (spJ K R) [] E0' (tCons (tVar n) tr)) Γ d (Γ1.set n (.own b p js')) := fun E σ B H s Q q => by
  obtain ⟨g1, _⟩ := s.getO e0
  refine ⟨.ref p, g1, h E σ B H s _ fun vs B1 H1 e1 s1 x1 => ?_⟩
  obtain ⟨_, ⟨xs, g2, g3⟩, g4, _⟩ := s1.getO e
  refine ⟨B1, p, vs, xs, js, ds, d, js', s1.ex, g4, g2, g3, by rw [List.append_nil], x1, hR, fun v B2 H2 xs' k bx bh fr hp hd v2 => q v B2 H2 (e1.trans bx) (s1.jar e k bx bh fr hp hd) v2⟩
end
end DL
end Part2

section Part3
set_option Elab.async false
set_option linter.all false
set_option maxRecDepth 100000
set_option maxHeartbeats 4000000
namespace DL
open PySem PySem.Spec PyProof.Rows L2
open Evl (Ex ex_rd ex_l ex_t fresh_back)
/-! ### what is walked -/
structure WalkD (K : PySem.W.Frag) (J : It) (n : Nat) (item : Nat → PyData) (An : Hp → Prop) : Prop where
  mono : ∀ B B', Ex B B' → An B → An B'
  go : ∀ (i : Nat) B H, Ex B H → An B → i < n → J.go i H
  stop : ∀ B H, Ex B H → An B → J.stop n H
  yld : ∀ (i : Nat) B H x H', Ex B H → An B → i < n → J.yld i H x H' → (H' = H ∧ Dq K B x (item i)) ∨ (∃ (T : Addr) (xs : List V) (ks : List PyData), H T = none ∧ x = .ref T ∧ H' = upd H T (.tup xs) ∧ DqA K B xs ks ∧ item i = .tuple ks)
def EvI (K : PySem.W.Frag) (wi : TI) (Γ : List Slot) (n : Nat) (item : Nat → PyData) (Γ' : List Slot) : Prop :=
  ∀ (E : Entry) (σ : L2.St) (B H : Hp), Stt K E B H σ Γ → ∀ R : It → Hp → Prop, (∀ J An B' H', Ex B B' → Stt K E B' H' σ Γ' → WalkD K J n item An → An B' → R J H') → wi σ H R
section
variable {K : PySem.W.Frag} {Γ Γ1 Γ2 Γ3 : List Slot} {ta tb te tc : TE} {d d1 d2 : PyData} {r r' : R2} {i j : Int}
def nthD (ds : List PyData) (i : Nat) : PyData := ds.getD i .none
theorem nthD_get {ds : List PyData} {i : Nat} (h : i < ds.length) : ds[i]? = some (nthD ds i) := by
  unfold nthD
  rw [List.getD_eq_getElem?_getD, List.getElem?_eq_getElem h]
  rfl
theorem walk_L {a : Addr} {xs : List V} {ds : List PyData} : WalkD K (Itl K a) ds.length (nthD ds) (fun B => B a = some (.lst xs) ∧ DqA K B xs ds) where
  mono := fun B B' e h => ⟨e _ _ h.1, h.2.mono e⟩
  go := fun i B H e h hi => by
    obtain ⟨v, h1, _⟩ := h.2.get (nthD_get hi)
    exact ⟨xs, v, SqL.of (e _ _ h.1), h1⟩
  stop := fun B H e h => ⟨xs, SqL.of (e _ _ h.1), by rw [h.2.length]; exact Nat.le_refl _⟩
  yld := fun i B H x H' e h hi y => by
    obtain ⟨e1, y⟩ := y
    obtain ⟨v, h1, h2⟩ := h.2.get (nthD_get hi)
    have q := y xs (SqL.of (e _ _ h.1))
    rw [h1] at q
    cases q
    exact .inl ⟨e1, h2⟩
theorem walk_T {a : Addr} {xs : List V} {ds : List PyData} : WalkD K (Itt K a) ds.length (nthD ds) (fun B => SqT K B a xs ∧ DqA K B xs ds) where
  mono := fun B B' e h => ⟨ex_t e h.1, h.2.mono e⟩
  go := fun i B H e h hi => by
    obtain ⟨v, h1, _⟩ := h.2.get (nthD_get hi)
    exact ⟨xs, v, ex_t e h.1, h1⟩
  stop := fun B H e h => ⟨xs, ex_t e h.1, by rw [h.2.length]; exact Nat.le_refl _⟩
  yld := fun i B H x H' e h hi y => by
    obtain ⟨e1, y⟩ := y
    obtain ⟨v, h1, h2⟩ := h.2.get (nthD_get hi)
    have q := y xs (ex_t e h.1)
    rw [h1] at q
    cases q
    exact .inl ⟨e1, h2⟩
theorem walk_R {lo : Int} {n : Nat} : WalkD K (Itr lo n) n (fun i => .int (lo + (i : Nat))) (fun _ => True) where
  mono := fun _ _ _ _ => True.intro
  go := fun i B H _ _ hi => hi
  stop := fun B H _ _ => Nat.le_refl _
  yld := fun i B H x H' _ _ hi y => by
    obtain ⟨e1, e2⟩ := y
    subst e2
    exact .inl ⟨e1, .int _⟩
theorem walk_Z {a b : Addr} {xs ys : List V} {ds es : List PyData} (hl : ds.length = es.length) : WalkD K (RZ.ItzT K a b) ds.length (fun i => .tuple [nthD ds i, nthD es i]) (fun B => (SqT K B a xs ∧ DqA K B xs ds) ∧ SqT K B b ys ∧ DqA K B ys es) where
  mono := fun B B' e h => ⟨⟨ex_t e h.1.1, h.1.2.mono e⟩, ex_t e h.2.1, h.2.2.mono e⟩
  go := fun i B H e h hi => by
    obtain ⟨v, h1, _⟩ := h.1.2.get (nthD_get hi)
    obtain ⟨w, h2, _⟩ := h.2.2.get (nthD_get (hl ▸ hi))
    exact ⟨xs, ys, v, w, ex_t e h.1.1, ex_t e h.2.1, h1, h2⟩
  stop := fun B H e h => ⟨xs, ys, ex_t e h.1.1, ex_t e h.2.1, .inl (by rw [h.1.2.length]; exact Nat.le_refl _)⟩
  yld := fun i B H x H' e h hi y => by
    obtain ⟨T, x1, y1, e1, hT, e2, f1, f2⟩ := y
    obtain ⟨v, h1, g1⟩ := h.1.2.get (nthD_get hi)
    obtain ⟨w, h2, g2⟩ := h.2.2.get (nthD_get (hl ▸ hi))
    have q1 := f1 xs (ex_t e h.1.1)
    have q2 := f2 ys (ex_t e h.2.1)
    rw [h1] at q1
    rw [h2] at q2
    cases q1
    cases q2
    exact .inr ⟨T, [x1, y1], [nthD ds i, nthD es i], hT, e1, e2, .cons g1 (.cons g2 .nil), rfl⟩
theorem ei_L {ds : List PyData} (h : EvX K te Γ (.list ds) Γ1) : EvI K (iList K te) Γ ds.length (nthD ds) Γ1 := fun E σ B H s R q => h E σ B H s _ fun x B1 H1 e1 s1 x1 => by
  cases x1 with
  | lst ha hxs => exact ⟨_, rfl, ⟨_, SqL.of (s1.ex _ _ ha)⟩, q _ _ B1 H1 e1 s1 walk_L ⟨ha, hxs⟩⟩
theorem ei_T {ds : List PyData} (h : EvX K te Γ (.tuple ds) Γ1) : EvI K (iTup K te) Γ ds.length (nthD ds) Γ1 := fun E σ B H s R q => h E σ B H s _ fun x B1 H1 e1 s1 x1 => by
  cases x1 with
  | tup ha hxs => exact ⟨_, rfl, ⟨_, ex_t s1.ex ha⟩, q _ _ B1 H1 e1 s1 walk_T ⟨ha, hxs⟩⟩
theorem ei_R1 {tr : TA} {n : Nat} (h : EvA K tr Γ [.int (n : Nat)] Γ1) (hn : n ≤ 1000000) : EvI K (iRng1 tr) Γ n (fun i => .int (i : Nat)) Γ1 := fun E σ B H s R q => h E σ B H s _ fun vs B1 H1 e1 s1 x1 => by
  obtain ⟨v, rfl, hv⟩ := x1.one
  cases hv
  refine ⟨(n : Nat), rfl, by omega, by omega, ?_⟩
  rw [Int.toNat_natCast]
  refine q _ (fun _ => True) B1 H1 e1 s1 ?_ True.intro
  have w := walk_R (K := K) (lo := 0) (n := n)
  have e : (fun i : Nat => PyData.int (0 + (i : Int))) = fun i : Nat => PyData.int (i : Int) := funext fun i => by rw [Int.zero_add]
  rw [e] at w
  exact w
theorem ei_R2 {tr : TA} {lo hi : Int} (h : EvA K tr Γ [.int lo, .int hi] Γ1) (h1 : -1000000 ≤ lo ∧ lo ≤ 1000000) (h2 : -1000000 ≤ hi ∧ hi ≤ 1000000) : EvI K (iRng2 tr) Γ (hi - lo).toNat (fun i => .int (lo + (i : Nat))) Γ1 := fun E σ B H s R q => h E σ B H s _ fun vs B1 H1 e1 s1 x1 => by
  obtain ⟨v, w, rfl, hv, hw⟩ := x1.two
  cases hv
  cases hw
  exact ⟨lo, hi, rfl, ⟨by omega, by omega, by omega, by omega⟩, q _ (fun _ => True) B1 H1 e1 s1 walk_R True.intro⟩
theorem ei_Z {tr : TA} {ds es : List PyData} (h : EvA K tr Γ [.tuple ds, .tuple es] Γ1) (hl : ds.length = es.length) : EvI K (RZ.iZipA K tr) Γ ds.length (fun i => .tuple [nthD ds i, nthD es i]) Γ1 := fun E σ B H s R q => h E σ B H s _ fun vs B1 H1 e1 s1 x1 => by
  obtain ⟨v, w, rfl, hv, hw⟩ := x1.two
  cases hv with
  | tup ha hxs =>
    cases hw with
    | tup hb hys =>
      rename_i a us b ws
      exact ⟨a, b, us, ws, rfl, .inr ⟨ex_t s1.ex ha, ex_t s1.ex hb, q _ _ B1 H1 e1 s1 (walk_Z hl) ⟨⟨ha, hxs⟩, hb, hys⟩⟩⟩
/-! ### targets -/
def setAll (σ : L2.St) : List (Nat × V) → L2.St
  | [] => σ
  | p :: l => setAll (σ.set p.1 (some p.2)) l
def EvG (K : PySem.W.Frag) (g : TG) (js : List Nat) (d : PyData) (Γ Γ' : List Slot) : Prop :=
  ∀ (E : Entry) (σ : L2.St) (B H : Hp) (v : V), Stt K E B H σ Γ → Dq K B v d → ∀ Q : L2.St → Hp → Prop, (∀ l, l.map (·.1) = js → Stt K E B H (setAll σ l) Γ' → Q (setAll σ l) H) → g v σ H Q
theorem eg_name {n : Nat} : EvG K (gName n) [n] d Γ (Γ.set n (.dat d)) := fun E σ B H v s h Q q => q [(n, v)] rfl (s.set h)
theorem eg_pair {m n : Nat} : EvG K (gTup K 2 (gCons (gName m) (gCons (gName n) gNil))) [m, n] (.tuple [d1, d2]) Γ ((Γ.set m (.dat d1)).set n (.dat d2)) := fun E σ B H v s h Q q => by
  cases h with
  | tup ha hxs =>
    obtain ⟨x, y, rfl, h1, h2⟩ := hxs.two
    exact ⟨_, _, rfl, ex_t s.ex ha, rfl, x, [y], rfl, y, [], rfl, rfl, q [(m, x), (n, y)] rfl ((s.set h1).set h2)⟩
theorem eg_pairL {m n : Nat} : EvG K (gUnl K 2 (gCons (gName m) (gCons (gName n) gNil))) [m, n] (.list [d1, d2]) Γ ((Γ.set m (.dat d1)).set n (.dat d2)) := fun E σ B H v s h Q q => by
  cases h with
  | lst ha hxs =>
    obtain ⟨x, y, rfl, h1, h2⟩ := hxs.two
    exact ⟨_, _, rfl, SqL.of (s.ex _ _ ha), rfl, x, [y], rfl, y, [], rfl, rfl, q [(m, x), (n, y)] rfl ((s.set h1).set h2)⟩
theorem wipe_get {σ : L2.St} {i : Nat} : ∀ {vs : List Nat}, i ∈ vs → i < σ.length → (wipe σ vs)[i]? = some none
  | v :: vs, h, hl => by
    show ((wipe σ vs).set v none)[i]? = some none
    by_cases e : v = i
    · subst e
      exact List.getElem?_set_self (by rw [wipe_length]; exact hl)
    · rw [List.getElem?_set_ne e]
      rcases List.mem_cons.mp h with q | q
      · exact absurd q.symm e
      · exact wipe_get q hl
theorem wipe_get_ne {σ : L2.St} {i : Nat} : ∀ {vs : List Nat}, i ∉ vs → (wipe σ vs)[i]? = σ[i]?
  | [], _ => rfl
  | v :: vs, h => by
    show ((wipe σ vs).set v none)[i]? = _
    have e : v ≠ i := fun z => h (by rw [z]; exact List.mem_cons_self)
    rw [List.getElem?_set_ne e]
    exact wipe_get_ne fun z => h (List.mem_cons_of_mem _ z)
theorem setAll_length (l : List (Nat × V)) : ∀ σ : L2.St, (setAll σ l).length = σ.length := by
  induction l with
  | nil => intro σ; rfl
  | cons p l ih =>
    intro σ
    show (setAll (σ.set p.1 (some p.2)) l).length = _
    rw [ih, List.length_set]
theorem setAll_get {i : Nat} (l : List (Nat × V)) : ∀ σ : L2.St, i ∉ l.map (·.1) → (setAll σ l)[i]? = σ[i]? := by
  induction l with
  | nil => intro σ _; rfl
  | cons p l ih =>
    intro σ h
    show (setAll (σ.set p.1 (some p.2)) l)[i]? = _
    rw [List.map_cons] at h
    rw [ih _ fun z => h (List.mem_cons_of_mem _ z)]
    exact List.getElem?_set_ne fun z => h (by rw [← z]; exact List.mem_cons_self)
theorem wipe_setAll {σ : L2.St} {vs : List Nat} {l : List (Nat × V)} (h : ∀ j ∈ l.map (·.1), j ∈ vs) : wipe (setAll (wipe σ vs) l) vs = wipe σ vs := by
  apply List.ext_getElem?
  intro i
  by_cases hi : i ∈ vs
  · by_cases hl : i < σ.length
    · rw [wipe_get hi (by rw [setAll_length, wipe_length]; exact hl), wipe_get hi hl]
    · rw [List.getElem?_eq_none (by rw [wipe_length, setAll_length, wipe_length]; omega), List.getElem?_eq_none (by rw [wipe_length]; omega)]
  · rw [wipe_get_ne hi, setAll_get _ _ fun z => hi (h i z)]
/-! ### comprehensions -/
def kept (n : Nat) (f : Nat → Bool) (v : Nat → PyData) : List PyData := ((List.range n).filter f).map v
theorem kept_yes {n : Nat} {f : Nat → Bool} {v : Nat → PyData} (h : f n = true) : kept (n + 1) f v = kept n f v ++ [v n] := by
  unfold kept
  rw [List.range_succ, List.filter_append, List.map_append, List.filter_cons, if_pos h] <;> rfl
theorem kept_no {n : Nat} {f : Nat → Bool} {v : Nat → PyData} (h : f n = false) : kept (n + 1) f v = kept n f v := by
  unfold kept
  rw [List.range_succ, List.filter_append, List.map_append, List.filter_cons, if_neg (by rw [h]; decide)]
  show _ ++ [] = _
  rw [List.append_nil]
theorem kept_len (n : Nat) (f : Nat → Bool) (v : Nat → PyData) : (kept n f v).length ≤ n := by
  unfold kept
  rw [List.length_map]
  have h := List.length_filter_le f (List.range n)
  rw [List.length_range] at h
  exact h
section
variable {E : Entry} {B H B' H' : Hp} {σ τ : L2.St} {Δ : List Slot} {p : Addr} {o : HO}
def NoOwn (Γ : List Slot) (p : Addr) : Prop := ∀ (j : Nat) (b : Bool) (es : List PyData), Γ[j]? = some (.own b p es) → False
/-- an object of nobody's is written -/
theorem Stt.mutX (s : Stt K E B H σ Γ) (hb : B p = none) (he : E.H p = none) (hn : NoOwn Γ p) : Stt K E B (upd H p o) σ Γ where
  ex := fun a x e => by
    rw [upd_ne (ne_of_none e hb)]
    exact s.ex a x e
  bx := s.bx
  eb := s.eb
  kp := fun a x e m => by
    rw [upd_ne (ne_of_none e he)]
    exact s.kp a x e m
  mm := fun a m z => by
    by_cases ne : a = p
    · subst ne
      rw [upd_same] at z
      cases z
    · rw [upd_ne ne] at z
      exact s.mm a m z
  fr := s.fr
  len := s.len
  sl := fun j g e => by
    obtain ⟨w, m1, m2⟩ := s.sl j g e
    refine ⟨w, m1, ?_⟩
    cases g with
    | un => exact m2
    | dat d => exact m2
    | own b q ds =>
      obtain ⟨n1, ⟨xs, n2, n3⟩, n4⟩ := m2
      have ne : q ≠ p := fun z => by
        subst z
        exact hn j _ _ e
      exact ⟨n1, ⟨xs, by rw [upd_ne ne]; exact n2, n3⟩, n4⟩
  ap := s.ap
/-- it is taken into the data -/
theorem Stt.takeX (s : Stt K E B H σ Γ) (hH : H p = some o) (hb : B p = none) (he : E.H p = none) (hn : NoOwn Γ p) : Stt K E (upd B p o) H σ Γ where
  ex := fun a x e => by
    by_cases ne : a = p
    · subst ne
      rw [upd_same] at e
      cases e
      exact hH
    · rw [upd_ne ne] at e
      exact s.ex a x e
  bx := s.bx.trans (Ex.new hb)
  eb := s.eb
  kp := s.kp
  mm := s.mm
  fr := fun a e1 e2 => by
    have ne : a ≠ p := fun z => e2 (by rw [z]; exact he)
    rw [upd_ne ne]
    exact s.fr a e1 e2
  len := s.len
  sl := fun j g e => by
    obtain ⟨w, m1, m2⟩ := s.sl j g e
    refine ⟨w, m1, ?_⟩
    cases g with
    | un => exact m2
    | dat d =>
      obtain ⟨v, k1, k2⟩ := m2
      exact ⟨v, k1, k2.mono (Ex.new hb)⟩
    | own b q ds =>
      obtain ⟨n1, ⟨xs, n2, n3⟩, n4, n5⟩ := m2
      have ne : q ≠ p := fun z => by
        subst z
        exact hn j _ _ e
      exact ⟨n1, ⟨xs, n2, n3.mono (Ex.new hb)⟩, by rw [upd_ne ne]; exact n4, n5⟩
  ap := s.ap
/-- an object of nobody's is told to the entry, that all leave it as it is -/
def Entry.with (E : Entry) (p : Addr) (o : HO) : Entry := ⟨E.B, upd E.H p o, E.M⟩
theorem Stt.toE (s : Stt K E B H σ Γ) (hH : H p = some o) (hb : B p = none) (he : E.H p = none) (hn : NoOwn Γ p) : Stt K (E.with p o) B H σ Γ where
  ex := s.ex
  bx := s.bx
  eb := s.eb.trans (Ex.new he)
  kp := fun a x e m => by
    have e' : (upd E.H p o) a = some x := e
    by_cases ne : a = p
    · subst ne
      rw [upd_same] at e'
      rw [hH]
      exact e'
    · rw [upd_ne ne] at e'
      exact s.kp a x e' m
  mm := s.mm
  fr := fun a e1 e2 => by
    by_cases ne : a = p
    · subst ne
      exact hb
    · have e2' : (upd E.H p o) a ≠ none := e2
      rw [upd_ne ne] at e2'
      exact s.fr a e1 e2'
  len := s.len
  sl := fun j g e => by
    obtain ⟨w, m1, m2⟩ := s.sl j g e
    refine ⟨w, m1, ?_⟩
    cases g with
    | un => exact m2
    | dat d => exact m2
    | own b q ds =>
      obtain ⟨n1, n2, n3, n4⟩ := m2
      refine ⟨n1, n2, n3, ?_⟩
      cases b with
      | true =>
        have ne : q ≠ p := fun z => by
          subst z
          exact hn j _ _ e
        show upd E.H p o q = none
        rw [upd_ne ne]
        exact n4
      | false => exact n4
  ap := s.ap
theorem Stt.fromE (s : Stt K (E.with p o) B H σ Γ) (eb : Ex E.B E.H) (he : E.H p = none) : Stt K E B H σ Γ where
  ex := s.ex
  bx := s.bx
  eb := eb
  kp := fun a x e m => s.kp a x (by show upd E.H p o a = some x; rw [upd_ne (ne_of_none e he)]; exact e) m
  mm := s.mm
  fr := fun a e1 e2 => s.fr a e1 (by
    show upd E.H p o a ≠ none
    have ne : a ≠ p := fun z => e2 (by rw [z]; exact he)
    rw [upd_ne ne]
    exact e2)
  len := s.len
  sl := fun j g e => by
    obtain ⟨w, m1, m2⟩ := s.sl j g e
    refine ⟨w, m1, ?_⟩
    cases g with
    | un => exact m2
    | dat d => exact m2
    | own b q ds =>
      obtain ⟨n1, n2, n3, n4⟩ := m2
      refine ⟨n1, n2, n3, ?_⟩
      cases b with
      | true =>
        have n4' : upd E.H p o q = none := n4
        have ne : q ≠ p := fun z => by
          subst z
          rw [upd_same] at n4'
          cases n4'
        rw [upd_ne ne] at n4'
        exact n4'
      | false => exact n4
  ap := s.ap
theorem Stt.keepE (s : Stt K (E.with p o) B H σ Γ) (hb : E.B p = none) (hm : ¬ E.M p) : H p = some o ∧ B p = none ∧ NoOwn Γ p := by
  refine ⟨s.kp p o (by show upd E.H p o p = some o; exact upd_same) hm, s.fr p hb (by show upd E.H p o p ≠ none; rw [upd_same]; intro z; cases z), fun j b es e => ?_⟩
  obtain ⟨_, _, _, g⟩ := s.getO e
  cases b with
  | true =>
    have g' : upd E.H p o p = none := g
    rw [upd_same] at g'
    cases g'
  | false => exact hm g
/-- the slots as they were, own lists as they are now -/
theorem Stt.comeBack (s : Stt K E B H σ Γ) (t : Stt K E B' H' τ Δ) (e : Ex B B') (hl : Γ1.length = Γ.length) (ho : ∀ (k : Nat) b p ds, Γ1[k]? = some (.own b p ds) → Δ[k]? = some (.own b p ds) ∧ ∃ ds0, Γ[k]? = some (.own b p ds0)) (hd : ∀ (k : Nat) d, Γ1[k]? = some (.dat d) → Γ[k]? = some (.dat d)) : Stt K E B' H' σ Γ1 where
  ex := t.ex
  bx := t.bx
  eb := t.eb
  kp := t.kp
  mm := t.mm
  fr := t.fr
  len := by rw [s.len, hl]
  sl := fun k g q => by
    cases g with
    | un =>
      have hlt : k < σ.length := by
        rw [s.len, ← hl]
        exact (List.getElem?_eq_some_iff.mp q).1
      exact ⟨σ[k], List.getElem?_eq_getElem hlt, True.intro⟩
    | dat d =>
      obtain ⟨v, h1, h2⟩ := s.get (hd k d q)
      exact ⟨some v, h1, v, rfl, h2.mono e⟩
    | own b p ds =>
      obtain ⟨h1, ds0, h2⟩ := ho k b p ds q
      obtain ⟨_, g2⟩ := t.getO h1
      obtain ⟨g3, _⟩ := s.getO h2
      exact ⟨some (.ref p), g3, rfl, g2⟩
  ap := fun a c q b1 b2 ds es ne e1 e2 => t.ap a c q _ _ _ _ ne (ho a _ _ _ e1).1 (ho c _ _ _ e2).1
end
/-- a comprehension whose turns may change own lists: Γs i ahead of turn i, Γt i behind the target, Γu i behind the test, Γv i behind the element -/
theorem ev_lcG {wi : TI} {g : TG} {tt : TT} {vs js : List Nat} {n : Nat} {item : Nat → PyData} {Γs Γt Γu : Nat → List Slot} (f : Nat → Bool) (v : Nat → PyData) (h : EvI K wi Γ n item (Γs 0)) (hn : n ≤ 100000) (hjs : ∀ j ∈ js, j ∈ vs)
    (hg : ∀ i, i < n → EvG K g js (item i) (wipeG (Γs i) vs) (Γt i)) (ht : ∀ i, i < n → EvB K tt (Γt i) (f i) (if f i = true then Γt i else Γu i)) (he : ∀ i, i < n → f i = true → EvX K te (Γt i) (v i) (Γu i))
    (hl : ∀ i, i < n → (Γs (i + 1)).length = (Γs i).length) (ho : ∀ i, i < n → ∀ (k : Nat) b p ds, (Γs (i + 1))[k]? = some (.own b p ds) → (Γu i)[k]? = some (.own b p ds) ∧ ∃ ds0, (Γs i)[k]? = some (.own b p ds0)) (hd : ∀ i, i < n → ∀ (k : Nat) d, (Γs (i + 1))[k]? = some (.dat d) → (Γs i)[k]? = some (.dat d)) :
    EvX K (tLc wi g tt te vs) Γ (.list (kept n f v)) (Γs n) := fun E σ B H s Q q => h E σ B H s _ fun J An B1 H1 e1 s1 W a1 => fun D hD => by
  have hED : E.H D = none := s1.newH hD
  have hEB : E.B D = none := fresh_back s1.eb hED
  have hEM : ¬ E.M D := fun m => s1.mm D m hD
  refine ⟨fun i m H' => m = n - i ∧ i ≤ n ∧ ∃ B' acc, Ex B1 B' ∧ Stt K E B' H' σ (Γs i) ∧ An B' ∧ B' D = none ∧ H' D = some (.lst acc) ∧ DqA K B' acc (kept i f v) ∧ NoOwn (Γs i) D,
    ⟨n, by omega, Nat.zero_le _, B1, [], Ex.refl B1, s1.allocO hD, a1, fresh_back s1.ex hD, upd_same, .nil, s1.no_own hD⟩, ?_⟩
  rintro i m H' ⟨rfl, hi, B', acc, e', s', a', bD, hL, hA, nD⟩
  by_cases hlt : i < n
  · refine .inr ⟨W.go i B' H' s'.ex a' hlt, fun H'' => i + 1 ≤ n ∧ ∃ B'' acc', Ex B1 B'' ∧ Stt K E B'' H'' σ (Γs (i + 1)) ∧ An B'' ∧ B'' D = none ∧ H'' D = some (.lst acc') ∧ DqA K B'' acc' (kept (i + 1) f v) ∧ NoOwn (Γs (i + 1)) D, fun H'' hN => ⟨n - (i + 1), by omega, rfl, hN.1, hN.2⟩, fun x H2 hy => ?_⟩
    have hitem : ∃ B2, Ex B' B2 ∧ Stt K E B2 H2 σ (Γs i) ∧ B2 D = none ∧ H2 D = some (.lst acc) ∧ Dq K B2 x (item i) := by
      rcases W.yld i B' H' x H2 s'.ex a' hlt hy with ⟨rfl, hx⟩ | ⟨T, xs, ks, hT, rfl, rfl, hxs, hit⟩
      · exact ⟨B', Ex.refl B', s', bD, hL, hx⟩
      · have nTD : D ≠ T := ne_of_none hL hT
        have bT : B' T = none := fresh_back s'.ex hT
        refine ⟨upd B' T (.tup xs), Ex.new bT, s'.alloc hT, by rw [upd_ne nTD]; exact bD, by rw [upd_ne nTD]; exact hL, ?_⟩
        rw [hit]
        exact .tup (SqT.of upd_same) (hxs.mono (Ex.new bT))
    obtain ⟨B2, e2, s2, bD2, hL2, hx2⟩ := hitem
    have s2E := s2.toE hL2 bD2 hED nD
    refine hg i hlt (E.with D (.lst acc)) (wipe σ vs) B2 H2 x (s2E.wipe vs) hx2 _ fun l hl' s3 => ⟨wipe_setAll (by rw [hl']; exact hjs), ?_⟩
    refine ht i hlt _ _ B2 H2 s3 _ fun B3 H3 e3 s4 => ?_
    cases hf : f i with
    | true =>
      rw [hf, if_pos rfl] at s4
      refine iteT ?_
      refine he i hlt hf _ _ B3 H3 s4 _ fun y B4 H4 e4 s5 y5 => ?_
      obtain ⟨k1, k2, k3⟩ := s5.keepE hEB hEM
      have s6 := s5.fromE s1.eb hED
      have s7 : Stt K E B4 H4 σ (Γs (i + 1)) := s2.comeBack s6 (e3.trans e4) (hl i hlt) (ho i hlt) (hd i hlt)
      have nD' : NoOwn (Γs (i + 1)) D := fun j b es e => k3 j b es (ho i hlt j b D es e).1
      refine ⟨acc, k1, ?_, hlt, B4, acc ++ [y], ((e'.trans e2).trans e3).trans e4, s7.mutX k2 hED nD', W.mono _ _ ((e2.trans e3).trans e4) a', k2, upd_same, ?_, nD'⟩
      · rw [hA.length]
        exact Nat.lt_of_le_of_lt (Nat.le_trans (kept_len i f v) (show i ≤ 100000 by omega)) (by decide)
      · rw [kept_yes hf]
        exact (hA.mono ((e2.trans e3).trans e4)).append (.cons y5 .nil)
    | false =>
      rw [hf, if_neg Bool.false_ne_true] at s4
      refine iteF ?_
      obtain ⟨k1, k2, k3⟩ := s4.keepE hEB hEM
      have s6 := s4.fromE s1.eb hED
      have s7 : Stt K E B3 H3 σ (Γs (i + 1)) := s2.comeBack s6 e3 (hl i hlt) (ho i hlt) (hd i hlt)
      refine ⟨hlt, B3, acc, (e'.trans e2).trans e3, s7, W.mono _ _ (e2.trans e3) a', k2, k1, ?_, fun j b es e => k3 j b es (ho i hlt j b D es e).1⟩
      rw [kept_no hf]
      exact hA.mono (e2.trans e3)
  · have e : i = n := by omega
    subst e
    refine .inl ⟨W.stop B' H' s'.ex a', ?_⟩
    exact q _ (upd B' D (.lst acc)) H' (e1.trans (e'.trans (Ex.new bD))) (s'.takeX hL bD hED nD) (.lst upd_same (hA.mono (Ex.new bD)))
/-- .. that change nothing -/
theorem ev_lcF {wi : TI} {g : TG} {tt : TT} {vs js : List Nat} {n : Nat} {item : Nat → PyData} {Γt : Nat → List Slot} (f : Nat → Bool) (v : Nat → PyData) (h : EvI K wi Γ n item Γ1) (hn : n ≤ 100000) (hjs : ∀ j ∈ js, j ∈ vs)
    (hg : ∀ i, i < n → EvG K g js (item i) (wipeG Γ1 vs) (Γt i)) (ht : ∀ i, i < n → EvB K tt (Γt i) (f i) (Γt i)) (he : ∀ i, i < n → f i = true → EvX K te (Γt i) (v i) (Γt i))
    (ho : ∀ i, i < n → ∀ (k : Nat) b p ds, Γ1[k]? = some (.own b p ds) → (Γt i)[k]? = some (.own b p ds)) :
    EvX K (tLc wi g tt te vs) Γ (.list (kept n f v)) Γ1 :=
  ev_lcG (Γs := fun _ => Γ1) (Γt := Γt) (Γu := Γt) f v h hn hjs hg (fun i hi => by
    have q := ht i hi
    cases hf : f i with
    | true =>
      rw [hf] at q
      rw [if_pos rfl]
      exact q
    | false =>
      rw [hf] at q
      rw [if_neg Bool.false_ne_true]
      exact q) he (fun _ _ => rfl) (fun i hi k b p ds e => ⟨ho i hi k b p ds e, ds, e⟩) (fun _ _ _ _ e => e)
theorem kept_all (n : Nat) (v : Nat → PyData) : kept n (fun _ => true) v = (List.range n).map v := by
  unfold kept
  rw [List.filter_eq_self.mpr fun _ _ => rfl]
theorem eb_yes : EvB K tYes Γ true Γ := fun E σ B H s Q q => q B H (Ex.refl B) s
/-- no test: the elements told as a list -/
theorem ev_lc {wi : TI} {g : TG} {vs js : List Nat} {n : Nat} {item : Nat → PyData} {Γt : Nat → List Slot} (es : List PyData) (h : EvI K wi Γ n item Γ1) (hn : n ≤ 100000) (hes : es.length = n) (hjs : ∀ j ∈ js, j ∈ vs)
    (hg : ∀ i, i < n → EvG K g js (item i) (wipeG Γ1 vs) (Γt i)) (he : ∀ i, i < n → EvX K te (Γt i) (nthD es i) (Γt i))
    (ho : ∀ i, i < n → ∀ (k : Nat) b p ds, Γ1[k]? = some (.own b p ds) → (Γt i)[k]? = some (.own b p ds)) :
    EvX K (tLc wi g tYes te vs) Γ (.list es) Γ1 := by
  have e : es = kept n (fun _ => true) (nthD es) := by
    rw [kept_all]
    apply List.ext_getElem?
    intro i
    by_cases hi : i < n
    · rw [nthD_get (by omega), List.getElem?_map, List.getElem?_range hi]
      rfl
    · rw [List.getElem?_eq_none (by omega), List.getElem?_eq_none (by rw [List.length_map, List.length_range]; omega)]
  rw [e]
  exact ev_lcF (fun _ => true) (nthD es) h hn hjs hg (fun i hi => eb_yes) (fun i hi _ => he i hi) ho
end
end DL
end Part3

section Part4
set_option Elab.async false
set_option linter.all false
set_option maxRecDepth 100000
set_option maxHeartbeats 4000000
namespace DL
open PySem PySem.Spec PyProof.Rows L2
open Evl (Ex ex_rd ex_l ex_t fresh_back)
/-! ### statements -/
structure Post where
  nx : List Slot → Prop
  rt : PyData → List Slot → Prop
  bk : List Slot → Prop := fun _ => False
  ct : List Slot → Prop := fun _ => False
def RunS (K : PySem.W.Frag) (ts : TS) (Γ : List Slot) (P : Post) : Prop :=
  ∀ (E : Entry) (σ : L2.St) (B H : Hp), Stt K E B H σ Γ → ∀ D : Ends, (∀ σ' B' H' Γ', Ex B B' → P.nx Γ' → Stt K E B' H' σ' Γ' → D.nx σ' H') →
    (∀ v σ' B' H' d Γ', Ex B B' → P.rt d Γ' → Stt K E B' H' σ' Γ' → Dq K B' v d → D.rt v H') →
    (∀ σ' B' H' Γ', Ex B B' → P.bk Γ' → Stt K E B' H' σ' Γ' → D.bk σ' H') → (∀ σ' B' H' Γ', Ex B B' → P.ct Γ' → Stt K E B' H' σ' Γ' → D.ct σ' H') → ts D σ H
section
variable {K : PySem.W.Frag} {Γ Γ1 Γ2 Γ3 : List Slot} {ta tb te tc : TE} {tt tu : TT} {d d1 d2 : PyData} {r r' : R2} {i j : Int} {P P' : Post} {t u : TS} {b : Bool}
theorem r_mono (h : RunS K t Γ P') (h1 : ∀ Γ', P'.nx Γ' → P.nx Γ') (h2 : ∀ d Γ', P'.rt d Γ' → P.rt d Γ') (h3 : ∀ Γ', P'.bk Γ' → P.bk Γ') (h4 : ∀ Γ', P'.ct Γ' → P.ct Γ') : RunS K t Γ P := fun E σ B H s D n rr bb c =>
  h E σ B H s D (fun σ' B' H' Γ' e p => n σ' B' H' Γ' e (h1 _ p)) (fun v σ' B' H' d Γ' e p => rr v σ' B' H' d Γ' e (h2 _ _ p)) (fun σ' B' H' Γ' e p => bb σ' B' H' Γ' e (h3 _ p)) (fun σ' B' H' Γ' e p => c σ' B' H' Γ' e (h4 _ p))
theorem r_seq (h : RunS K t Γ { P with nx := fun Γ' => RunS K u Γ' P }) : RunS K (tSeq t u) Γ P := fun E σ B H s D n rr bb c =>
  h E σ B H s { D with nx := u D } (fun σ' B' H' Γ' e p s' => p E σ' B' H' s' D (fun σ2 B2 H2 Γ2 e2 => n σ2 B2 H2 Γ2 (e.trans e2)) (fun v σ2 B2 H2 d Γ2 e2 => rr v σ2 B2 H2 d Γ2 (e.trans e2)) (fun σ2 B2 H2 Γ2 e2 => bb σ2 B2 H2 Γ2 (e.trans e2)) (fun σ2 B2 H2 Γ2 e2 => c σ2 B2 H2 Γ2 (e.trans e2))) rr bb c
theorem r_next (h : P.nx Γ) : RunS K tNext Γ P := fun E σ B H s D n rr bb c => n σ B H Γ (Ex.refl B) h s
theorem r_break (h : P.bk Γ) : RunS K tBreak Γ P := fun E σ B H s D n rr bb c => bb σ B H Γ (Ex.refl B) h s
theorem r_cont (h : P.ct Γ) : RunS K tCont Γ P := fun E σ B H s D n rr bb c => c σ B H Γ (Ex.refl B) h s
theorem r_asg {n : Nat} (h : EvX K te Γ d Γ1) (k : P.nx (Γ1.set n (.dat d))) : RunS K (tAsg te (gName n)) Γ P := fun E σ B H s D nn rr bb c =>
  h E σ B H s _ fun v B1 H1 e1 s1 v1 => nn _ B1 H1 _ e1 k (s1.set v1)
theorem r_asgN {n : Nat} {ds : List PyData} (h : EvN K te Γ ds Γ1) (k : ∀ p, P.nx (Γ1.set n (.own true p ds))) : RunS K (tAsg te (gName n)) Γ P := fun E σ B H s D nn rr bb c =>
  h E σ B H s _ fun p xs B1 H1 e1 s1 b1 h1 no hp hd => nn _ B1 H1 _ e1 (k p) (s1.setO hp hd b1 h1 no)
theorem r_asgG {g : TG} {js : List Nat} (h : EvX K te Γ d Γ1) (hg : EvG K g js d Γ1 Γ2) (k : P.nx Γ2) : RunS K (tAsg te g) Γ P := fun E σ B H s D nn rr bb c =>
  h E σ B H s _ fun v B1 H1 e1 s1 v1 => hg E σ B1 H1 v s1 v1 _ fun l _ s2 => nn _ B1 H1 _ e1 k s2
theorem r_par {m n : Nat} {tr : TA} (h : EvA K tr Γ [d1, d2] Γ1) (k : P.nx ((Γ1.set m (.dat d1)).set n (.dat d2))) : RunS K (tPar m n tr) Γ P := fun E σ B H s D nn rr bb c =>
  h E σ B H s _ fun vs B1 H1 e1 s1 x1 => by
    obtain ⟨v, w, rfl, h1, h2⟩ := x1.two
    exact ⟨v, w, rfl, nn _ B1 H1 _ e1 k ((s1.set h1).set h2)⟩
theorem r_ret (h : EvX K te Γ d Γ1) (k : P.rt d Γ1) : RunS K (tRet te) Γ P := fun E σ B H s D nn rr bb c =>
  h E σ B H s _ fun v B1 H1 e1 s1 v1 => rr v σ B1 H1 d Γ1 e1 k s1 v1
theorem r_drop (h : EvX K te Γ d Γ1) (k : P.nx Γ1) : RunS K (tDrop te) Γ P := fun E σ B H s D nn rr bb c =>
  h E σ B H s _ fun v B1 H1 e1 s1 v1 => nn σ B1 H1 Γ1 e1 k s1
theorem r_if (h : EvB K tt Γ b Γ1) (h1 : b = true → RunS K t Γ1 P) (h2 : b = false → RunS K u Γ1 P) : RunS K (tIfS tt t u) Γ P := fun E σ B H s D nn rr bb c =>
  h E σ B H s _ fun B1 H1 e1 s1 => by
    cases b with
    | true => exact iteT (h1 rfl E σ B1 H1 s1 D (fun σ2 B2 H2 Γ2 e2 => nn σ2 B2 H2 Γ2 (e1.trans e2)) (fun v σ2 B2 H2 d Γ2 e2 => rr v σ2 B2 H2 d Γ2 (e1.trans e2)) (fun σ2 B2 H2 Γ2 e2 => bb σ2 B2 H2 Γ2 (e1.trans e2)) (fun σ2 B2 H2 Γ2 e2 => c σ2 B2 H2 Γ2 (e1.trans e2)))
    | false => exact iteF (h2 rfl E σ B1 H1 s1 D (fun σ2 B2 H2 Γ2 e2 => nn σ2 B2 H2 Γ2 (e1.trans e2)) (fun v σ2 B2 H2 d Γ2 e2 => rr v σ2 B2 H2 d Γ2 (e1.trans e2)) (fun σ2 B2 H2 Γ2 e2 => bb σ2 B2 H2 Γ2 (e1.trans e2)) (fun σ2 B2 H2 Γ2 e2 => c σ2 B2 H2 Γ2 (e1.trans e2)))
theorem r_aug {n : Nat} {f : Int → Int → Int} (hx : Γ[n]? = some (.dat (.int i))) (h : EvX K te Γ (.int j) Γ1) (k : P.nx (Γ1.set n (.dat (.int (f i j))))) : RunS K (tAug n te (ipI f)) Γ P := fun E σ B H s D nn rr bb c => by
  obtain ⟨v, g1, g2⟩ := s.get hx
  cases g2
  refine ⟨.int i, g1, h E σ B H s _ fun w B1 H1 e1 s1 w1 => ?_⟩
  cases w1
  exact ⟨i, j, rfl, rfl, nn _ B1 H1 _ e1 k (s1.set (.int _))⟩
/-- own.append(e) -/
theorem r_app {n : Nat} {bo : Bool} {p : Addr} {ds0 ds : List PyData} (e0 : Γ[n]? = some (.own bo p ds0)) (h : EvX K te Γ d Γ1) (e : Γ1[n]? = some (.own bo p ds)) (hl : ds.length < 100000) (k : P.nx (Γ1.set n (.own bo p (ds ++ [d])))) :
    RunS K (tDrop (tBM K "list" rAppend (tVar n) (tCons te tNil))) Γ P := fun E σ B H s D nn rr bb c => by
  obtain ⟨g1, ⟨xs, g2, g3⟩, _⟩ := s.getO e0
  refine ⟨.ref p, g1, .inl ⟨rfl, xs, SqL.of g2⟩, h E σ B H s _ fun v B1 H1 e1 s1 v1 => ?_⟩
  obtain ⟨_, ⟨ys, k2, k3⟩, k4, k5⟩ := s1.getO e
  exact ⟨p, ys, v, rfl, rfl, k2, by rw [k3.length]; exact Nat.lt_of_lt_of_le hl (by decide), nn σ B1 _ _ e1 k (s1.mut e (k3.append (.cons v1 .nil)))⟩
theorem ixN_natL {n m : Nat} (h : m < n) : ixN n (m : Int) = some m := by
  unfold ixN
  rw [if_pos (by omega), if_pos (by omega)]
  simp
/-- own[i] = e -/
theorem r_setO {n m : Nat} {bo : Bool} {p : Addr} {ds : List PyData} (h : EvX K te Γ d Γ1) (e1 : Γ1[n]? = some (.own bo p ds)) (hi : EvX K ta Γ1 (.int (m : Nat)) Γ2) (e2 : Γ2[n]? = some (.own bo p ds)) (hm : m < ds.length) (k : P.nx (Γ2.set n (.own bo p (ds.set m d)))) :
    RunS K (tAsg te (gSub (tVar n) ta rSetL)) Γ P := fun E σ B H s D nn rr bb c =>
  h E σ B H s _ fun v B1 H1 x1 s1 v1 => by
    obtain ⟨g1, _⟩ := s1.getO e1
    refine ⟨.ref p, g1, hi E σ B1 H1 s1 _ fun w B2 H2 x2 s2 w2 => ?_⟩
    cases w2
    obtain ⟨_, ⟨xs, k2, k3⟩, _⟩ := s2.getO e2
    exact ⟨p, xs, (m : Nat), m, rfl, rfl, k2, ixN_natL (by rw [k3.length]; exact hm), nn σ B2 _ _ (x1.trans x2) k (s2.mut e2 (k3.set (v1.mono x2) m))⟩
theorem r_freeze {n : Nat} {p : Addr} {ds : List PyData} (e : Γ[n]? = some (.own true p ds)) (h : RunS K t (Γ.set n (.dat (.list ds))) P) : RunS K t Γ P := fun E σ B H s D nn rr bb c => by
  obtain ⟨B', bx, s'⟩ := s.freeze e
  exact h E σ B' H s' D (fun σ2 B2 H2 Γ2 e2 => nn σ2 B2 H2 Γ2 (bx.trans e2)) (fun v σ2 B2 H2 d Γ2 e2 => rr v σ2 B2 H2 d Γ2 (bx.trans e2)) (fun σ2 B2 H2 Γ2 e2 => bb σ2 B2 H2 Γ2 (bx.trans e2)) (fun σ2 B2 H2 Γ2 e2 => c σ2 B2 H2 Γ2 (bx.trans e2))
theorem r_for {wi : TI} {g : TG} {js : List Nat} {n : Nat} {item : Nat → PyData} (Iv : Nat → List Slot → Prop) (h : EvI K wi Γ n item Γ1) (h0 : Iv 0 Γ1)
    (hs : ∀ i Γ', i < n → Iv i Γ' → ∃ Γt, EvG K g js (item i) Γ' Γt ∧ RunS K t Γt ⟨Iv (i + 1), P.rt, P.nx, Iv (i + 1)⟩) (hd : ∀ Γ', Iv n Γ' → P.nx Γ') : RunS K (tFor wi g t) Γ P := fun E σ B H s D nn rr bb c =>
  h E σ B H s _ fun J An B1 H1 e1 s1 W a1 => by
    refine ⟨fun i m σ' H' => m = n - i ∧ i ≤ n ∧ ∃ B' Γ', Ex B1 B' ∧ Stt K E B' H' σ' Γ' ∧ An B' ∧ Iv i Γ', ⟨n, by omega, Nat.zero_le _, B1, Γ1, Ex.refl B1, s1, a1, h0⟩, ?_⟩
    rintro i m σ' H' ⟨rfl, hi, B', Γ', e', s', a', iv⟩
    by_cases hlt : i < n
    · refine .inr ⟨W.go i B' H' s'.ex a' hlt, fun σ2 H2 => i + 1 ≤ n ∧ ∃ B2 Γ2, Ex B1 B2 ∧ Stt K E B2 H2 σ2 Γ2 ∧ An B2 ∧ Iv (i + 1) Γ2, fun σ2 H2 hN => ⟨n - (i + 1), by omega, rfl, hN.1, hN.2⟩, fun x H2 hy => ?_⟩
      have hitem : ∃ B2, Ex B' B2 ∧ Stt K E B2 H2 σ' Γ' ∧ Dq K B2 x (item i) := by
        rcases W.yld i B' H' x H2 s'.ex a' hlt hy with ⟨rfl, hx⟩ | ⟨T, xs, ks, hT, rfl, rfl, hxs, hit⟩
        · exact ⟨B', Ex.refl B', s', hx⟩
        · have bT : B' T = none := fresh_back s'.ex hT
          refine ⟨upd B' T (.tup xs), Ex.new bT, s'.alloc hT, ?_⟩
          rw [hit]
          exact .tup (SqT.of upd_same) (hxs.mono (Ex.new bT))
      obtain ⟨B2, e2, s2, x2⟩ := hitem
      obtain ⟨Γt, hg, hb⟩ := hs i Γ' hlt iv
      refine hg E σ' B2 H2 x s2 x2 _ fun l _ s3 => ?_
      have a2 := W.mono _ _ e2 a'
      exact hb E _ B2 H2 s3 _ (fun σ4 B4 H4 Γ4 e4 p s4 => ⟨hlt, B4, Γ4, (e'.trans e2).trans e4, s4, W.mono _ _ e4 a2, p⟩) (fun v σ4 B4 H4 d Γ4 e4 p s4 v4 => rr v σ4 B4 H4 d Γ4 (e1.trans ((e'.trans e2).trans e4)) p s4 v4)
        (fun σ4 B4 H4 Γ4 e4 p s4 => nn σ4 B4 H4 Γ4 (e1.trans ((e'.trans e2).trans e4)) p s4) (fun σ4 B4 H4 Γ4 e4 p s4 => ⟨hlt, B4, Γ4, (e'.trans e2).trans e4, s4, W.mono _ _ e4 a2, p⟩)
    · have e : i = n := by omega
      subst e
      exact .inl ⟨W.stop B' H' s'.ex a', nn σ' B' H' Γ' (e1.trans e') (hd Γ' iv) s'⟩
theorem r_while (W : Nat → List Slot → Prop) (m0 : Nat) (h0 : W m0 Γ)
    (hs : ∀ m Γ', W m Γ' → ∃ b Γ1, EvB K tt Γ' b Γ1 ∧ (b = true → RunS K t Γ1 ⟨fun Γ2 => ∃ m', m' < m ∧ W m' Γ2, P.rt, P.nx, fun Γ2 => ∃ m', m' < m ∧ W m' Γ2⟩) ∧ (b = false → P.nx Γ1)) : RunS K (tWhile tt t) Γ P := fun E σ B H s D nn rr bb c => by
  refine ⟨fun m σ' H' => ∃ B' Γ', Ex B B' ∧ Stt K E B' H' σ' Γ' ∧ W m Γ', ⟨m0, B, Γ, Ex.refl B, s, h0⟩, ?_⟩
  rintro m σ' H' ⟨B', Γ', e', s', w⟩
  obtain ⟨b, Γ1, hb, h1, h2⟩ := hs m Γ' w
  refine hb E σ' B' H' s' _ fun B1 H1 e1 s1 => ?_
  cases b with
  | true =>
    refine iteT ⟨fun σ2 H2 => ∃ m', m' < m ∧ ∃ B2 Γ2, Ex B B2 ∧ Stt K E B2 H2 σ2 Γ2 ∧ W m' Γ2, fun σ2 H2 q => q, ?_⟩
    exact h1 rfl E σ' B1 H1 s1 _ (fun σ2 B2 H2 Γ2 e2 ⟨m', lt, w'⟩ s2 => ⟨m', lt, B2, Γ2, (e'.trans e1).trans e2, s2, w'⟩) (fun v σ2 B2 H2 d Γ2 e2 => rr v σ2 B2 H2 d Γ2 ((e'.trans e1).trans e2))
      (fun σ2 B2 H2 Γ2 e2 => nn σ2 B2 H2 Γ2 ((e'.trans e1).trans e2)) (fun σ2 B2 H2 Γ2 e2 ⟨m', lt, w'⟩ s2 => ⟨m', lt, B2, Γ2, (e'.trans e1).trans e2, s2, w'⟩)
  | false => exact iteF (nn σ' B1 H1 Γ1 (e'.trans e1) (h2 rfl) s1)
end

/-! ### defs -/
theorem start_len (N : List Str) (vs : List V) (h : vs.length ≤ N.length) : (L2.start N vs).length = N.length := by
  unfold L2.start
  rw [List.length_append, List.length_map, List.length_replicate]
  omega
def slots (n : Nat) (gs : List Slot) : List Slot := gs ++ List.replicate (n - gs.length) .un
theorem start_st {K : PySem.W.Frag} {E : Entry} {B H : Hp} {N : List Str} {vs : List V} {gs : List Slot} (hl : vs.length ≤ N.length) (hg : gs.length = vs.length) (ex : Ex B H) (bx : Ex E.B B) (eb : Ex E.B E.H) (kp : ∀ a o, E.H a = some o → ¬ E.M a → H a = some o) (mm : ∀ a, E.M a → H a ≠ none)
    (fr : ∀ a, E.B a = none → E.H a ≠ none → B a = none) (h : ∀ (i : Nat) (g : Slot) (v : V), gs[i]? = some g → vs[i]? = some v → SlotOk K E B H (some v) g)
    (ap : ∀ (i j : Nat) (p : Addr) (b c : Bool) (ds es : List PyData), i ≠ j → gs[i]? = some (.own b p ds) → gs[j]? = some (.own c p es) → False) : Stt K E B H (L2.start N vs) (slots N.length gs) where
  ex := ex
  bx := bx
  eb := eb
  kp := kp
  mm := mm
  fr := fr
  len := by
    rw [start_len N vs hl]
    unfold slots
    rw [List.length_append, List.length_replicate]
    omega
  sl := fun i g e => by
    unfold slots at e
    unfold L2.start
    by_cases hi : i < gs.length
    · rw [List.getElem?_append_left hi] at e
      have hv : i < vs.length := by omega
      refine ⟨some vs[i], ?_, h i g vs[i] e (List.getElem?_eq_getElem hv)⟩
      rw [List.getElem?_append_left (by rw [List.length_map]; exact hv), List.getElem?_map, List.getElem?_eq_getElem hv]
      rfl
    · rw [List.getElem?_append_right (by omega)] at e
      have hn : i - gs.length < N.length - gs.length := by
        have := (List.getElem?_eq_some_iff.mp e).1
        rw [List.length_replicate] at this
        exact this
      rw [List.getElem?_replicate, if_pos hn] at e
      cases e
      refine ⟨none, ?_, True.intro⟩
      rw [List.getElem?_append_right (by rw [List.length_map]; omega), List.getElem?_replicate, List.length_map, if_pos (by omega)]
  ap := fun i j p b c ds es ne e1 e2 => by
    have key : ∀ (k : Nat) (b : Bool) (fs : List PyData), (slots N.length gs)[k]? = some (.own b p fs) → gs[k]? = some (.own b p fs) := fun k b fs q => by
      unfold slots at q
      by_cases hk : k < gs.length
      · rw [List.getElem?_append_left hk] at q
        exact q
      · rw [List.getElem?_append_right (by omega), List.getElem?_replicate] at q
        split at q <;> cases q
    exact ap i j p b c ds es ne (key i b ds e1) (key j c es e2)
section
variable {P : Program} {w : World} {K : PySem.W.Frag} {mg : Str → Option Value} {base : Heap}
theorem fn_D {x qual : Str} {st : Stmt} {f : Addr} {fd : FuncData} {N ps : List Str} {k : Nat} {R : List PyData → PyData → Prop} (F : Fun K x qual st f fd) (S : FnScope N ps (defScope st)) (hN : ps.length ≤ N.length) (hl : ∀ ds d, R ds d → ds.length = ps.length)
    (hb : ∀ (cdv : Value) (A : Around) (outer : List Env) (s : Shared) (H : Hp) (E : XK), Room k (A.deeper (envOfC qual (defScope st) s.heap.objs.size f cdv)) →
      ∃ t, PSs (cxOf CX0 P w K mg base N qual (defScope st) f cdv A outer s H E).nox (defBody st) t ∧ ∀ ds d, R ds d → RunS K t (slots N.length (ds.map .dat)) ⟨fun _ => d = .none, fun d' _ => d' = d, fun _ => False, fun _ => False⟩) :
    FnOk P w K mg base CX0 (k + 1) f fd ps (spD K R) := by
  refine F.ok S (fun vs H Q E h => ?_) (fun cdv A outer s H vs Q E hr h => ?_)
  · obtain ⟨B, ds, d, _, hv, hR, _⟩ := h
    rw [hv.length, hl ds d hR]
  · obtain ⟨t, ht, hrun⟩ := hb cdv A outer s H E hr
    refine ⟨t, ht, ?_⟩
    obtain ⟨B, ds, d, ex, hv, hR, q⟩ := h
    have hlen : vs.length = ps.length := by rw [hv.length, hl ds d hR]
    have s0 : Stt K ⟨B, H, fun _ => False⟩ B H (L2.start N vs) (slots N.length (ds.map .dat)) := start_st (by omega) (by rw [List.length_map, hv.length]) ex (Ex.refl B) ex (fun _ _ e _ => e) (fun _ m => m.elim) (fun _ e _ => e) (fun i g v e1 e2 => by
      rw [List.getElem?_map] at e1
      obtain ⟨d', h1, h2⟩ := hv.get' e2
      rw [h1] at e1
      cases e1
      exact ⟨v, rfl, h2⟩) (fun i j p b c es fs ne e1 _ => by
      rw [List.getElem?_map] at e1
      cases q : ds[i]? with
      | none =>
        rw [q] at e1
        cases e1
      | some y =>
        rw [q] at e1
        cases e1)
    refine hrun ds d hR _ _ B H s0 _ (fun σ' B' H' Γ' e p s' => ?_) (fun v σ' B' H' d' Γ' e p s' v' => ?_) (fun _ _ _ _ _ p => p.elim) (fun _ _ _ _ _ p => p.elim)
    · have e1 : d = .none := p
      subst e1
      exact q _ B' H' ⟨fun a o e => s'.kp a o e (fun m => m), s'.bx, s'.ex, s'.fr⟩ .non
    · have e1 : d' = d := p
      subst e1
      exact q v B' H' ⟨fun a o e => s'.kp a o e (fun m => m), s'.bx, s'.ex, s'.fr⟩ v'
theorem fn_J {x qual : Str} {st : Stmt} {f : Addr} {fd : FuncData} {N ps : List Str} {k : Nat} {R : List PyData → List PyData → PyData → List PyData → Prop} (F : Fun K x qual st f fd) (S : FnScope N ps (defScope st)) (hN : ps.length ≤ N.length) (hl : ∀ js ds d js', R js ds d js' → ds.length + 1 = ps.length)
    (hb : ∀ (cdv : Value) (A : Around) (outer : List Env) (s : Shared) (H : Hp) (E : XK), Room k (A.deeper (envOfC qual (defScope st) s.heap.objs.size f cdv)) →
      ∃ t, PSs (cxOf CX0 P w K mg base N qual (defScope st) f cdv A outer s H E).nox (defBody st) t ∧ ∀ js ds d js' p, R js ds d js' → RunS K t (slots N.length (.own false p js :: ds.map .dat)) ⟨fun Γ' => d = .none ∧ Γ'[0]? = some (.own false p js'), fun d' Γ' => d' = d ∧ Γ'[0]? = some (.own false p js'), fun _ => False, fun _ => False⟩) :
    FnOk P w K mg base CX0 (k + 1) f fd ps (spJ K R) := by
  refine F.ok S (fun vs H Q E h => ?_) (fun cdv A outer s H vs Q E hr h => ?_)
  · obtain ⟨B, j, ws, xs, js, ds, d, js', _, _, _, _, rfl, hv, hR, _⟩ := h
    rw [List.length_cons, hv.length, hl js ds d js' hR]
  · obtain ⟨t, ht, hrun⟩ := hb cdv A outer s H E hr
    refine ⟨t, ht, ?_⟩
    obtain ⟨B, j, ws, xs, js, ds, d, js', ex, hB, hH, hx, rfl, hv, hR, q⟩ := h
    have hlen : (V.ref j :: ws).length = ps.length := by rw [List.length_cons, hv.length, hl js ds d js' hR]
    have s0 : Stt K ⟨B, H, fun a => a = j⟩ B H (L2.start N (.ref j :: ws)) (slots N.length (.own false j js :: ds.map .dat)) := start_st (by omega) (by rw [List.length_cons, List.length_map, List.length_cons, hv.length]) ex (Ex.refl B) ex (fun _ _ e _ => e) (fun a m => by
      show H a ≠ none
      rw [show a = j from m, hH]
      intro z
      cases z) (fun _ e _ => e) (fun i g v e1 e2 => by
      cases i with
      | zero =>
        have q1 := Option.some.inj e1
        have q2 := Option.some.inj e2
        subst q1 q2
        exact ⟨rfl, ⟨xs, hH, hx⟩, hB, rfl⟩
      | succ i =>
        rw [List.getElem?_cons_succ, List.getElem?_map] at e1
        rw [List.getElem?_cons_succ] at e2
        obtain ⟨d', h1, h2⟩ := hv.get' e2
        rw [h1] at e1
        cases e1
        exact ⟨v, rfl, h2⟩) (fun a c p b1 b2 es fs ne e1 e2 => by
      have key : ∀ (k : Nat) (b : Bool) (fs : List PyData), (Slot.own false j js :: ds.map Slot.dat)[k]? = some (.own b p fs) → k = 0 := fun k b fs q => by
        cases k with
        | zero => rfl
        | succ k =>
          rw [List.getElem?_cons_succ, List.getElem?_map] at q
          cases q' : ds[k]? with
          | none =>
            rw [q'] at q
            cases q
          | some y =>
            rw [q'] at q
            cases q
      exact ne ((key a _ _ e1).trans (key c _ _ e2).symm))
    have fin : ∀ v σ' B' H' Γ', Ex B B' → Γ'[0]? = some (.own false j js') → Stt K ⟨B, H, fun a => a = j⟩ B' H' σ' Γ' → Dq K B' v d → Q v H' := fun v σ' B' H' Γ' e p s' v' => by
      obtain ⟨_, ⟨ys, g2, g3⟩, g4, g5⟩ := s'.getO p
      exact q v B' H' ys (fun a o ne e => s'.kp a o e ne) s'.bx s'.ex s'.fr g2 g3 v'
    refine hrun js ds d js' j hR _ _ B H s0 _ (fun σ' B' H' Γ' e p s' => ?_) (fun v σ' B' H' d' Γ' e p s' v' => ?_) (fun _ _ _ _ _ p => p.elim) (fun _ _ _ _ _ p => p.elim)
    · obtain ⟨e1, p⟩ := p
      subst e1
      exact fin _ σ' B' H' Γ' e p s' .non
    · obtain ⟨e1, p⟩ := p
      subst e1
      exact fin v σ' B' H' Γ' e p s' v'
/-! ### what a caller needs of a def -/
structure Cal (P : Program) (w : World) (K : PySem.W.Frag) (mg : Str → Option Value) (base : Heap) (x : Str) (k : Nat) (ps : List Str) (sp : Sp) (f : Addr) (fd : FuncData) : Prop where
  ok : FnOk P w K mg base CX0 k f fd ps sp
  mg : mg x = some (.ref f)
  kp : PySem.W.keepIn K (.ref f) = true
  bd : Binds K fd ps []
end
theorem pe_cal {X : Cx} {x : Str} {k : Nat} {ps : List Str} {sp : Sp} {f : Addr} {fd : FuncData} {p pos : Pos} {e : Expr} {es : List Expr} {t : TA} {n : Nat} (C : Cal X.prog X.w X.K X.mg X.base x k ps sp f fd) (hr : Room n X.A) (hk : k ≤ n) (hg : Gl X x) (ha : PA X (e :: es) t)
    (hdb : (x == ("__debug__" : Str)) = false := by decide) (he : starEach (e :: es) X.env = (false, eval e X.env) :: starEach es X.env := by rfl) (hpl : (backTo pos (starEach es X.env)).any (·.1) = false := by rfl) :
    PE X (.Call (.Name x p) (e :: es) [] pos) (tCall sp [] E0 t) := pe_call C.ok (hr.mono hk) hg C.mg C.kp C.bd .nil pass0 ha hdb he hpl
end DL
end Part4

section Part5
set_option Elab.async false
set_option linter.all false
set_option maxRecDepth 100000
set_option maxHeartbeats 4000000
namespace DL
open PySem PySem.Spec PyProof.Rows L2
open Evl (Ex ex_rd ex_l ex_t fresh_back)
/-! ### isinstance against the built-in classes -/
def isInt : PyData → Bool
  | .int _ => true
  | _ => false
def isiInt : PyData → Bool
  | .int _ => true
  | .bool _ => true
  | _ => false
def isiBool : PyData → Bool
  | .bool _ => true
  | _ => false
def isiTup : PyData → Bool
  | .tuple _ => true
  | _ => false
def isiLst : PyData → Bool
  | .list _ => true
  | .dict _ => true
  | _ => false
def isiStr : PyData → Bool
  | .str _ => true
  | _ => false
section
variable {K : PySem.W.Frag} {Γ Γ1 : List Slot} {te : TE} {d : PyData}
theorem ev_isiInt (h : EvX K te Γ d Γ1) : EvX K (tCB (rIsi K) (tCons te (tCons (tC (.ty "int")) tNil))) Γ (.bool (isiInt d)) Γ1 := by
  refine ev_isi h ?_
  cases d
  · exact L2.kit_ty (a := "NoneType") (b := "int") (r := false) (by decide +kernel)
  · exact L2.kit_ty (a := "bool") (b := "int") (r := true) (by decide +kernel)
  · exact L2.kit_ty (a := "int") (b := "int") (r := true) (by decide +kernel)
  · exact L2.kit_ty (a := "str") (b := "int") (r := false) (by decide +kernel)
  · exact L2.kit_ty (a := "list") (b := "int") (r := false) (by decide +kernel)
  · exact L2.kit_ty (a := "tuple") (b := "int") (r := false) (by decide +kernel)
  · exact L2.kit_ty (a := "list") (b := "int") (r := false) (by decide +kernel)
theorem ev_isiBool (h : EvX K te Γ d Γ1) : EvX K (tCB (rIsi K) (tCons te (tCons (tC (.ty "bool")) tNil))) Γ (.bool (isiBool d)) Γ1 := by
  refine ev_isi h ?_
  cases d
  · exact L2.kit_ty (a := "NoneType") (b := "bool") (r := false) (by decide +kernel)
  · exact L2.kit_ty (a := "bool") (b := "bool") (r := true) (by decide +kernel)
  · exact L2.kit_ty (a := "int") (b := "bool") (r := false) (by decide +kernel)
  · exact L2.kit_ty (a := "str") (b := "bool") (r := false) (by decide +kernel)
  · exact L2.kit_ty (a := "list") (b := "bool") (r := false) (by decide +kernel)
  · exact L2.kit_ty (a := "tuple") (b := "bool") (r := false) (by decide +kernel)
  · exact L2.kit_ty (a := "list") (b := "bool") (r := false) (by decide +kernel)
theorem ev_isiTup (h : EvX K te Γ d Γ1) : EvX K (tCB (rIsi K) (tCons te (tCons (tC (.ty "tuple")) tNil))) Γ (.bool (isiTup d)) Γ1 := by
  refine ev_isi h ?_
  cases d
  · exact L2.kit_ty (a := "NoneType") (b := "tuple") (r := false) (by decide +kernel)
  · exact L2.kit_ty (a := "bool") (b := "tuple") (r := false) (by decide +kernel)
  · exact L2.kit_ty (a := "int") (b := "tuple") (r := false) (by decide +kernel)
  · exact L2.kit_ty (a := "str") (b := "tuple") (r := false) (by decide +kernel)
  · exact L2.kit_ty (a := "list") (b := "tuple") (r := false) (by decide +kernel)
  · exact L2.kit_ty (a := "tuple") (b := "tuple") (r := true) (by decide +kernel)
  · exact L2.kit_ty (a := "list") (b := "tuple") (r := false) (by decide +kernel)
theorem ev_isiLst (h : EvX K te Γ d Γ1) : EvX K (tCB (rIsi K) (tCons te (tCons (tC (.ty "list")) tNil))) Γ (.bool (isiLst d)) Γ1 := by
  refine ev_isi h ?_
  cases d
  · exact L2.kit_ty (a := "NoneType") (b := "list") (r := false) (by decide +kernel)
  · exact L2.kit_ty (a := "bool") (b := "list") (r := false) (by decide +kernel)
  · exact L2.kit_ty (a := "int") (b := "list") (r := false) (by decide +kernel)
  · exact L2.kit_ty (a := "str") (b := "list") (r := false) (by decide +kernel)
  · exact L2.kit_ty (a := "list") (b := "list") (r := true) (by decide +kernel)
  · exact L2.kit_ty (a := "tuple") (b := "list") (r := false) (by decide +kernel)
  · exact L2.kit_ty (a := "list") (b := "list") (r := true) (by decide +kernel)
theorem ev_isiStr (h : EvX K te Γ d Γ1) : EvX K (tCB (rIsi K) (tCons te (tCons (tC (.ty "str")) tNil))) Γ (.bool (isiStr d)) Γ1 := by
  refine ev_isi h ?_
  cases d
  · exact L2.kit_ty (a := "NoneType") (b := "str") (r := false) (by decide +kernel)
  · exact L2.kit_ty (a := "bool") (b := "str") (r := false) (by decide +kernel)
  · exact L2.kit_ty (a := "int") (b := "str") (r := false) (by decide +kernel)
  · exact L2.kit_ty (a := "str") (b := "str") (r := true) (by decide +kernel)
  · exact L2.kit_ty (a := "list") (b := "str") (r := false) (by decide +kernel)
  · exact L2.kit_ty (a := "tuple") (b := "str") (r := false) (by decide +kernel)
  · exact L2.kit_ty (a := "list") (b := "str") (r := false) (by decide +kernel)
end
/-! ### fractions as data -/
@[reducible] def dq (q : Rat) : PyData := .tuple [.int q.num, .int (q.den : Int)]
@[reducible] def dr (r : List Rat) : PyData := .tuple (r.map dq)
@[reducible] def drs (rs : List (List Rat)) : PyData := .list (rs.map dr)
/-- both divisions by the common divisor go by the plain way -/
def LowOk (t b : Int) : Prop := ∀ g : Int, g.natAbs = Nat.gcd t.natAbs b.natAbs → Builtin.divisionGoesByPylong t g = false ∧ Builtin.divisionGoesByPylong b g = false
theorem lowOk_of {t b : Int} {n : Nat} (h : Nat.gcd t.natAbs b.natAbs < 2 ^ n) (h0 : 0 < n) (hn : n ≤ 9000) : LowOk t b := fun g hg => by
  have hl : g.natAbs.log2 < 9000 := by
    rw [hg]
    exact Nat.lt_of_lt_of_le (PySem.Flt.log2_lt_of h0 h) hn
  exact ⟨PyProof.noPylong_of_log2 hl, PyProof.noPylong_of_log2 hl⟩
theorem pylong_self {a b : Int} (h : a.natAbs ≤ b.natAbs) : Builtin.divisionGoesByPylong a b = false := by
  have key : (if a == 0 then 0 else a.natAbs.log2 / 30 + 1) ≤ (if b == 0 then 0 else b.natAbs.log2 / 30 + 1) := by
    by_cases ha : (a == 0) = true
    · rw [if_pos ha]
      exact Nat.zero_le _
    · have hb : ¬ (b == 0) = true := fun z => by
        have e : b = 0 := eq_of_beq z
        subst e
        have e2 : a.natAbs = 0 := Nat.le_zero.mp h
        have e3 : a = 0 := Int.natAbs_eq_zero.mp e2
        exact ha (by rw [e3]; rfl)
      rw [if_neg ha, if_neg hb]
      have hl : a.natAbs.log2 ≤ b.natAbs.log2 := by
        have ha0 : a.natAbs ≠ 0 := fun z => ha (by rw [Int.natAbs_eq_zero.mp z]; rfl)
        have hb0 : b.natAbs ≠ 0 := by omega
        rw [Nat.le_log2 hb0]
        exact Nat.le_trans (Nat.log2_self_le ha0) h
      have := Nat.div_le_div_right (c := 30) hl
      omega
  show (decide ((if b == 0 then 0 else b.natAbs.log2 / 30 + 1) > 300) && decide ((if a == 0 then 0 else a.natAbs.log2 / 30 + 1) > (if b == 0 then 0 else b.natAbs.log2 / 30 + 1) + 150)) = false
  rw [Bool.and_eq_false_iff]
  right
  exact decide_eq_false (by omega)
theorem lowOk_eq {t b : Int} (h : t.natAbs = b.natAbs) : LowOk t b := fun g hg => by
  rw [h, Nat.gcd_self] at hg
  exact ⟨pylong_self (by omega), pylong_self (by omega)⟩
theorem len0 : ([] : List PyData).length ≤ 100000 := by simp
theorem len1 {a0 : PyData} : ([a0] : List PyData).length ≤ 100000 := by simp
theorem len2 {a0 a1 : PyData} : ([a0, a1] : List PyData).length ≤ 100000 := by simp
theorem len3 {a0 a1 a2 : PyData} : ([a0, a1, a2] : List PyData).length ≤ 100000 := by simp
theorem len4 {a0 a1 a2 a3 : PyData} : ([a0, a1, a2, a3] : List PyData).length ≤ 100000 := by simp
theorem len5 {a0 a1 a2 a3 a4 : PyData} : ([a0, a1, a2, a3, a4] : List PyData).length ≤ 100000 := by simp
theorem len6 {a0 a1 a2 a3 a4 a5 : PyData} : ([a0, a1, a2, a3, a4, a5] : List PyData).length ≤ 100000 := by simp
theorem len7 {a0 a1 a2 a3 a4 a5 a6 : PyData} : ([a0, a1, a2, a3, a4, a5, a6] : List PyData).length ≤ 100000 := by simp
theorem len8 {a0 a1 a2 a3 a4 a5 a6 a7 : PyData} : ([a0, a1, a2, a3, a4, a5, a6, a7] : List PyData).length ≤ 100000 := by simp
theorem len9 {a0 a1 a2 a3 a4 a5 a6 a7 a8 : PyData} : ([a0, a1, a2, a3, a4, a5, a6, a7, a8] : List PyData).length ≤ 100000 := by simp
theorem len10 {a0 a1 a2 a3 a4 a5 a6 a7 a8 a9 : PyData} : ([a0, a1, a2, a3, a4, a5, a6, a7, a8, a9] : List PyData).length ≤ 100000 := by simp
theorem len11 {a0 a1 a2 a3 a4 a5 a6 a7 a8 a9 a10 : PyData} : ([a0, a1, a2, a3, a4, a5, a6, a7, a8, a9, a10] : List PyData).length ≤ 100000 := by simp
theorem len12 {a0 a1 a2 a3 a4 a5 a6 a7 a8 a9 a10 a11 : PyData} : ([a0, a1, a2, a3, a4, a5, a6, a7, a8, a9, a10, a11] : List PyData).length ≤ 100000 := by simp
theorem len13 {a0 a1 a2 a3 a4 a5 a6 a7 a8 a9 a10 a11 a12 : PyData} : ([a0, a1, a2, a3, a4, a5, a6, a7, a8, a9, a10, a11, a12] : List PyData).length ≤ 100000 := by simp
theorem len14 {a0 a1 a2 a3 a4 a5 a6 a7 a8 a9 a10 a11 a12 a13 : PyData} : ([a0, a1, a2, a3, a4, a5, a6, a7, a8, a9, a10, a11, a12, a13] : List PyData).length ≤ 100000 := by simp
theorem len15 {a0 a1 a2 a3 a4 a5 a6 a7 a8 a9 a10 a11 a12 a13 a14 : PyData} : ([a0, a1, a2, a3, a4, a5, a6, a7, a8, a9, a10, a11, a12, a13, a14] : List PyData).length ≤ 100000 := by simp
theorem len16 {a0 a1 a2 a3 a4 a5 a6 a7 a8 a9 a10 a11 a12 a13 a14 a15 : PyData} : ([a0, a1, a2, a3, a4, a5, a6, a7, a8, a9, a10, a11, a12, a13, a14, a15] : List PyData).length ≤ 100000 := by simp
theorem len17 {a0 a1 a2 a3 a4 a5 a6 a7 a8 a9 a10 a11 a12 a13 a14 a15 a16 : PyData} : ([a0, a1, a2, a3, a4, a5, a6, a7, a8, a9, a10, a11, a12, a13, a14, a15, a16] : List PyData).length ≤ 100000 := by simp
theorem len18 {a0 a1 a2 a3 a4 a5 a6 a7 a8 a9 a10 a11 a12 a13 a14 a15 a16 a17 : PyData} : ([a0, a1, a2, a3, a4, a5, a6, a7, a8, a9, a10, a11, a12, a13, a14, a15, a16, a17] : List PyData).length ≤ 100000 := by simp
theorem len19 {a0 a1 a2 a3 a4 a5 a6 a7 a8 a9 a10 a11 a12 a13 a14 a15 a16 a17 a18 : PyData} : ([a0, a1, a2, a3, a4, a5, a6, a7, a8, a9, a10, a11, a12, a13, a14, a15, a16, a17, a18] : List PyData).length ≤ 100000 := by simp
theorem len20 {a0 a1 a2 a3 a4 a5 a6 a7 a8 a9 a10 a11 a12 a13 a14 a15 a16 a17 a18 a19 : PyData} : ([a0, a1, a2, a3, a4, a5, a6, a7, a8, a9, a10, a11, a12, a13, a14, a15, a16, a17, a18, a19] : List PyData).length ≤ 100000 := by simp
theorem sh_int {i : Int} : SeqAt.shaped (.int i) = true := by
  unfold SeqAt.shaped
  simp [PyData.canLay0, PyData.depth]
theorem sh_none : SeqAt.shaped .none = true := by
  unfold SeqAt.shaped
  simp [PyData.canLay0, PyData.depth]
theorem sh_bool {b : Bool} : SeqAt.shaped (.bool b) = true := by
  unfold SeqAt.shaped
  simp [PyData.canLay0, PyData.depth]
theorem sh_nil : SeqAt.shaped (.tuple []) = true := by
  unfold SeqAt.shaped
  simp [PyData.canLay0, PyData.depth, PyData.canLayAll0, PyData.depthAll]
theorem sh_dq {q : Rat} : SeqAt.shaped (dq q) = true := by
  unfold SeqAt.shaped
  simp [PyData.canLay0, PyData.depth, PyData.canLayAll0, PyData.depthAll]
theorem lay_rows : ∀ r : List Rat, PyData.canLayAll0 (r.map dq) = true ∧ PyData.depthAll (r.map dq) ≤ 1
  | [] => ⟨rfl, Nat.zero_le _⟩
  | q :: r => by
    obtain ⟨h1, h2⟩ := lay_rows r
    rw [List.map_cons]
    constructor
    · simp [PyData.canLayAll0, PyData.canLay0, h1]
    · simp only [PyData.depthAll, PyData.depth]
      simp
      exact Nat.max_le.mpr ⟨Nat.le_refl _, h2⟩
theorem sh_dr {r : List Rat} : SeqAt.shaped (dr r) = true := by
  obtain ⟨h1, h2⟩ := lay_rows r
  unfold SeqAt.shaped
  simp only [PyData.canLay0, PyData.depth, h1, Bool.true_and]
  exact decide_eq_true (by omega)
/-! ### the parts of a quotient of integers -/
theorem low_num {t b : Int} (hb : b ≠ 0) : t.fdiv (if b < 0 then 0 - ((Nat.gcd t.natAbs b.natAbs : Nat) : Int) else ((Nat.gcd t.natAbs b.natAbs : Nat) : Int)) = (Rat.divInt t b).num := by
  rw [Rat.num_divInt]
  have hg : (b.gcd t : Nat) = Nat.gcd t.natAbs b.natAbs := by rw [Int.gcd_comm]; rfl
  rw [hg]
  have h1 : ((Nat.gcd t.natAbs b.natAbs : Nat) : Int) ∣ t := Int.ofNat_dvd_left.mpr (Nat.gcd_dvd_left _ _)
  by_cases hn : b < 0
  · rw [if_pos hn, Int.sign_eq_neg_one_of_neg hn, Int.zero_sub, Int.fdiv_neg, Int.fdiv_eq_ediv_of_nonneg _ (Int.natCast_nonneg _), Int.neg_one_mul, Int.neg_ediv_of_dvd h1]
    all_goals first | exact if_pos h1 | exact fun z => hb (Int.natAbs_eq_zero.mp (Nat.eq_zero_of_gcd_eq_zero_right (Int.ofNat_eq_zero.mp z))) | rfl
  · rw [if_neg hn, Int.sign_eq_one_of_pos (by omega), Int.one_mul, Int.fdiv_eq_ediv_of_nonneg _ (Int.natCast_nonneg _)]
theorem low_den {t b : Int} (hb : b ≠ 0) : b.fdiv (if b < 0 then 0 - ((Nat.gcd t.natAbs b.natAbs : Nat) : Int) else ((Nat.gcd t.natAbs b.natAbs : Nat) : Int)) = ((Rat.divInt t b).den : Int) := by
  rw [Rat.den_divInt, if_neg hb]
  have hg : (b.gcd t : Nat) = Nat.gcd t.natAbs b.natAbs := by rw [Int.gcd_comm]; rfl
  rw [hg, Int.natCast_ediv]
  have h1 : ((Nat.gcd t.natAbs b.natAbs : Nat) : Int) ∣ b := Int.ofNat_dvd_left.mpr (Nat.gcd_dvd_right _ _)
  by_cases hn : b < 0
  · have e : ((b.natAbs : Nat) : Int) = -b := by omega
    rw [if_pos hn, Int.zero_sub, Int.fdiv_neg, Int.fdiv_eq_ediv_of_nonneg _ (Int.natCast_nonneg _), e, Int.neg_ediv_of_dvd h1]
    all_goals first | exact if_pos h1 | exact fun z => hb (Int.natAbs_eq_zero.mp (Nat.eq_zero_of_gcd_eq_zero_right (Int.ofNat_eq_zero.mp z))) | rfl
  · have e : ((b.natAbs : Nat) : Int) = b := by omega
    rw [if_neg hn, Int.fdiv_eq_ediv_of_nonneg _ (Int.natCast_nonneg _), e]
theorem low_sub (a b : Rat) : Rat.divInt (a.num * (b.den : Int) - b.num * (a.den : Int)) ((a.den : Int) * (b.den : Int)) = a - b := by
  rw [Rat.sub_def', ← Int.natCast_mul, Rat.divInt_ofNat]
theorem low_add (a b : Rat) : Rat.divInt (a.num * (b.den : Int) + b.num * (a.den : Int)) ((a.den : Int) * (b.den : Int)) = a + b := by
  rw [Rat.add_def', ← Int.natCast_mul, Rat.divInt_ofNat]
theorem low_mul (a b : Rat) : Rat.divInt (a.num * b.num) ((a.den : Int) * (b.den : Int)) = a * b := by
  rw [Rat.mul_def', ← Int.natCast_mul, Rat.divInt_ofNat]
theorem low_div (a b : Rat) : Rat.divInt (a.num * (b.den : Int)) ((a.den : Int) * b.num) = a / b := by
  rw [← Rat.divInt_mul_divInt, Rat.num_divInt_den, Rat.div_def, Rat.inv_def]
end DL
end Part5

section Part6
set_option Elab.async false
set_option linter.all false
set_option maxRecDepth 100000
set_option maxHeartbeats 4000000
namespace DL
open PySem PySem.Spec PyProof.Rows L2
open Evl (Ex ex_rd ex_l ex_t fresh_back)
section
variable {K : PySem.W.Frag} {Γ Γ1 Γ2 : List Slot} {te : TE} {d : PyData}
/-- a comprehension with one name -/
theorem ev_lc1 {wi : TI} {j n : Nat} {item : Nat → PyData} (es : List PyData) (h : EvI K wi Γ n item Γ1) (hn : n ≤ 100000) (hes : es.length = n) (hj : ∀ b p ds, Γ1[j]? = some (.own b p ds) → False)
    (he : ∀ i, i < n → EvX K te (Γ1.set j (.dat (item i))) (nthD es i) (Γ1.set j (.dat (item i)))) : EvX K (tLc wi (gName j) tYes te [j]) Γ (.list es) Γ1 := by
  have e : ∀ i, (wipeG Γ1 [j]).set j (.dat (item i)) = Γ1.set j (.dat (item i)) := fun i => by
    show (Γ1.set j .un).set j _ = _
    rw [List.set_set]
  refine ev_lc (js := [j]) (Γt := fun i => Γ1.set j (.dat (item i))) es h hn hes (fun _ q => q) (fun i hi => ?_) he (fun i hi k b p ds q => ?_)
  · rw [← e i]
    exact eg_name
  · by_cases z : j = k
    · subst z
      exact (hj b p ds q).elim
    · rw [List.getElem?_set_ne z]
      exact q
/-- .. with two names -/
theorem ev_lc2 {wi : TI} {j k n : Nat} {it1 it2 : Nat → PyData} (es : List PyData) (h : EvI K wi Γ n (fun i => .tuple [it1 i, it2 i]) Γ1) (hn : n ≤ 100000) (hes : es.length = n) (hj : ∀ b p ds, Γ1[j]? = some (.own b p ds) → False) (hk : ∀ b p ds, Γ1[k]? = some (.own b p ds) → False)
    (he : ∀ i, i < n → EvX K te ((Γ1.set j (.dat (it1 i))).set k (.dat (it2 i))) (nthD es i) ((Γ1.set j (.dat (it1 i))).set k (.dat (it2 i)))) (hjk : j ≠ k := by decide) : EvX K (tLc wi (gTup K 2 (gCons (gName j) (gCons (gName k) gNil))) tYes te [j, k]) Γ (.list es) Γ1 := by
  have e : ∀ i, ((wipeG Γ1 [j, k]).set j (.dat (it1 i))).set k (.dat (it2 i)) = (Γ1.set j (.dat (it1 i))).set k (.dat (it2 i)) := fun i => by
    show ((((Γ1.set k .un).set j .un).set j _).set k _) = _
    rw [List.set_set, show (Γ1.set k .un).set j (.dat (it1 i)) = (Γ1.set j (.dat (it1 i))).set k .un from List.set_comm _ _ hjk.symm, List.set_set]
  refine ev_lc (js := [j, k]) (Γt := fun i => (Γ1.set j (.dat (it1 i))).set k (.dat (it2 i))) es h hn hes (fun _ q => q) (fun i hi => ?_) he (fun i hi m b p ds q => ?_)
  · rw [← e i]
    exact eg_pair
  · have z1 : j ≠ m := fun z => by
      subst z
      exact hj b p ds q
    have z2 : k ≠ m := fun z => by
      subst z
      exact hk b p ds q
    rw [List.getElem?_set_ne z2, List.getElem?_set_ne z1]
    exact q
theorem nthD_map {α : Type} {f : α → PyData} {r : List α} {i : Nat} (h : i < r.length) : nthD (r.map f) i = f r[i] := by
  unfold nthD
  rw [List.getD_eq_getElem?_getD, List.getElem?_map, List.getElem?_eq_getElem h]
  rfl
theorem nthD_ofFn {f : Nat → PyData} {n i : Nat} (h : i < n) : nthD ((List.range n).map f) i = f i := by
  unfold nthD
  rw [List.getD_eq_getElem?_getD, List.getElem?_map, List.getElem?_range h]
  rfl
end
theorem pe_gref {X : Cx} {x : Str} {a : Addr} {pos : Pos} (hg : Gl X x) (hm : X.mg x = some (.ref a)) (hd : (x == ("__debug__" : Str)) = false := by decide) : PE X (.Name x pos) (tC (.ref a)) := pe_glob (v := V.ref a) hg hm rfl hd
/-! ### == of fractions -/
theorem eqv_int {i j : Int} : PyData.eqv (.int i) (.int j) = decide (i = j) := by
  show (i == j) = _
  rw [Bool.eq_iff_iff]
  simp
theorem eqv_dq {a b : Rat} : PyData.eqv (dq a) (dq b) = decide (a = b) := by
  show (a.num == b.num && (((a.den : Nat) : Int) == ((b.den : Nat) : Int) && true)) = _
  rw [Bool.eq_iff_iff]
  simp only [Bool.and_true, Bool.and_eq_true, beq_iff_eq, decide_eq_true_eq]
  constructor
  · rintro ⟨h1, h2⟩
    exact Rat.ext h1 (by omega)
  · rintro rfl
    exact ⟨rfl, rfl⟩
theorem eqvAll_dq : ∀ {r s : List Rat}, PyData.eqvAll (r.map dq) (s.map dq) = decide (r = s)
  | [], [] => rfl
  | [], _ :: _ => rfl
  | _ :: _, [] => rfl
  | a :: r, b :: s => by
    show (PyData.eqv (dq a) (dq b) && PyData.eqvAll (r.map dq) (s.map dq)) = _
    rw [eqv_dq, eqvAll_dq, Bool.eq_iff_iff]
    simp
theorem eqv_dr {r s : List Rat} : PyData.eqv (dr r) (dr s) = decide (r = s) := eqvAll_dq
/-! ### sizes -/
def Sz (n : Nat) (q : Rat) : Prop := q.num.natAbs < 2 ^ n ∧ q.den < 2 ^ n
theorem Sz.mono {n m : Nat} {q : Rat} (h : Sz n q) (hn : n ≤ m) : Sz m q :=
  ⟨Nat.lt_of_lt_of_le h.1 (Nat.pow_le_pow_right (by omega) hn), Nat.lt_of_lt_of_le h.2 (Nat.pow_le_pow_right (by omega) hn)⟩
def OkTake (a b : Rat) : Prop := CMulW a.num (b.den : Int) ∧ CMulW b.num (a.den : Int) ∧ CMulW (a.den : Int) (b.den : Int) ∧ LowOk (a.num * (b.den : Int) - b.num * (a.den : Int)) ((a.den : Int) * (b.den : Int))
def OkAdd (a b : Rat) : Prop := CMulW a.num (b.den : Int) ∧ CMulW b.num (a.den : Int) ∧ CMulW (a.den : Int) (b.den : Int) ∧ LowOk (a.num * (b.den : Int) + b.num * (a.den : Int)) ((a.den : Int) * (b.den : Int))
def OkTimes (a b : Rat) : Prop := CMulW a.num b.num ∧ CMulW (a.den : Int) (b.den : Int) ∧ LowOk (a.num * b.num) ((a.den : Int) * (b.den : Int))
def OkOver (a b : Rat) : Prop := b ≠ 0 ∧ CMulW a.num (b.den : Int) ∧ CMulW (a.den : Int) b.num ∧ LowOk (a.num * (b.den : Int)) ((a.den : Int) * b.num)
def OkLess (a b : Rat) : Prop := CMulW a.num (b.den : Int) ∧ CMulW b.num (a.den : Int)
theorem mulW_of {i j : Int} {n m : Nat} (hi : i.natAbs < 2 ^ n) (hj : j.natAbs < 2 ^ m) (h : n + m ≤ 900000) : CMulW i j :=
  wide_mul (a := n + 1) (b := m + 1) (Nat.lt_of_lt_of_le hi (Nat.pow_le_pow_right (by omega) (by omega))) (Nat.lt_of_lt_of_le hj (Nat.pow_le_pow_right (by omega) (by omega))) (by omega) (by omega) (by omega)
theorem natAbs_cast {n : Nat} : ((n : Int)).natAbs = n := Int.natAbs_natCast n
theorem den_mul_lt {a b : Nat} {n m : Nat} (ha : a < 2 ^ n) (hb : b < 2 ^ m) : ((a : Int) * (b : Int)).natAbs < 2 ^ (n + m) := by
  rw [Int.natAbs_mul, natAbs_cast, natAbs_cast, Nat.pow_add]
  exact Nat.mul_lt_mul'' ha hb
theorem low_of_bottom {t b : Int} {n : Nat} (hb : b ≠ 0) (h : b.natAbs < 2 ^ n) (hn : n ≤ 9000) : LowOk t b := by
  refine lowOk_of (n := n) (Nat.lt_of_le_of_lt (Nat.gcd_le_right _ (by omega)) h) ?_ hn
  cases n with
  | zero =>
    have : b.natAbs = 0 := by omega
    exact absurd (Int.natAbs_eq_zero.mp this) hb
  | succ n => omega
theorem den_ne {q : Rat} : ((q.den : Nat) : Int) ≠ 0 := by
  have := q.den_nz
  omega
theorem okTake {a b : Rat} {n m : Nat} (ha : Sz n a) (hb : Sz m b) (h : n + m ≤ 9000) : OkTake a b :=
  ⟨mulW_of ha.1 (by rw [natAbs_cast]; exact hb.2) (by omega), mulW_of hb.1 (by rw [natAbs_cast]; exact ha.2) (by omega), mulW_of (by rw [natAbs_cast]; exact ha.2) (by rw [natAbs_cast]; exact hb.2) (by omega),
    low_of_bottom (Int.mul_ne_zero den_ne den_ne) (den_mul_lt ha.2 hb.2) h⟩
theorem okAdd {a b : Rat} {n m : Nat} (ha : Sz n a) (hb : Sz m b) (h : n + m ≤ 9000) : OkAdd a b :=
  ⟨mulW_of ha.1 (by rw [natAbs_cast]; exact hb.2) (by omega), mulW_of hb.1 (by rw [natAbs_cast]; exact ha.2) (by omega), mulW_of (by rw [natAbs_cast]; exact ha.2) (by rw [natAbs_cast]; exact hb.2) (by omega),
    low_of_bottom (Int.mul_ne_zero den_ne den_ne) (den_mul_lt ha.2 hb.2) h⟩
theorem okTimes {a b : Rat} {n m : Nat} (ha : Sz n a) (hb : Sz m b) (h : n + m ≤ 9000) : OkTimes a b :=
  ⟨mulW_of ha.1 hb.1 (by omega), mulW_of (by rw [natAbs_cast]; exact ha.2) (by rw [natAbs_cast]; exact hb.2) (by omega),
    low_of_bottom (Int.mul_ne_zero den_ne den_ne) (den_mul_lt ha.2 hb.2) h⟩
theorem num_ne {q : Rat} (h : q ≠ 0) : q.num ≠ 0 := fun z => h (Rat.num_eq_zero.mp z)
theorem okOver {a b : Rat} {n m : Nat} (h0 : b ≠ 0) (ha : Sz n a) (hb : Sz m b) (h : n + m ≤ 9000) : OkOver a b := by
  refine ⟨h0, mulW_of ha.1 (by rw [natAbs_cast]; exact hb.2) (by omega), mulW_of (by rw [natAbs_cast]; exact ha.2) hb.1 (by omega), low_of_bottom (Int.mul_ne_zero den_ne (num_ne h0)) (n := n + m) ?_ h⟩
  rw [Int.natAbs_mul, natAbs_cast, Nat.pow_add]
  exact Nat.mul_lt_mul'' ha.2 hb.1
theorem okOver_self {a : Rat} {n : Nat} (h0 : a ≠ 0) (ha : Sz n a) (h : n ≤ 100000) : OkOver a a := by
  refine ⟨h0, mulW_of ha.1 (by rw [natAbs_cast]; exact ha.2) (by omega), mulW_of (by rw [natAbs_cast]; exact ha.2) ha.1 (by omega), lowOk_eq ?_⟩
  rw [Int.mul_comm]
theorem okLess {a b : Rat} {n m : Nat} (ha : Sz n a) (hb : Sz m b) (h : n + m ≤ 900000) : OkLess a b :=
  ⟨mulW_of ha.1 (by rw [natAbs_cast]; exact hb.2) (by omega), mulW_of hb.1 (by rw [natAbs_cast]; exact ha.2) (by omega)⟩
end DL
end Part6

section Part7
set_option Elab.async false
set_option linter.all false
set_option maxRecDepth 100000
set_option maxHeartbeats 4000000
namespace DL
open PySem PySem.Spec PyProof.Rows L2
open Evl (Ex ex_rd ex_l ex_t fresh_back)
/-- data in, a new list out that nobody else holds -/
def spN (K : PySem.W.Frag) (R : List PyData → List PyData → Prop) : Sp := fun vs H Q _ => ∃ (B : Hp) (ds es : List PyData), Ex B H ∧ DqA K B vs ds ∧ R ds es ∧ ∀ p xs B' H', Gr B H B' H' → B' p = none → H p = none → H' p = some (.lst xs) → DqA K B' xs es → Q (.ref p) H'
/-- a body that ends by returning a new list -/
def RunT (K : PySem.W.Frag) (ts : TS) (Γ : List Slot) (es : List PyData) : Prop :=
  ∀ (E : Entry) (σ : L2.St) (B H : Hp), Stt K E B H σ Γ → ∀ D : Ends, (∀ p xs B' H' σ' Γ', Stt K E B' H' σ' Γ' → B' p = none → E.H p = none → H' p = some (.lst xs) → DqA K B' xs es → D.rt (.ref p) H') → ts D σ H
section
variable {K : PySem.W.Frag} {Γ Γ1 Γ2 : List Slot} {te : TE} {d : PyData} {es : List PyData} {u : TS}
theorem t_asg {n : Nat} (h : EvX K te Γ d Γ1) (k : RunT K u (Γ1.set n (.dat d)) es) : RunT K (tSeq (tAsg te (gName n)) u) Γ es := fun E σ B H s D q =>
  h E σ B H s _ fun v B1 H1 e1 s1 v1 => k E _ B1 H1 (s1.set v1) D q
theorem t_ret (h : EvN K te Γ es Γ1) : RunT K (tRet te) Γ es := fun E σ B H s D q =>
  h E σ B H s _ fun p xs B1 H1 e1 s1 b1 h1 no hp hd => q p xs B1 H1 σ Γ1 s1 b1 h1 hp hd
theorem en_call {R : List PyData → List PyData → Prop} {E0' : XK} {tr : TA} {ds : List PyData} (h : EvA K tr Γ ds Γ1) (hR : R ds es) : EvN K (tCall (spN K R) [] E0' tr) Γ es Γ1 := fun E σ B H s Q q =>
  h E σ B H s _ fun vs B1 H1 e1 s1 x1 => ⟨B1, ds, es, s1.ex, by rw [List.append_nil]; exact x1, hR, fun p xs B2 H2 g b2 h2 hp hd => q p xs B2 H2 (e1.trans g.bx) (s1.gr g) b2 (s1.newH h2) (s1.no_own h2) hp hd⟩
end
section
variable {P : Program} {w : World} {K : PySem.W.Frag} {mg : Str → Option Value} {base : Heap}
theorem fn_N {x qual : Str} {st : Stmt} {f : Addr} {fd : FuncData} {N ps : List Str} {k : Nat} {R : List PyData → List PyData → Prop} (F : Fun K x qual st f fd) (S : FnScope N ps (defScope st)) (hN : ps.length ≤ N.length) (hl : ∀ ds es, R ds es → ds.length = ps.length)
    (hb : ∀ (cdv : Value) (A : Around) (outer : List Env) (s : Shared) (H : Hp) (E : XK), Room k (A.deeper (envOfC qual (defScope st) s.heap.objs.size f cdv)) →
      ∃ t, PSs (cxOf CX0 P w K mg base N qual (defScope st) f cdv A outer s H E).nox (defBody st) t ∧ ∀ ds es, R ds es → RunT K t (slots N.length (ds.map .dat)) es) :
    FnOk P w K mg base CX0 (k + 1) f fd ps (spN K R) := by
  refine F.ok S (fun vs H Q E h => ?_) (fun cdv A outer s H vs Q E hr h => ?_)
  · obtain ⟨B, ds, es, _, hv, hR, _⟩ := h
    rw [hv.length, hl ds es hR]
  · obtain ⟨t, ht, hrun⟩ := hb cdv A outer s H E hr
    refine ⟨t, ht, ?_⟩
    obtain ⟨B, ds, es, ex, hv, hR, q⟩ := h
    have hlen : vs.length = ps.length := by rw [hv.length, hl ds es hR]
    have s0 : Stt K ⟨B, H, fun _ => False⟩ B H (L2.start N vs) (slots N.length (ds.map .dat)) := start_st (by omega) (by rw [List.length_map, hv.length]) ex (Ex.refl B) ex (fun _ _ e _ => e) (fun _ m => m.elim) (fun _ e _ => e) (fun i g v e1 e2 => by
      rw [List.getElem?_map] at e1
      obtain ⟨d', h1, h2⟩ := hv.get' e2
      rw [h1] at e1
      cases e1
      exact ⟨v, rfl, h2⟩) (fun i j p b c es fs ne e1 _ => by
      rw [List.getElem?_map] at e1
      cases q : ds[i]? with
      | none =>
        rw [q] at e1
        cases e1
      | some y =>
        rw [q] at e1
        cases e1)
    exact hrun ds es hR _ _ B H s0 _ fun p xs B' H' σ' Γ' s' b1 h1 hp hd => q p xs B' H' ⟨fun a o e => s'.kp a o e (fun m => m), s'.bx, s'.ex, s'.fr⟩ b1 h1 hp hd
end
/-! ### calls by keywords alone -/
def tCallW (sp : Sp) (m : Nat) (gV : List V → List V → List V) (E : XK) (tk : TA) : TE := fun σ H Q => tk σ H fun zs H1 => zs.length = m ∧ sp (gV [] zs) H1 Q E
theorem pe_kw0 {X : Cx} {k : Nat} {f : Addr} {fd : FuncData} {ps ks : List Str} {sp : Sp} {x : Str} {p pos : Pos} {kws : List Keyword} {tk : TA} {g : List Value → List Value → List Value} {gV : List V → List V → List V}
    (C : Cal X.prog X.w X.K X.mg X.base x k ps sp f fd) {n : Nat} (hr : Room n X.A) (hk : k ≤ n) (hg : Gl X x) (hb : KBn X.K fd ps 0 ks g gV)
    (hkw : PK X kws tk) (hall : (backToKw pos (keywordEach kws X.env)).all (·.1.isSome) = true := by rfl) (hks : (backToKw pos (keywordEach kws X.env)).filterMap (·.1) = ks := by rfl)
    (hdb : (x == ("__debug__" : Str)) = false := by decide)
    (hpl : ((backTo pos (starEach [] X.env)).any (·.1) || (backToKw pos (keywordEach kws X.env)).any (·.1.isNone)) = false := by rfl) :
    PE X (.Call (.Name x p) [] kws pos) (tCallW sp ks.length gV E0 tk) := by
  refine ⟨fun pins s σ H Q I h => ?_⟩
  refine wpAny_Call_Name_kw (ld_glob I hg C.mg ?_ hdb)
  refine PySem.W.callWith_KW0 (h₀ := X.base) I.ok.mod.kin C.kp hall ?_ hpl
  refine thn (hkw.run pos pins s σ H _ I h) fun ws s2 ⟨zs, H2, I2, rz, hl, q2⟩ => ⟨I2.kIn, ?_⟩
  rw [hks]
  exact run_fnN C.ok (hr.mono hk) hb pass0 I2 .nil rz rfl hl q2
section
variable {K : PySem.W.Frag} {Γ Γ1 : List Slot} {d : PyData}
theorem ev_callW {R : List PyData → PyData → Prop} {E0' : XK} {tk : TA} {m : Nat} {gV : List V → List V → List V} {ds es : List PyData} (hk : EvA K tk Γ es Γ1) (hm : es.length = m)
    (hg : ∀ (B : Hp) ws, DqA K B ws es → DqA K B (gV [] ws) ds) (hR : R ds d) : EvX K (tCallW (spD K R) m gV E0' tk) Γ d Γ1 := fun E σ B H s Q q =>
  hk E σ B H s _ fun ws B1 H1 e1 s1 x1 => ⟨by rw [x1.length, hm], B1, ds, d, s1.ex, hg B1 ws x1, hR, fun v B3 H3 g v2 => q v B3 H3 (e1.trans g.bx) (s1.gr g) v2⟩
end
def swap2 {α : Type} : List α → List α → List α
  | _, [a, b] => [b, a]
  | _, l => l
theorem swap2_vals {vs zs : List V} {us ws : List Value} (_ : Vals vs us) (r : Vals zs ws) : Vals (swap2 vs zs) (swap2 us ws) := by
  match zs, ws, r with
  | [], [], .nil => exact .nil
  | [a], [b], .cons h .nil => exact .cons h .nil
  | [a, b], [c, d], .cons h (.cons h2 .nil) => exact .cons h2 (.cons h .nil)
  | a :: b :: c :: l, d :: e :: f :: m, .cons h (.cons h2 (.cons h3 t)) => exact .cons h (.cons h2 (.cons h3 t))
theorem swap2_dq {K : PySem.W.Frag} {B : Hp} {ws : List V} {a b : PyData} (h : DqA K B ws [a, b]) : DqA K B (swap2 [] ws) [b, a] := by
  obtain ⟨v, w, rfl, h1, h2⟩ := h.two
  exact .cons h2 (.cons h1 .nil)
end DL
end Part7

section Part8
set_option Elab.async false
set_option linter.all false
set_option maxRecDepth 100000
set_option maxHeartbeats 4000000
/-! what the program reckons, as plain functions -/
namespace C56
open PySem PySem.Spec PyProof.Rows L2 DL
def isFrom (lo : Int) : PyData → Bool
  | .int i => decide (lo ≤ i)
  | _ => false
def isTupM : PyData → PyData → Bool
  | .none, .tuple _ => true
  | .int n, .tuple ds => decide ((ds.length : Int) = n)
  | _, _ => false
def isFr : PyData → Bool
  | .tuple [.int a, .int b] => decide (1 ≤ b) && decide (Nat.gcd a.natAbs b.natAbs = 1)
  | _ => false
def isRow (m : PyData) (x : PyData) : Bool := isTupM m x && (match x with | .tuple ds => ds.all isFr | _ => false)
def isMat (m wd : PyData) (x : PyData) : Bool := isTupM m x && (match x with | .tuple ds => ds.all (isRow wd) | _ => false)
/-- the first member -/
def c0 (p : List Rat) : Rat := p.headD 0
def lastQ (p : List Rat) : Rat := p.getLastD 0
def monicQ (p : List Rat) : List Rat := p.map (· * (1 / lastQ p))
def isOpen (p : List Rat) : Bool := decide (-1 < c0 p) && decide (c0 p < 1)
/-- the parts: member less first times the member from behind -/
def partsQ (p : List Rat) : List Rat := (p.zip p.reverse).map fun x => x.1 - c0 p * x.2
def belowQ (p : List Rat) : Rat := 1 - c0 p * c0 p
def nextQ (p : List Rat) : List Rat := ((partsQ p).drop 1).map (· / belowQ p)
def rowsF : Nat → List Rat → List (List Rat)
  | 0, p => [p]
  | n + 1, p => p :: (if 1 < p.length ∧ isOpen p = true then rowsF n (nextQ p) else [])
def rowsQ (p : List Rat) : List (List Rat) := rowsF p.length p
def circleQ (p : List Rat) : List (List Rat) := rowsQ (monicQ p)
def withinQ (p : List Rat) : Bool := decide (((circleQ p).getLastD []).length = 1)
def OkNext (p : List Rat) : Prop := OkTimes (c0 p) (c0 p) ∧ OkTake 1 (c0 p * c0 p) ∧ (∀ x ∈ p.zip p.reverse, OkTimes (c0 p) x.2 ∧ OkTake x.1 (c0 p * x.2)) ∧ ∀ x ∈ (partsQ p).drop 1, OkOver x (belowQ p)
def OkOpen (p : List Rat) : Prop := OkLess (-1) (c0 p) ∧ OkLess (c0 p) 1
def OkRows : Nat → List Rat → Prop
  | 0, _ => True
  | n + 1, p => OkOpen p ∧ (1 < p.length ∧ isOpen p = true → OkNext p ∧ OkRows n (nextQ p))
def OkMonic (p : List Rat) : Prop := OkOver 1 (lastQ p) ∧ ∀ x ∈ p, OkTimes x (1 / lastQ p)
/-- a polynomial of the document, small enough -/
structure OkPoly (p : List Rat) : Prop where
  ne : p ≠ []
  last : lastQ p ≠ 0
  len : p.length ≤ 1000
  monic : OkMonic p
  rows : OkRows p.length (monicQ p)
theorem partsQ_len (p : List Rat) : (partsQ p).length = p.length := by
  unfold partsQ
  rw [List.length_map, List.length_zip, List.length_reverse, Nat.min_self]
theorem nextQ_len (p : List Rat) : (nextQ p).length = p.length - 1 := by
  unfold nextQ
  rw [List.length_map, List.length_drop, partsQ_len]
theorem monicQ_len (p : List Rat) : (monicQ p).length = p.length := by
  unfold monicQ
  rw [List.length_map]
theorem isFr_dq (q : Rat) : isFr (dq q) = true := by
  show (decide (1 ≤ ((q.den : Nat) : Int)) && decide (Nat.gcd q.num.natAbs ((q.den : Nat) : Int).natAbs = 1)) = true
  have h1 := q.den_pos
  have h2 : Nat.gcd q.num.natAbs ((q.den : Nat) : Int).natAbs = 1 := q.reduced
  rw [decide_eq_true h2, decide_eq_true (by omega)]
  rfl
theorem isRow_dr (r : List Rat) : isRow .none (dr r) = true := by
  show (true && (r.map dq).all isFr) = true
  rw [Bool.true_and, List.all_eq_true]
  intro x hx
  obtain ⟨q, _, rfl⟩ := List.mem_map.mp hx
  exact isFr_dq q
theorem atI_last {ds : List PyData} (h : ds ≠ []) : atI ds (-1) = some (ds.getLast h) := by
  have hl : 0 < ds.length := List.length_pos_iff.mpr h
  unfold atI ixN
  rw [if_neg (by omega), if_pos (by omega)]
  have e : ((-1 : Int) + (ds.length : Nat)).toNat = ds.length - 1 := by omega
  show ds[((-1 : Int) + (ds.length : Nat)).toNat]? = _
  rw [e, List.getLast_eq_getElem, List.getElem?_eq_getElem]
theorem lastQ_eq {p : List Rat} (h : p ≠ []) : lastQ p = p.getLast h := by
  unfold lastQ
  rw [List.getLastD_eq_getLast?, List.getLast?_eq_some_getLast h]
  rfl
theorem atI_lastQ {p : List Rat} (h : p ≠ []) : atI (p.map dq) (-1) = some (dq (lastQ p)) := by
  have h' : p.map dq ≠ [] := fun z => h (List.map_eq_nil_iff.mp z)
  rw [atI_last h', List.getLast_map, lastQ_eq h]
theorem atI_c0 {p : List Rat} (h : p ≠ []) : atI (p.map dq) 0 = some (dq (c0 p)) := by
  cases p with
  | nil => exact absurd rfl h
  | cons a r =>
    have e : atI ((a :: r).map dq) ((0 : Nat) : Int) = some (dq a) := L2.atI_nat rfl
    exact e
end C56
end Part8

section Part9
set_option Elab.async false
set_option linter.all false
set_option maxRecDepth 100000
set_option maxHeartbeats 4000000
open PySem PySem.Spec PyProof.Rows L2 DL
open Evl (Ex)
/-! ### my words for the walk: expressions, arguments, operators, tests -/
local macro_rules | `(tactic| walk_at "len") => `(tactic| first
  | exact DL.len0
  | exact DL.len1
  | exact DL.len2
  | exact DL.len3
  | exact DL.len4
  | exact DL.len5
  | exact DL.len6
  | exact DL.len7
  | exact DL.len8
  | exact DL.len9
  | exact DL.len10
  | exact DL.len11
  | exact DL.len12
  | exact DL.len13
  | exact DL.len14
  | exact DL.len15
  | exact DL.len16
  | exact DL.len17
  | exact DL.len18
  | exact DL.len19
  | exact DL.len20)
local macro_rules | `(tactic| walk_at "sh") => `(tactic| first
  | exact DL.sh_int
  | exact DL.sh_none
  | exact DL.sh_bool
  | exact DL.sh_dq
  | exact DL.sh_dr
  | exact DL.sh_nil
  | assumption
  | rfl)
local macro_rules | `(tactic| walk_at "sc") => `(tactic| first
  | fail "side")
local macro_rules | `(tactic| walk_at "side") => `(tactic| first
  | assumption
  | rfl
  | (walk_at "sc"; done)
  | (trace "SIDE"; trace_state; fail "side"))
local macro_rules | `(tactic| walk_at "at") => `(tactic| first
  | exact rfl
  | (walk_at "side"))
local macro_rules | `(tactic| walk_at "rv") => `(tactic| first
  | (with_reducible exact rv_add)
  | (with_reducible exact rv_sub)
  | (with_reducible exact rv_lt)
  | (with_reducible exact rv_le)
  | (with_reducible exact rv_gt)
  | (with_reducible exact rv_ge)
  | (with_reducible exact rv_isN)
  | (with_reducible exact rv_notN)
  | (with_reducible exact rv_isB)
  | (with_reducible exact rv_notB)
  | ((with_reducible refine' rv_ixT ?x1); (case' x1 => walk_at "at"))
  | ((with_reducible refine' rv_ixL ?x1); (case' x1 => walk_at "at"))
  | ((with_reducible refine' rv_mul ?x1); (case' x1 => walk_at "side"))
  | ((with_reducible refine' rv_fd ?x1); (case' x1 => walk_at "side"))
  | ((with_reducible refine' rv_mod ?x1); (case' x1 => first | assumption | decide | omega))
  | ((with_reducible refine' rv_pow ?x1); (case' x1 => first | decide | walk_at "side"))
  | ((with_reducible refine' rv_shl ?x1); (case' x1 => first | decide | walk_at "side"))
  | ((with_reducible refine' rv_eq ?x1 ?x2); (case' x1 => walk_at "sh"); (case' x2 => walk_at "sh"))
  | ((with_reducible refine' rv_ne ?x1 ?x2); (case' x1 => walk_at "sh"); (case' x2 => walk_at "sh"))
  | ((with_reducible refine' rv_catT ?x1); (case' x1 => walk_at "side"))
  | ((with_reducible refine' rv_catL ?x1); (case' x1 => walk_at "side"))
  | ((with_reducible refine' rv_rep ?x1 ?x2); (case' x1 => walk_at "side"); (case' x2 => walk_at "side"))
  | (trace "RV"; trace_state; fail "rv"))
local macro_rules | `(tactic| walk_at "rc") => `(tactic| first
  | (with_reducible exact rc_lenT)
  | (with_reducible exact rc_lenL)
  | (with_reducible exact rc_gcd)
  | (with_reducible exact rc_abs)
  | (with_reducible exact rc_min)
  | (with_reducible exact rc_max)
  | (with_reducible exact rc_intI)
  | (with_reducible exact rc_intB)
  | (with_reducible exact rc_tupL)
  | (with_reducible exact rc_tupT)
  | (with_reducible exact rc_lstT)
  | (with_reducible exact rc_lstL)
  | (with_reducible exact rc_all)
  | (with_reducible exact rc_any))
local macro_rules | `(tactic| walk_at "rt") => `(tactic| first
  | fail "no promise")
local macro_rules | `(tactic| walk_at "ea") => `(tactic| first
  | exact ea_nil
  | exact ea_cons (by walk_at "ev") (by walk_at "ea"))
local macro_rules | `(tactic| walk_at "ev") => `(tactic| first
  | exact ev_var rfl
  | exact ev_int
  | exact ev_bl
  | exact ev_non
  | exact ev_str
  | exact ev_lenO rfl
  | exact ev_tupO rfl
  | ((with_reducible refine' ev_ixO ?x0 ?x1 ?x2 ?x3); (case' x0 => exact rfl); (case' x1 => walk_at "ev"); (case' x2 => exact rfl); (case' x3 => walk_at "at"))
  | ((with_reducible refine' ev_op ?x1 ?x2 ?x3); (case' x1 => walk_at "ev"); (case' x2 => walk_at "ev"); (case' x3 => walk_at "rv"))
  | ((with_reducible refine' ev_call ?x1 ?x2); (case' x1 => walk_at "ea"); (case' x2 => walk_at "rt"))
  | ((with_reducible refine' ev_isiInt ?x1); (case' x1 => walk_at "ev"))
  | ((with_reducible refine' ev_isiBool ?x1); (case' x1 => walk_at "ev"))
  | ((with_reducible refine' ev_isiTup ?x1); (case' x1 => walk_at "ev"))
  | ((with_reducible refine' ev_isiLst ?x1); (case' x1 => walk_at "ev"))
  | ((with_reducible refine' ev_isiStr ?x1); (case' x1 => walk_at "ev"))
  | ((with_reducible refine' ev_neg ?x1); (case' x1 => walk_at "ev"))
  | ((with_reducible refine' ev_not ?x1); (case' x1 => walk_at "ev"))
  | ((with_reducible refine' ev_revT ?x1); (case' x1 => walk_at "ev"))
  | ((with_reducible refine' ev_revL ?x1); (case' x1 => walk_at "ev"))
  | ((with_reducible refine' ev_cb ?x1 ?x2); (case' x1 => walk_at "ea"); (case' x2 => walk_at "rc"))
  | ((with_reducible refine' ev_tup ?x1 ?x2); (case' x1 => walk_at "ea"); (case' x2 => walk_at "len"))
  | ((with_reducible refine' ev_lst ?x1 ?x2); (case' x1 => walk_at "ea"); (case' x2 => walk_at "len"))
  | ((with_reducible refine' ev_and ?x1 ?x2); (case' x1 => walk_at "ev"); (case' x2 => (intro _; walk_at "ev")))
  | ((with_reducible refine' ev_or ?x1 ?x2); (case' x1 => walk_at "ev"); (case' x2 => (intro _; walk_at "ev")))
  | ((with_reducible refine' ev_slT ?x1 ?x2 ?x3); (case' x1 => walk_at "ev"); (case' x2 => walk_at "eo"); (case' x3 => walk_at "eo"))
  | ((with_reducible refine' ev_slL ?x1 ?x2 ?x3); (case' x1 => walk_at "ev"); (case' x2 => walk_at "eo"); (case' x3 => walk_at "eo"))
  | (trace "EV"; trace_state; fail "ev"))
local macro_rules | `(tactic| walk_at "eo") => `(tactic| first
  | exact eo_none
  | exact eo_some (by walk_at "ev"))
local macro_rules | `(tactic| walk_at "eb") => `(tactic| first
  | ((with_reducible refine' eb_and ?x1 ?x2); (case' x1 => walk_at "eb"); (case' x2 => (intro _; walk_at "eb")))
  | ((with_reducible refine' eb_or ?x1 ?x2); (case' x1 => walk_at "eb"); (case' x2 => (intro _; walk_at "eb")))
  | ((with_reducible refine' eb_not ?x1); (case' x1 => walk_at "eb"))
  | ((with_reducible refine' eb_val ?x1); (case' x1 => walk_at "ev"))
  | ((with_reducible refine' eb_test ?x1); (case' x1 => walk_at "ev")))
local macro_rules | `(tactic| walk_at "ret") => `(tactic| (refine' r_ret ?y1 ?y2; (case' y1 => walk_at "ev"); (case' y2 => try (first | rfl | skip))))
local macro_rules | `(tactic| walk_at "asg") => `(tactic| (refine' r_asg ?y1 ?y2; (case' y1 => walk_at "ev")))
local macro_rules | `(tactic| walk_at "if") => `(tactic| (refine' r_if ?y1 ?y2 ?y3; (case' y1 => walk_at "eb")))
local macro_rules | `(tactic| walk_at "par") => `(tactic| (refine' r_par ?y1 ?y2; (case' y1 => walk_at "ea")))
local macro_rules | `(tactic| walk_at "kk") => `(tactic| dsimp only [cxOf, Cx.nox, Cx.wish, Cx.blk, slots, List.map, List.length, List.replicate, List.append, Nat.sub, Nat.add, List.cons_append, List.nil_append, Nat.reduceAdd, Nat.reduceSub, List.replicate_succ, List.replicate_zero])

namespace C56
def topS (i : Nat) : Stmt := PySem.Challenge.pw_onepassexact_k56_circle_rows_by_planted.main.body.getD i (.Pass ⟨0, 0, 0, 0⟩)
abbrev s_is_integer : Stmt := topS 5
theorem sc_is_integer : FnScope ["thing"] ["thing"] (defScope s_is_integer) := ⟨rfl, rfl, rfl, by decide +kernel, rfl, by decide +kernel, by decide +kernel⟩
abbrev s_is_from : Stmt := topS 6
theorem sc_is_from : FnScope ["low", "thing"] ["low", "thing"] (defScope s_is_from) := ⟨rfl, rfl, rfl, by decide +kernel, rfl, by decide +kernel, by decide +kernel⟩
abbrev s_is_tuple : Stmt := topS 7
theorem sc_is_tuple : FnScope ["many", "thing"] ["many", "thing"] (defScope s_is_tuple) := ⟨rfl, rfl, rfl, by decide +kernel, rfl, by decide +kernel, by decide +kernel⟩
abbrev s_lowest_in : Stmt := topS 11
theorem sc_lowest_in : FnScope ["top", "bottom", "common"] ["top", "bottom"] (defScope s_lowest_in) := ⟨rfl, rfl, rfl, by decide +kernel, rfl, by decide +kernel, by decide +kernel⟩
abbrev s_is_fraction : Stmt := topS 12
theorem sc_is_fraction : FnScope ["value"] ["value"] (defScope s_is_fraction) := ⟨rfl, rfl, rfl, by decide +kernel, rfl, by decide +kernel, by decide +kernel⟩
abbrev s_is_row : Stmt := topS 13
theorem sc_is_row : FnScope ["many", "thing", "one"] ["many", "thing"] (defScope s_is_row) := ⟨rfl, rfl, rfl, by decide +kernel, rfl, by decide +kernel, by decide +kernel⟩
abbrev s_is_matrix : Stmt := topS 14
theorem sc_is_matrix : FnScope ["many", "width", "thing", "row"] ["many", "width", "thing"] (defScope s_is_matrix) := ⟨rfl, rfl, rfl, by decide +kernel, rfl, by decide +kernel, by decide +kernel⟩
abbrev s_take_in : Stmt := topS 15
theorem sc_take_in : FnScope ["one", "other"] ["one", "other"] (defScope s_take_in) := ⟨rfl, rfl, rfl, by decide +kernel, rfl, by decide +kernel, by decide +kernel⟩
abbrev s_times_in : Stmt := topS 16
theorem sc_times_in : FnScope ["one", "other"] ["one", "other"] (defScope s_times_in) := ⟨rfl, rfl, rfl, by decide +kernel, rfl, by decide +kernel, by decide +kernel⟩
abbrev s_over_in : Stmt := topS 17
theorem sc_over_in : FnScope ["one", "other"] ["one", "other"] (defScope s_over_in) := ⟨rfl, rfl, rfl, by decide +kernel, rfl, by decide +kernel, by decide +kernel⟩
abbrev s_less_in : Stmt := topS 18
theorem sc_less_in : FnScope ["one", "other"] ["one", "other"] (defScope s_less_in) := ⟨rfl, rfl, rfl, by decide +kernel, rfl, by decide +kernel, by decide +kernel⟩
abbrev s_scale_in : Stmt := topS 20
theorem sc_scale_in : FnScope ["row", "fraction", "one"] ["row", "fraction"] (defScope s_scale_in) := ⟨rfl, rfl, rfl, by decide +kernel, rfl, by decide +kernel, by decide +kernel⟩
abbrev s_check_polynomial : Stmt := topS 22
theorem sc_check_polynomial : FnScope ["thing"] ["thing"] (defScope s_check_polynomial) := ⟨rfl, rfl, rfl, by decide +kernel, rfl, by decide +kernel, by decide +kernel⟩
abbrev s_monic_in : Stmt := topS 23
theorem sc_monic_in : FnScope ["one"] ["one"] (defScope s_monic_in) := ⟨rfl, rfl, rfl, by decide +kernel, rfl, by decide +kernel, by decide +kernel⟩
abbrev s_is_open : Stmt := topS 25
theorem sc_is_open : FnScope ["polynomial", "first"] ["polynomial"] (defScope s_is_open) := ⟨rfl, rfl, rfl, by decide +kernel, rfl, by decide +kernel, by decide +kernel⟩
abbrev s_next_in : Stmt := topS 26
theorem sc_next_in : FnScope ["polynomial", "first", "below", "parts", "one", "other"] ["polynomial"] (defScope s_next_in) := ⟨rfl, rfl, rfl, by decide +kernel, rfl, by decide +kernel, by decide +kernel⟩
abbrev s_circle_in : Stmt := topS 27
theorem sc_circle_in : FnScope ["polynomial", "found"] ["polynomial"] (defScope s_circle_in) := ⟨rfl, rfl, rfl, by decide +kernel, rfl, by decide +kernel, by decide +kernel⟩
abbrev s_is_within_in : Stmt := topS 28
theorem sc_is_within_in : FnScope ["polynomial"] ["polynomial"] (defScope s_is_within_in) := ⟨rfl, rfl, rfl, by decide +kernel, rfl, by decide +kernel, by decide +kernel⟩
abbrev s_circle_rows : Stmt := topS 29
theorem sc_circle_rows : FnScope ["polynomial"] ["polynomial"] (defScope s_circle_rows) := ⟨rfl, rfl, rfl, by decide +kernel, rfl, by decide +kernel, by decide +kernel⟩
abbrev s_is_within : Stmt := topS 30
theorem sc_is_within : FnScope ["polynomial"] ["polynomial"] (defScope s_is_within) := ⟨rfl, rfl, rfl, by decide +kernel, rfl, by decide +kernel, by decide +kernel⟩
abbrev s_is_circle_rows : Stmt := topS 31
theorem sc_is_circle_rows : FnScope ["polynomial", "value"] ["polynomial", "value"] (defScope s_is_circle_rows) := ⟨rfl, rfl, rfl, by decide +kernel, rfl, by decide +kernel, by decide +kernel⟩
abbrev s__law_jar : Stmt := topS 33
theorem sc__law_jar : FnScope ["script", "at", "cell"] ["script", "at"] (defScope s__law_jar) := ⟨rfl, rfl, rfl, by decide +kernel, rfl, by decide +kernel, by decide +kernel⟩
abbrev s__law_next : Stmt := topS 34
theorem sc__law_next : FnScope ["jar", "many", "digit", "one"] ["jar", "many"] (defScope s__law_next) := ⟨rfl, rfl, rfl, by decide +kernel, rfl, by decide +kernel, by decide +kernel⟩
abbrev s__law_pick : Stmt := topS 35
theorem sc__law_pick : FnScope ["jar", "rows"] ["jar", "rows"] (defScope s__law_pick) := ⟨rfl, rfl, rfl, by decide +kernel, rfl, by decide +kernel, by decide +kernel⟩
abbrev s__law_equal : Stmt := topS 36
theorem sc__law_equal : FnScope ["found", "due", "k"] ["found", "due"] (defScope s__law_equal) := ⟨rfl, rfl, rfl, by decide +kernel, rfl, by decide +kernel, by decide +kernel⟩
abbrev s__law_odd : Stmt := topS 37
theorem sc__law_odd : FnScope ["jar"] ["jar"] (defScope s__law_odd) := ⟨rfl, rfl, rfl, by decide +kernel, rfl, by decide +kernel, by decide +kernel⟩
abbrev s__law_frac : Stmt := topS 38
theorem sc__law_frac : FnScope ["top", "bottom", "one", "two"] ["top", "bottom"] (defScope s__law_frac) := ⟨rfl, rfl, rfl, by decide +kernel, rfl, by decide +kernel, by decide +kernel⟩
abbrev s__law_plus : Stmt := topS 39
theorem sc__law_plus : FnScope ["one", "other"] ["one", "other"] (defScope s__law_plus) := ⟨rfl, rfl, rfl, by decide +kernel, rfl, by decide +kernel, by decide +kernel⟩
abbrev s__law_take : Stmt := topS 40
theorem sc__law_take : FnScope ["one", "other"] ["one", "other"] (defScope s__law_take) := ⟨rfl, rfl, rfl, by decide +kernel, rfl, by decide +kernel, by decide +kernel⟩
abbrev s__law_mul : Stmt := topS 41
theorem sc__law_mul : FnScope ["one", "other"] ["one", "other"] (defScope s__law_mul) := ⟨rfl, rfl, rfl, by decide +kernel, rfl, by decide +kernel, by decide +kernel⟩
abbrev s__law_number : Stmt := topS 42
theorem sc__law_number : FnScope ["jar"] ["jar"] (defScope s__law_number) := ⟨rfl, rfl, rfl, by decide +kernel, rfl, by decide +kernel, by decide +kernel⟩
abbrev s__law_times : Stmt := topS 43
theorem sc__law_times : FnScope ["one", "other", "found", "i", "j"] ["one", "other"] (defScope s__law_times) := ⟨rfl, rfl, rfl, by decide +kernel, rfl, by decide +kernel, by decide +kernel⟩
abbrev s__law_less : Stmt := topS 44
theorem sc__law_less : FnScope ["one", "other"] ["one", "other"] (defScope s__law_less) := ⟨rfl, rfl, rfl, by decide +kernel, rfl, by decide +kernel, by decide +kernel⟩
abbrev s__law_inside : Stmt := topS 45
theorem sc__law_inside : FnScope ["one"] ["one"] (defScope s__law_inside) := ⟨rfl, rfl, rfl, by decide +kernel, rfl, by decide +kernel, by decide +kernel⟩
abbrev s__law_factor : Stmt := topS 46
theorem sc__law_factor : FnScope ["jar", "root", "b", "c"] ["jar"] (defScope s__law_factor) := ⟨rfl, rfl, rfl, by decide +kernel, rfl, by decide +kernel, by decide +kernel⟩
abbrev s__law_rows : Stmt := topS 47
theorem sc__law_rows : FnScope ["polynomial", "by", "rows", "turn", "own", "below", "parts", "one", "k"] ["polynomial"] (defScope s__law_rows) := ⟨rfl, rfl, rfl, by decide +kernel, rfl, by decide +kernel, by decide +kernel⟩
abbrev s__law_bends : Stmt := topS 48
theorem sc__law_bends : FnScope ["jar", "rows", "k", "j", "number", "own", "some"] ["jar", "rows"] (defScope s__law_bends) := ⟨rfl, rfl, rfl, by decide +kernel, rfl, by decide +kernel, by decide +kernel⟩
abbrev s_law : Stmt := topS 49
theorem sc_law : FnScope ["script", "at", "jar", "polynomial", "within", "turn", "factor", "good", "number", "many", "told", "rows", "turned", "smaller", "value", "due", "one", "k"] ["script"] (defScope s_law) := ⟨rfl, rfl, rfl, by decide +kernel, rfl, by decide +kernel, by decide +kernel⟩
structure Tx (K : PySem.W.Frag) (mg : Str → Option Value) (aN aO : Addr) : Prop where
  n_isinstance : mg "isinstance" = none
  n_int : mg "int" = none
  n_bool : mg "bool" = none
  n_str : mg "str" = none
  n_tuple : mg "tuple" = none
  n_list : mg "list" = none
  n_len : mg "len" = none
  n_all : mg "all" = none
  n_zip : mg "zip" = none
  n_abs : mg "abs" = none
  n_min : mg "min" = none
  n_max : mg "max" = none
  n_range : mg "range" = none
  g_gcd : mg "gcd" = some (.builtin "math.gcd")
  g_NOUGHT : mg "NOUGHT" = some (.ref aN)
  g_ONE : mg "ONE" = some (.ref aO)
  c_NOUGHT : ∀ B, Dq K B (.ref aN) (dq 0)
  c_ONE : ∀ B, Dq K B (.ref aO) (dq 1)
section
variable {P : Program} {w : World} {K : PySem.W.Frag} {mg : Str → Option Value} {base : Heap} {aN aO : Addr}
def R_is_integer (ds : List PyData) (d : PyData) : Prop := ∃ x, ds = [x] ∧ d = .bool (isInt x)
theorem ok_is_integer (T : Tx K mg aN aO) {f : Addr} {fd : FuncData} (F : Fun K "is_integer" "is_integer" s_is_integer f fd) : FnOk P w K mg base CX0 1 f fd ["thing"] (spD K R_is_integer) := by
  refine fn_D F sc_is_integer (by decide) (fun ds d h => ?_) (fun cdv A outer s H E hr => ⟨_, (pss_one (ps_ret (pe_and (pe_callB call_isi rfl T.n_isinstance (by decide +kernel) (pa_cons (pv 0) (pa_cons (pe_bltn (v := V.ty "int") (u := Value.type "int") rfl T.n_int (by decide +kernel) rfl) pa_nil))) (pe_one (pe_not (pe_callB call_isi rfl T.n_isinstance (by decide +kernel) (pa_cons (pv 0) (pa_cons (pe_bltn (v := V.ty "bool") (u := Value.type "bool") rfl T.n_bool (by decide +kernel) rfl) pa_nil)))))))), fun ds d hR => ?_⟩)
  · obtain ⟨x, rfl, _⟩ := h
    rfl
  · obtain ⟨x, rfl, rfl⟩ := hR
    walk_at "kk"
    cases x <;> walk_at "ret"
def R_is_from (ds : List PyData) (d : PyData) : Prop := ∃ lo x, ds = [.int lo, x] ∧ d = .bool (isFrom lo x)
theorem rt_is_integer {x : PyData} : R_is_integer [x] (.bool (isInt x)) := ⟨x, rfl, rfl⟩
local macro_rules | `(tactic| walk_at "rt") => `(tactic| exact rt_is_integer)
theorem ok_is_from (T : Tx K mg aN aO) {f f1 : Addr} {fd fd1 : FuncData} (F : Fun K "is_from" "is_from" s_is_from f fd) (c_is_integer : Cal P w K mg base "is_integer" 1 ["thing"] (spD K R_is_integer) f1 fd1) : FnOk P w K mg base CX0 2 f fd ["low", "thing"] (spD K R_is_from) := by
  refine fn_D F sc_is_from (by decide) (fun ds d h => ?_) (fun cdv A outer s H E hr => ⟨_, (pss_one (ps_ret (pe_and (pe_cal c_is_integer hr (by decide) rfl (pa_cons (pv 1) pa_nil)) (pe_one (pe_cmpR op_ge (pv 1) (pv 0) (nomark _)))))), fun ds d hR => ?_⟩)
  · obtain ⟨lo, x, rfl, _⟩ := h
    rfl
  · obtain ⟨lo, x, rfl, rfl⟩ := hR
    walk_at "kk"
    by_cases hx : isInt x = true
    · obtain ⟨i, rfl⟩ : ∃ i, x = .int i := by cases x <;> first | exact ⟨_, rfl⟩ | cases hx
      walk_at "ret"
    · have e : isInt x = false := Bool.eq_false_iff.mpr hx
      have e2 : isFrom lo x = false := by cases x <;> first | rfl | exact absurd rfl hx
      rw [e2]
      refine' r_ret (ev_and (b := false) (a := isInt x) ?ha (fun h => absurd h hx)) ?hk
      case ha => walk_at "ev"
      case hk =>
        rw [e]
        rfl
theorem rt_is_from {lo : Int} {x : PyData} : R_is_from [.int lo, x] (.bool (isFrom lo x)) := ⟨lo, x, rfl, rfl⟩
local macro_rules | `(tactic| walk_at "rt") => `(tactic| exact rt_is_from)
def Many (m : PyData) : Prop := m = .none ∨ ∃ n, m = .int n
def R_is_tuple (ds : List PyData) (d : PyData) : Prop := ∃ m x, ds = [m, x] ∧ Many m ∧ d = .bool (isTupM m x)
theorem rt_is_tupleN {x : PyData} : R_is_tuple [.none, x] (.bool (isTupM .none x)) := ⟨.none, x, rfl, .inl rfl, rfl⟩
theorem rt_is_tupleI {n : Int} {x : PyData} : R_is_tuple [.int n, x] (.bool (isTupM (.int n) x)) := ⟨.int n, x, rfl, .inr ⟨n, rfl⟩, rfl⟩
local macro_rules | `(tactic| walk_at "rt") => `(tactic| first | exact rt_is_tupleN | exact rt_is_tupleI)
theorem ok_is_tuple (T : Tx K mg aN aO) {f : Addr} {fd : FuncData} (F : Fun K "is_tuple" "is_tuple" s_is_tuple f fd) : FnOk P w K mg base CX0 1 f fd ["many", "thing"] (spD K R_is_tuple) := by
  refine fn_D F sc_is_tuple (by decide) (fun ds d h => ?_) (fun cdv A outer s H E hr => ⟨_, (pss_one (ps_ret (pe_and (pe_callB call_isi rfl T.n_isinstance (by decide +kernel) (pa_cons (pv 1) (pa_cons (pe_bltn (v := V.ty "tuple") (u := Value.type "tuple") rfl T.n_tuple (by decide +kernel) rfl) pa_nil))) (pe_one (pe_or (pe_cmpR op_isN (pv 0) pe_non (nomark _)) (pe_one (pe_cmpR (op_eqD hr.units) (pe_callB call_lenX rfl T.n_len PySem.boot_len (pa_cons (pv 1) pa_nil)) (pv 0) (nomark _)))))))), fun ds d hR => ?_⟩)
  · obtain ⟨m, x, rfl, _⟩ := h
    rfl
  · obtain ⟨m, x, rfl, hm, rfl⟩ := hR
    walk_at "kk"
    by_cases hx : ∃ ds, x = .tuple ds
    · obtain ⟨ds, rfl⟩ := hx
      rcases hm with rfl | ⟨n, rfl⟩
      · walk_at "ret"
      · walk_at "ret"
    · have e : isiTup x = false := by cases x <;> first | rfl | exact absurd ⟨_, rfl⟩ hx
      have e2 : isTupM m x = false := by
        cases x <;> first | exact absurd ⟨_, rfl⟩ hx | (unfold isTupM; cases m <;> rfl)
      refine' r_ret (ev_and (b := false) (a := isiTup x) ?ha (fun h => by rw [e] at h; cases h)) ?hk
      case ha => walk_at "ev"
      case hk =>
        rw [e, e2]
        rfl
/-! fractions -/
def R_lowest_in (ds : List PyData) (d : PyData) : Prop := ∃ t b : Int, ds = [.int t, .int b] ∧ b ≠ 0 ∧ LowOk t b ∧ d = dq (Rat.divInt t b)
theorem ok_lowest_in (T : Tx K mg aN aO) {f : Addr} {fd : FuncData} (F : Fun K "lowest_in" "lowest_in" s_lowest_in f fd) : FnOk P w K mg base CX0 1 f fd ["top", "bottom"] (spD K R_lowest_in) := by
  refine fn_D F sc_lowest_in (by decide) (fun ds d h => ?_) (fun cdv A outer s H E hr => ⟨_, (pss_cons (ps_set (i := 2) sc_lowest_in.nd rfl (by first | exact Or.inl rfl | exact Or.inr rfl) (pe_callBfun cr_gcd rfl T.g_gcd (pa_cons (pv 0) (pa_cons (pv 1) pa_nil))))
      (pss_cons (ps_if (pt_cmpR op_lt (pv 1) pe_int (nomark _))
        (pss_one (ps_set (i := 2) sc_lowest_in.nd rfl (by first | exact Or.inl rfl | exact Or.inr rfl) (pe_op op_sub pe_int (pv 2))))
        pss_nil)
      (pss_one (ps_ret (pe_tup (pa_cons (pe_op op_fdX (pv 0) (pv 2)) (pa_cons (pe_op op_fdX (pv 1) (pv 2)) pa_nil))))))), fun ds d hR => ?_⟩)
  · obtain ⟨t, b, rfl, _⟩ := h
    rfl
  · obtain ⟨t, b, rfl, hb, hl, rfl⟩ := hR
    walk_at "kk"
    have g0 : ((Nat.gcd t.natAbs b.natAbs : Nat) : Int) ≠ 0 := fun z => hb (Int.natAbs_eq_zero.mp (Nat.eq_zero_of_gcd_eq_zero_right (Int.ofNat_eq_zero.mp z)))
    refine r_seq ?_
    walk_at "asg"
    show RunS K _ [.dat (.int t), .dat (.int b), .dat (.int ((Nat.gcd t.natAbs b.natAbs : Nat) : Int))] _
    refine r_seq ?_
    walk_at "if" <;> intro c
    · have hn : b < 0 := of_decide_eq_true c
      walk_at "asg"
      show RunS K _ [.dat (.int t), .dat (.int b), .dat (.int (0 - ((Nat.gcd t.natAbs b.natAbs : Nat) : Int)))] _
      have n1 := low_num (t := t) hb
      have n2 := low_den (t := t) hb
      rw [if_pos hn] at n1 n2
      have hg : (0 - ((Nat.gcd t.natAbs b.natAbs : Nat) : Int)).natAbs = Nat.gcd t.natAbs b.natAbs := by omega
      have f1 : CFd t (0 - ((Nat.gcd t.natAbs b.natAbs : Nat) : Int)) := ⟨by omega, (hl _ hg).1⟩
      have f2 : CFd b (0 - ((Nat.gcd t.natAbs b.natAbs : Nat) : Int)) := ⟨by omega, (hl _ hg).2⟩
      walk_at "ret"
      show PyData.tuple _ = dq _
      rw [n1, n2]
    · have hn : ¬ b < 0 := of_decide_eq_false c
      refine r_next ?_
      have n1 := low_num (t := t) hb
      have n2 := low_den (t := t) hb
      rw [if_neg hn] at n1 n2
      have hg : ((Nat.gcd t.natAbs b.natAbs : Nat) : Int).natAbs = Nat.gcd t.natAbs b.natAbs := by omega
      show RunS K _ [.dat (.int t), .dat (.int b), .dat (.int ((Nat.gcd t.natAbs b.natAbs : Nat) : Int))] _
      have f1 : CFd t ((Nat.gcd t.natAbs b.natAbs : Nat) : Int) := ⟨g0, (hl _ hg).1⟩
      have f2 : CFd b ((Nat.gcd t.natAbs b.natAbs : Nat) : Int) := ⟨g0, (hl _ hg).2⟩
      walk_at "ret"
      show PyData.tuple _ = dq _
      rw [n1, n2]
end
end C56
end Part9

section Part10
set_option Elab.async false
set_option linter.all false
set_option maxRecDepth 100000
set_option maxHeartbeats 4000000
open PySem PySem.Spec PyProof.Rows L2 DL
open Evl (Ex)
/-! ### my words for the walk: expressions, arguments, operators, tests -/
local macro_rules | `(tactic| walk_at "len") => `(tactic| first
  | exact DL.len0
  | exact DL.len1
  | exact DL.len2
  | exact DL.len3
  | exact DL.len4
  | exact DL.len5
  | exact DL.len6
  | exact DL.len7
  | exact DL.len8
  | exact DL.len9
  | exact DL.len10
  | exact DL.len11
  | exact DL.len12
  | exact DL.len13
  | exact DL.len14
  | exact DL.len15
  | exact DL.len16
  | exact DL.len17
  | exact DL.len18
  | exact DL.len19
  | exact DL.len20)
local macro_rules | `(tactic| walk_at "sh") => `(tactic| first
  | exact DL.sh_int
  | exact DL.sh_none
  | exact DL.sh_bool
  | exact DL.sh_dq
  | exact DL.sh_dr
  | exact DL.sh_nil
  | assumption
  | rfl)
local macro_rules | `(tactic| walk_at "sc") => `(tactic| first
  | fail "side")
local macro_rules | `(tactic| walk_at "side") => `(tactic| first
  | assumption
  | rfl
  | (walk_at "sc"; done)
  | (trace "SIDE"; trace_state; fail "side"))
local macro_rules | `(tactic| walk_at "at") => `(tactic| first
  | exact rfl
  | (walk_at "side"))
local macro_rules | `(tactic| walk_at "rv") => `(tactic| first
  | (with_reducible exact rv_add)
  | (with_reducible exact rv_sub)
  | (with_reducible exact rv_lt)
  | (with_reducible exact rv_le)
  | (with_reducible exact rv_gt)
  | (with_reducible exact rv_ge)
  | (with_reducible exact rv_isN)
  | (with_reducible exact rv_notN)
  | (with_reducible exact rv_isB)
  | (with_reducible exact rv_notB)
  | ((with_reducible refine' rv_ixT ?x1); (case' x1 => walk_at "at"))
  | ((with_reducible refine' rv_ixL ?x1); (case' x1 => walk_at "at"))
  | ((with_reducible refine' rv_mul ?x1); (case' x1 => walk_at "side"))
  | ((with_reducible refine' rv_fd ?x1); (case' x1 => walk_at "side"))
  | ((with_reducible refine' rv_mod ?x1); (case' x1 => first | assumption | decide | omega))
  | ((with_reducible refine' rv_pow ?x1); (case' x1 => first | decide | walk_at "side"))
  | ((with_reducible refine' rv_shl ?x1); (case' x1 => first | decide | walk_at "side"))
  | ((with_reducible refine' rv_eq ?x1 ?x2); (case' x1 => walk_at "sh"); (case' x2 => walk_at "sh"))
  | ((with_reducible refine' rv_ne ?x1 ?x2); (case' x1 => walk_at "sh"); (case' x2 => walk_at "sh"))
  | ((with_reducible refine' rv_catT ?x1); (case' x1 => walk_at "side"))
  | ((with_reducible refine' rv_catL ?x1); (case' x1 => walk_at "side"))
  | ((with_reducible refine' rv_rep ?x1 ?x2); (case' x1 => walk_at "side"); (case' x2 => walk_at "side"))
  | (trace "RV"; trace_state; fail "rv"))
local macro_rules | `(tactic| walk_at "rc") => `(tactic| first
  | (with_reducible exact rc_lenT)
  | (with_reducible exact rc_lenL)
  | (with_reducible exact rc_gcd)
  | (with_reducible exact rc_abs)
  | (with_reducible exact rc_min)
  | (with_reducible exact rc_max)
  | (with_reducible exact rc_intI)
  | (with_reducible exact rc_intB)
  | (with_reducible exact rc_tupL)
  | (with_reducible exact rc_tupT)
  | (with_reducible exact rc_lstT)
  | (with_reducible exact rc_lstL)
  | (with_reducible exact rc_all)
  | (with_reducible exact rc_any))
local macro_rules | `(tactic| walk_at "rt") => `(tactic| first
  | fail "no promise")
local macro_rules | `(tactic| walk_at "ea") => `(tactic| first
  | exact ea_nil
  | exact ea_cons (by walk_at "ev") (by walk_at "ea"))
local macro_rules | `(tactic| walk_at "ev") => `(tactic| first
  | exact ev_var rfl
  | exact ev_int
  | exact ev_bl
  | exact ev_non
  | exact ev_str
  | exact ev_lenO rfl
  | exact ev_tupO rfl
  | ((with_reducible refine' ev_ixO ?x0 ?x1 ?x2 ?x3); (case' x0 => exact rfl); (case' x1 => walk_at "ev"); (case' x2 => exact rfl); (case' x3 => walk_at "at"))
  | ((with_reducible refine' ev_op ?x1 ?x2 ?x3); (case' x1 => walk_at "ev"); (case' x2 => walk_at "ev"); (case' x3 => walk_at "rv"))
  | ((with_reducible refine' ev_call ?x1 ?x2); (case' x1 => walk_at "ea"); (case' x2 => walk_at "rt"))
  | ((with_reducible refine' ev_isiInt ?x1); (case' x1 => walk_at "ev"))
  | ((with_reducible refine' ev_isiBool ?x1); (case' x1 => walk_at "ev"))
  | ((with_reducible refine' ev_isiTup ?x1); (case' x1 => walk_at "ev"))
  | ((with_reducible refine' ev_isiLst ?x1); (case' x1 => walk_at "ev"))
  | ((with_reducible refine' ev_isiStr ?x1); (case' x1 => walk_at "ev"))
  | ((with_reducible refine' ev_neg ?x1); (case' x1 => walk_at "ev"))
  | ((with_reducible refine' ev_not ?x1); (case' x1 => walk_at "ev"))
  | ((with_reducible refine' ev_revT ?x1); (case' x1 => walk_at "ev"))
  | ((with_reducible refine' ev_revL ?x1); (case' x1 => walk_at "ev"))
  | ((with_reducible refine' ev_cb ?x1 ?x2); (case' x1 => walk_at "ea"); (case' x2 => walk_at "rc"))
  | ((with_reducible refine' ev_tup ?x1 ?x2); (case' x1 => walk_at "ea"); (case' x2 => walk_at "len"))
  | ((with_reducible refine' ev_lst ?x1 ?x2); (case' x1 => walk_at "ea"); (case' x2 => walk_at "len"))
  | ((with_reducible refine' ev_and ?x1 ?x2); (case' x1 => walk_at "ev"); (case' x2 => (intro _; walk_at "ev")))
  | ((with_reducible refine' ev_or ?x1 ?x2); (case' x1 => walk_at "ev"); (case' x2 => (intro _; walk_at "ev")))
  | ((with_reducible refine' ev_slT ?x1 ?x2 ?x3); (case' x1 => walk_at "ev"); (case' x2 => walk_at "eo"); (case' x3 => walk_at "eo"))
  | ((with_reducible refine' ev_slL ?x1 ?x2 ?x3); (case' x1 => walk_at "ev"); (case' x2 => walk_at "eo"); (case' x3 => walk_at "eo"))
  | (trace "EV"; trace_state; fail "ev"))
local macro_rules | `(tactic| walk_at "eo") => `(tactic| first
  | exact eo_none
  | exact eo_some (by walk_at "ev"))
local macro_rules | `(tactic| walk_at "eb") => `(tactic| first
  | ((with_reducible refine' eb_and ?x1 ?x2); (case' x1 => walk_at "eb"); (case' x2 => (intro _; walk_at "eb")))
  | ((with_reducible refine' eb_or ?x1 ?x2); (case' x1 => walk_at "eb"); (case' x2 => (intro _; walk_at "eb")))
  | ((with_reducible refine' eb_not ?x1); (case' x1 => walk_at "eb"))
  | ((with_reducible refine' eb_val ?x1); (case' x1 => walk_at "ev"))
  | ((with_reducible refine' eb_test ?x1); (case' x1 => walk_at "ev")))
local macro_rules | `(tactic| walk_at "ret") => `(tactic| (refine' r_ret ?y1 ?y2; (case' y1 => walk_at "ev"); (case' y2 => try (first | rfl | skip))))
local macro_rules | `(tactic| walk_at "asg") => `(tactic| (refine' r_asg ?y1 ?y2; (case' y1 => walk_at "ev")))
local macro_rules | `(tactic| walk_at "if") => `(tactic| (refine' r_if ?y1 ?y2 ?y3; (case' y1 => walk_at "eb")))
local macro_rules | `(tactic| walk_at "par") => `(tactic| (refine' r_par ?y1 ?y2; (case' y1 => walk_at "ea")))
local macro_rules | `(tactic| walk_at "kk") => `(tactic| dsimp only [cxOf, Cx.nox, Cx.wish, Cx.blk, slots, List.map, List.length, List.replicate, List.append, Nat.sub, Nat.add, List.cons_append, List.nil_append, Nat.reduceAdd, Nat.reduceSub, List.replicate_succ, List.replicate_zero])

local macro_rules | `(tactic| walk_at "rt") => `(tactic| first | exact C56.rt_is_integer | exact C56.rt_is_from | exact C56.rt_is_tupleN | exact C56.rt_is_tupleI)
namespace C56
section
variable {P : Program} {w : World} {K : PySem.W.Frag} {mg : Str → Option Value} {base : Heap} {aN aO : Addr}
def R_is_fraction (ds : List PyData) (d : PyData) : Prop := ∃ x, ds = [x] ∧ d = .bool (isFr x)
theorem rt_is_fraction {x : PyData} : R_is_fraction [x] (.bool (isFr x)) := ⟨x, rfl, rfl⟩
theorem ok_is_fraction (T : Tx K mg aN aO) {f f1 f2 f3 : Addr} {fd fd1 fd2 fd3 : FuncData} (F : Fun K "is_fraction" "is_fraction" s_is_fraction f fd) (c_is_integer : Cal P w K mg base "is_integer" 1 ["thing"] (spD K R_is_integer) f1 fd1)
    (c_is_from : Cal P w K mg base "is_from" 2 ["low", "thing"] (spD K R_is_from) f2 fd2) (c_is_tuple : Cal P w K mg base "is_tuple" 1 ["many", "thing"] (spD K R_is_tuple) f3 fd3) : FnOk P w K mg base CX0 3 f fd ["value"] (spD K R_is_fraction) := by
  refine fn_D F sc_is_fraction (by decide) (fun ds d h => ?_) (fun cdv A outer s H E hr => ⟨_, (pss_cons (ps_if (PW.pt (pw_or (pt_not (pt_val (pe_cal c_is_tuple hr (by decide) rfl (pa_cons pe_int (pa_cons (pv 0) pa_nil))))) (pw_or (pt_not (pt_val (pe_cal c_is_integer hr (by decide) rfl (pa_cons (pe_ix ix_seq (pv 0) pe_int (fun _ _ => rfl)) pa_nil)))) (pw_or1 (pt_not (pt_val (pe_cal c_is_from hr (by decide) rfl (pa_cons pe_int (pa_cons (pe_ix ix_seq (pv 0) pe_int (fun _ _ => rfl)) pa_nil)))))))))
        (pss_one (ps_ret pe_bl))
        pss_nil)
      (pss_one (ps_ret (pe_cmpR (op_eqD hr.units) (pe_callBfun cr_gcd rfl T.g_gcd (pa_cons (pe_ix ix_seq (pv 0) pe_int (fun _ _ => rfl)) (pa_cons (pe_ix ix_seq (pv 0) pe_int (fun _ _ => rfl)) pa_nil))) pe_int (nomark _))))), fun ds d hR => ?_⟩)
  · obtain ⟨x, rfl, _⟩ := h
    rfl
  · obtain ⟨x, rfl, rfl⟩ := hR
    walk_at "kk"
    refine r_seq ?_
    by_cases hx : ∃ a b, x = .tuple [a, b]
    · obtain ⟨a, b, rfl⟩ := hx
      refine r_if (b := (!true) || ((!isInt a) || (!isFrom 1 b))) (eb_or (a := !true) (eb_not (eb_val (by walk_at "ev"))) (fun _ => eb_or (eb_not (eb_val (by walk_at "ev"))) (fun _ => eb_not (eb_val (by walk_at "ev"))))) (fun c => ?_) (fun c => ?_)
      · refine r_ret ev_bl ?_
        show PyData.bool false = .bool (isFr (.tuple [a, b]))
        refine congrArg PyData.bool ?_
        symm
        have c' : (!isInt a || !isFrom 1 b) = true := c
        cases a <;> try rfl
        cases b <;> try rfl
        rename_i i j
        have c2 : (!isFrom 1 (.int j)) = true := c'
        have c3 : decide ((1 : Int) ≤ j) = false := by
          have c4 : isFrom 1 (.int j) = decide ((1 : Int) ≤ j) := rfl
          rw [← c4]
          simpa using c2
        show (decide ((1 : Int) ≤ j) && _) = false
        rw [c3]
        rfl
      · have c' : (!isInt a || !isFrom 1 b) = false := c
        rw [Bool.or_eq_false_iff] at c'
        obtain ⟨h1, h2⟩ := c'
        obtain ⟨i, rfl⟩ : ∃ i, a = .int i := by cases a <;> first | exact ⟨_, rfl⟩ | cases h1
        obtain ⟨j, rfl⟩ : ∃ j, b = .int j := by cases b <;> first | exact ⟨_, rfl⟩ | cases h2
        have h3 : decide ((1 : Int) ≤ j) = true := by
          have c4 : isFrom 1 (.int j) = decide ((1 : Int) ≤ j) := rfl
          rw [← c4]
          simpa using h2
        refine r_next ?_
        walk_at "ret"
        show PyData.bool (PyData.eqv _ _) = .bool (decide ((1 : Int) ≤ j) && decide (Nat.gcd i.natAbs j.natAbs = 1))
        rw [eqv_int, h3, Bool.true_and]
        refine congrArg PyData.bool ?_
        rw [Bool.eq_iff_iff]
        simp only [decide_eq_true_eq]
        omega
    · have e : isTupM (.int 2) x = false := by
        cases x <;> try rfl
        rename_i ds
        refine decide_eq_false fun z => hx ?_
        match ds, z with
        | [a, b], _ => exact ⟨a, b, rfl⟩
        | [], z => simp at z
        | [_], z => simp at z
        | _ :: _ :: _ :: _, z => simp at z; omega
      have e2 : isFr x = false := by
        unfold isFr
        split
        · rename_i a b
          exact absurd ⟨_, _, rfl⟩ hx
        · rfl
      refine r_if (b := !(isTupM (.int 2) x)) (eb_is (eb_orT (eb_is (eb_not (eb_val (by walk_at "ev"))) (by rw [e]; rfl))) (by rw [e]; rfl)) (fun c => ?_) (fun c => by rw [e] at c; cases c)
      refine r_ret ev_bl ?_
      show PyData.bool false = _
      rw [e2]
def Small : PyData → Prop
  | .tuple ds => ds.length ≤ 100000
  | _ => True
def R_is_row (ds : List PyData) (d : PyData) : Prop := ∃ m x, ds = [m, x] ∧ Many m ∧ Small x ∧ d = .bool (isRow m x)
theorem ok_is_row (T : Tx K mg aN aO) {f f1 f2 : Addr} {fd fd1 fd2 : FuncData} (F : Fun K "is_row" "is_row" s_is_row f fd) (c_is_fraction : Cal P w K mg base "is_fraction" 3 ["value"] (spD K R_is_fraction) f1 fd1)
    (c_is_tuple : Cal P w K mg base "is_tuple" 1 ["many", "thing"] (spD K R_is_tuple) f2 fd2) : FnOk P w K mg base CX0 4 f fd ["many", "thing"] (spD K R_is_row) := by
  refine fn_D F sc_is_row (by decide) (fun ds d h => ?_) (fun cdv A outer s H E hr => ⟨_, (pss_one (ps_ret (pe_and (pe_cal c_is_tuple hr (by decide) rfl (pa_cons (pv 0) (pa_cons (pv 1) pa_nil))) (pe_one (pe_callB (cr_all rfl) rfl T.n_all (by decide +kernel) (pa_cons (pe_lc (own := [("one", 2)]) (g := (gName 2)) (tt := tYes) rfl sc_is_row.nd (pi_tup (pv 1)) (blkOk_by (own := [("one", 2)]) (N := ["many", "thing", "one"]) (sc := defScope s_is_row) (by decide +kernel)) (fun _ _ _ _ _ => (pg_name (i := 2) sc_is_row.nd rfl (by first | exact Or.inl rfl | exact Or.inr rfl))) (fun _ _ _ _ _ => pts_nil) (fun _ _ _ _ _ => (pe_cal c_is_fraction hr (by decide) rfl (pa_cons (pv 2) pa_nil)))) pa_nil)))))), fun ds d hR => ?_⟩)
  · obtain ⟨m, x, rfl, _⟩ := h
    rfl
  · obtain ⟨m, x, rfl, hm, hs, rfl⟩ := hR
    walk_at "kk"
    by_cases hx : ∃ ds, x = .tuple ds
    · obtain ⟨ds, rfl⟩ := hx
      have hlen : ds.length ≤ 100000 := hs
      · refine' r_ret (ev_and (a := isTupM m (.tuple ds)) (b := (ds.map isFr).all id) ?_ (fun h => ?_)) ?_
        case refine'_2 =>
          refine ev_call (ea_cons (ev_var rfl) (ea_cons (ev_var rfl) ea_nil)) ⟨m, _, rfl, hm, rfl⟩
        case refine'_3 =>
          refine ev_cb (ds := [.list ((ds.map isFr).map PyData.bool)]) (ea_cons (ev_lc1 ((ds.map isFr).map PyData.bool) (ei_T (ev_var rfl)) hlen (by rw [List.length_map, List.length_map]) (fun _ _ _ e => nomatch e) (fun i hi => ?_)) ea_nil) rc_all
          rw [List.map_map, nthD_map hi]
          refine ev_call (ea_cons (ev_var rfl) ea_nil) ⟨_, rfl, ?_⟩
          show PyData.bool (isFr ds[i]) = PyData.bool (isFr (nthD ds i))
          unfold nthD
          rw [List.getD_eq_getElem?_getD, List.getElem?_eq_getElem hi]
          rfl
        case refine'_4 =>
          show PyData.bool (_ && _) = .bool (isTupM m (.tuple ds) && ds.all isFr)
          rw [List.all_map]
          rfl
    · have e : isTupM m x = false := by
        cases x <;> first | exact absurd ⟨_, rfl⟩ hx | (unfold isTupM; cases m <;> rfl)
      refine r_ret (ev_and (a := isTupM m x) (b := false) (ev_call (ea_cons (ev_var rfl) (ea_cons (ev_var rfl) ea_nil)) ⟨m, _, rfl, hm, rfl⟩) (fun h => by rw [e] at h; cases h)) ?_
      show PyData.bool (_ && _) = .bool (isTupM m x && _)
      rw [e]
      rfl
def Small2 : PyData → Prop
  | .tuple ds => ds.length ≤ 100000 ∧ ∀ x ∈ ds, Small x
  | _ => True
def R_is_matrix (ds : List PyData) (d : PyData) : Prop := ∃ m wd x, ds = [m, wd, x] ∧ Many m ∧ Many wd ∧ Small2 x ∧ d = .bool (isMat m wd x)
theorem nthD_mem {ds : List PyData} {i : Nat} (h : i < ds.length) : nthD ds i = ds[i] := by
  unfold nthD
  rw [List.getD_eq_getElem?_getD, List.getElem?_eq_getElem h]
  rfl
theorem ok_is_matrix (T : Tx K mg aN aO) {f f1 f2 : Addr} {fd fd1 fd2 : FuncData} (F : Fun K "is_matrix" "is_matrix" s_is_matrix f fd) (c_is_row : Cal P w K mg base "is_row" 4 ["many", "thing"] (spD K R_is_row) f1 fd1)
    (c_is_tuple : Cal P w K mg base "is_tuple" 1 ["many", "thing"] (spD K R_is_tuple) f2 fd2) : FnOk P w K mg base CX0 5 f fd ["many", "width", "thing"] (spD K R_is_matrix) := by
  refine fn_D F sc_is_matrix (by decide) (fun ds d h => ?_) (fun cdv A outer s H E hr => ⟨_, (pss_one (ps_ret (pe_and (pe_cal c_is_tuple hr (by decide) rfl (pa_cons (pv 0) (pa_cons (pv 2) pa_nil))) (pe_one (pe_callB (cr_all rfl) rfl T.n_all (by decide +kernel) (pa_cons (pe_lc (own := [("row", 3)]) (g := (gName 3)) (tt := tYes) rfl sc_is_matrix.nd (pi_tup (pv 2)) (blkOk_by (own := [("row", 3)]) (N := ["many", "width", "thing", "row"]) (sc := defScope s_is_matrix) (by decide +kernel)) (fun _ _ _ _ _ => (pg_name (i := 3) sc_is_matrix.nd rfl (by first | exact Or.inl rfl | exact Or.inr rfl))) (fun _ _ _ _ _ => pts_nil) (fun _ _ _ _ _ => (pe_cal c_is_row hr (by decide) rfl (pa_cons (pv 1) (pa_cons (pv 3) pa_nil))))) pa_nil)))))), fun ds d hR => ?_⟩)
  · obtain ⟨m, wd, x, rfl, _⟩ := h
    rfl
  · obtain ⟨m, wd, x, rfl, hm, hw, hs, rfl⟩ := hR
    walk_at "kk"
    by_cases hx : ∃ ds, x = .tuple ds
    · obtain ⟨ds, rfl⟩ := hx
      obtain ⟨hlen, hsm⟩ := hs
      refine' r_ret (ev_and (a := isTupM m (.tuple ds)) (b := (ds.map (isRow wd)).all id) ?_ (fun h => ?_)) ?_
      case refine'_2 =>
        refine ev_call (ea_cons (ev_var rfl) (ea_cons (ev_var rfl) ea_nil)) ⟨m, _, rfl, hm, rfl⟩
      case refine'_3 =>
        refine ev_cb (ds := [.list ((ds.map (isRow wd)).map PyData.bool)]) (ea_cons (ev_lc1 ((ds.map (isRow wd)).map PyData.bool) (ei_T (ev_var rfl)) hlen (by rw [List.length_map, List.length_map]) (fun _ _ _ e => nomatch e) (fun i hi => ?_)) ea_nil) rc_all
        rw [List.map_map, nthD_map hi]
        refine ev_call (ea_cons (ev_var rfl) (ea_cons (ev_var rfl) ea_nil)) ⟨wd, _, rfl, hw, ?_, ?_⟩
        · rw [nthD_mem hi]
          exact hsm _ (List.getElem_mem hi)
        · rw [nthD_mem hi]
          rfl
      case refine'_4 =>
        show PyData.bool (_ && _) = .bool (isTupM m (.tuple ds) && ds.all (isRow wd))
        rw [List.all_map]
        rfl
    · have e : isTupM m x = false := by
        cases x <;> first | exact absurd ⟨_, rfl⟩ hx | (unfold isTupM; cases m <;> rfl)
      refine r_ret (ev_and (a := isTupM m x) (b := false) (ev_call (ea_cons (ev_var rfl) (ea_cons (ev_var rfl) ea_nil)) ⟨m, _, rfl, hm, rfl⟩) (fun h => by rw [e] at h; cases h)) ?_
      show PyData.bool (_ && _) = .bool (isTupM m x && _)
      rw [e]
      rfl
/-! ### arithmetic -/
def R_take (ds : List PyData) (d : PyData) : Prop := ∃ a b, ds = [dq a, dq b] ∧ OkTake a b ∧ d = dq (a - b)
def R_times (ds : List PyData) (d : PyData) : Prop := ∃ a b, ds = [dq a, dq b] ∧ OkTimes a b ∧ d = dq (a * b)
def R_over (ds : List PyData) (d : PyData) : Prop := ∃ a b, ds = [dq a, dq b] ∧ OkOver a b ∧ d = dq (a / b)
def R_less (ds : List PyData) (d : PyData) : Prop := ∃ a b, ds = [dq a, dq b] ∧ OkLess a b ∧ d = .bool (decide (a < b))
theorem rt_low {t b : Int} {q : Rat} (h0 : b ≠ 0) (h : LowOk t b) (e : Rat.divInt t b = q) : R_lowest_in [.int t, .int b] (dq q) := ⟨t, b, rfl, h0, h, by rw [e]⟩
theorem ok_take_in {f f1 : Addr} {fd fd1 : FuncData} (F : Fun K "take_in" "take_in" s_take_in f fd) (c_lowest_in : Cal P w K mg base "lowest_in" 1 ["top", "bottom"] (spD K R_lowest_in) f1 fd1) : FnOk P w K mg base CX0 2 f fd ["one", "other"] (spD K R_take) := by
  refine fn_D F sc_take_in (by decide) (fun ds d h => ?_) (fun cdv A outer s H E hr => ⟨_, (pss_one (ps_ret (pe_cal c_lowest_in hr (by decide) rfl (pa_cons (pe_op op_sub (pe_op op_mulX (pe_ix ix_seq (pv 0) pe_int (fun _ _ => rfl)) (pe_ix ix_seq (pv 1) pe_int (fun _ _ => rfl))) (pe_op op_mulX (pe_ix ix_seq (pv 1) pe_int (fun _ _ => rfl)) (pe_ix ix_seq (pv 0) pe_int (fun _ _ => rfl)))) (pa_cons (pe_op op_mulX (pe_ix ix_seq (pv 0) pe_int (fun _ _ => rfl)) (pe_ix ix_seq (pv 1) pe_int (fun _ _ => rfl))) pa_nil))))), fun ds d hR => ?_⟩)
  · obtain ⟨a, b, rfl, _⟩ := h
    rfl
  · obtain ⟨a, b, rfl, ⟨h1, h2, h3, h4⟩, rfl⟩ := hR
    walk_at "kk"
    exact r_ret (ev_call (by walk_at "ea") (rt_low (Int.mul_ne_zero den_ne den_ne) h4 (low_sub a b))) rfl
theorem ok_times_in {f f1 : Addr} {fd fd1 : FuncData} (F : Fun K "times_in" "times_in" s_times_in f fd) (c_lowest_in : Cal P w K mg base "lowest_in" 1 ["top", "bottom"] (spD K R_lowest_in) f1 fd1) : FnOk P w K mg base CX0 2 f fd ["one", "other"] (spD K R_times) := by
  refine fn_D F sc_times_in (by decide) (fun ds d h => ?_) (fun cdv A outer s H E hr => ⟨_, (pss_one (ps_ret (pe_cal c_lowest_in hr (by decide) rfl (pa_cons (pe_op op_mulX (pe_ix ix_seq (pv 0) pe_int (fun _ _ => rfl)) (pe_ix ix_seq (pv 1) pe_int (fun _ _ => rfl))) (pa_cons (pe_op op_mulX (pe_ix ix_seq (pv 0) pe_int (fun _ _ => rfl)) (pe_ix ix_seq (pv 1) pe_int (fun _ _ => rfl))) pa_nil))))), fun ds d hR => ?_⟩)
  · obtain ⟨a, b, rfl, _⟩ := h
    rfl
  · obtain ⟨a, b, rfl, ⟨h1, h2, h3⟩, rfl⟩ := hR
    walk_at "kk"
    exact r_ret (ev_call (by walk_at "ea") (rt_low (Int.mul_ne_zero den_ne den_ne) h3 (low_mul a b))) rfl
theorem ok_over_in {f f1 : Addr} {fd fd1 : FuncData} (F : Fun K "over_in" "over_in" s_over_in f fd) (c_lowest_in : Cal P w K mg base "lowest_in" 1 ["top", "bottom"] (spD K R_lowest_in) f1 fd1) : FnOk P w K mg base CX0 2 f fd ["one", "other"] (spD K R_over) := by
  refine fn_D F sc_over_in (by decide) (fun ds d h => ?_) (fun cdv A outer s H E hr => ⟨_, (pss_one (ps_ret (pe_cal c_lowest_in hr (by decide) rfl (pa_cons (pe_op op_mulX (pe_ix ix_seq (pv 0) pe_int (fun _ _ => rfl)) (pe_ix ix_seq (pv 1) pe_int (fun _ _ => rfl))) (pa_cons (pe_op op_mulX (pe_ix ix_seq (pv 0) pe_int (fun _ _ => rfl)) (pe_ix ix_seq (pv 1) pe_int (fun _ _ => rfl))) pa_nil))))), fun ds d hR => ?_⟩)
  · obtain ⟨a, b, rfl, _⟩ := h
    rfl
  · obtain ⟨a, b, rfl, ⟨h0, h1, h2, h3⟩, rfl⟩ := hR
    walk_at "kk"
    exact r_ret (ev_call (by walk_at "ea") (rt_low (Int.mul_ne_zero den_ne (num_ne h0)) h3 (low_div a b))) rfl
theorem ok_less_in {f : Addr} {fd : FuncData} (F : Fun K "less_in" "less_in" s_less_in f fd) : FnOk P w K mg base CX0 1 f fd ["one", "other"] (spD K R_less) := by
  refine fn_D F sc_less_in (by decide) (fun ds d h => ?_) (fun cdv A outer s H E hr => ⟨_, (pss_one (ps_ret (pe_cmpR op_lt (pe_op op_mulX (pe_ix ix_seq (pv 0) pe_int (fun _ _ => rfl)) (pe_ix ix_seq (pv 1) pe_int (fun _ _ => rfl))) (pe_op op_mulX (pe_ix ix_seq (pv 1) pe_int (fun _ _ => rfl)) (pe_ix ix_seq (pv 0) pe_int (fun _ _ => rfl))) (nomark _)))), fun ds d hR => ?_⟩)
  · obtain ⟨a, b, rfl, _⟩ := h
    rfl
  · obtain ⟨a, b, rfl, ⟨h1, h2⟩, rfl⟩ := hR
    walk_at "kk"
    walk_at "ret"
    show PyData.bool (decide (a.num * (b.den : Int) < b.num * (a.den : Int))) = .bool (decide (a < b))
    rw [show decide (a < b) = decide (a.num * (b.den : Int) < b.num * (a.den : Int)) from decide_eq_decide.mpr (Rat.lt_iff a b)]
def R_scale (ds : List PyData) (d : PyData) : Prop := ∃ r q, ds = [dr r, dq q] ∧ r.length ≤ 100000 ∧ (∀ x ∈ r, OkTimes x q) ∧ d = dr (r.map (· * q))
theorem ok_scale_in (T : Tx K mg aN aO) {f f1 : Addr} {fd fd1 : FuncData} (F : Fun K "scale_in" "scale_in" s_scale_in f fd) (c_times_in : Cal P w K mg base "times_in" 2 ["one", "other"] (spD K R_times) f1 fd1) : FnOk P w K mg base CX0 3 f fd ["row", "fraction"] (spD K R_scale) := by
  refine fn_D F sc_scale_in (by decide) (fun ds d h => ?_) (fun cdv A outer s H E hr => ⟨_, (pss_one (ps_ret (pe_callTy call_tupX rfl T.n_tuple (by decide +kernel) (pa_cons (pe_lc (own := [("one", 2)]) (g := (gName 2)) (tt := tYes) rfl sc_scale_in.nd (pi_tup (pv 0)) (blkOk_by (own := [("one", 2)]) (N := ["row", "fraction", "one"]) (sc := defScope s_scale_in) (by decide +kernel)) (fun _ _ _ _ _ => (pg_name (i := 2) sc_scale_in.nd rfl (by first | exact Or.inl rfl | exact Or.inr rfl))) (fun _ _ _ _ _ => pts_nil) (fun _ _ _ _ _ => (pe_cal c_times_in hr (by decide) rfl (pa_cons (pv 2) (pa_cons (pv 1) pa_nil))))) pa_nil)))), fun ds d hR => ?_⟩)
  · obtain ⟨r, q, rfl, _⟩ := h
    rfl
  · obtain ⟨r, q, rfl, hl, ho, rfl⟩ := hR
    walk_at "kk"
    refine r_ret (ev_cb (ea_cons (ev_lc1 ((r.map (· * q)).map dq) (ei_T (ev_var rfl)) (by rw [List.length_map]; exact hl) (by rw [List.length_map, List.length_map, List.length_map]) (fun _ _ _ e => nomatch e) (fun i hi => ?_)) ea_nil) rc_tupL) rfl
    rw [List.length_map] at hi
    rw [List.map_map, nthD_map hi, nthD_map hi]
    exact ev_call (ea_cons (ev_var rfl) (ea_cons (ev_var rfl) ea_nil)) ⟨_, q, rfl, ho _ (List.getElem_mem hi), rfl⟩
end
end C56
end Part10

section Part11
set_option Elab.async false
set_option linter.all false
set_option maxRecDepth 100000
set_option maxHeartbeats 4000000
open PySem PySem.Spec PyProof.Rows L2 DL
open Evl (Ex)
/-! ### my words for the walk: expressions, arguments, operators, tests -/
local macro_rules | `(tactic| walk_at "len") => `(tactic| first
  | exact DL.len0
  | exact DL.len1
  | exact DL.len2
  | exact DL.len3
  | exact DL.len4
  | exact DL.len5
  | exact DL.len6
  | exact DL.len7
  | exact DL.len8
  | exact DL.len9
  | exact DL.len10
  | exact DL.len11
  | exact DL.len12
  | exact DL.len13
  | exact DL.len14
  | exact DL.len15
  | exact DL.len16
  | exact DL.len17
  | exact DL.len18
  | exact DL.len19
  | exact DL.len20)
local macro_rules | `(tactic| walk_at "sh") => `(tactic| first
  | exact DL.sh_int
  | exact DL.sh_none
  | exact DL.sh_bool
  | exact DL.sh_dq
  | exact DL.sh_dr
  | exact DL.sh_nil
  | assumption
  | rfl)
local macro_rules | `(tactic| walk_at "sc") => `(tactic| first
  | fail "side")
local macro_rules | `(tactic| walk_at "side") => `(tactic| first
  | assumption
  | rfl
  | (walk_at "sc"; done)
  | (trace "SIDE"; trace_state; fail "side"))
local macro_rules | `(tactic| walk_at "at") => `(tactic| first
  | exact rfl
  | (walk_at "side"))
local macro_rules | `(tactic| walk_at "rv") => `(tactic| first
  | (with_reducible exact rv_add)
  | (with_reducible exact rv_sub)
  | (with_reducible exact rv_lt)
  | (with_reducible exact rv_le)
  | (with_reducible exact rv_gt)
  | (with_reducible exact rv_ge)
  | (with_reducible exact rv_isN)
  | (with_reducible exact rv_notN)
  | (with_reducible exact rv_isB)
  | (with_reducible exact rv_notB)
  | ((with_reducible refine' rv_ixT ?x1); (case' x1 => walk_at "at"))
  | ((with_reducible refine' rv_ixL ?x1); (case' x1 => walk_at "at"))
  | ((with_reducible refine' rv_mul ?x1); (case' x1 => walk_at "side"))
  | ((with_reducible refine' rv_fd ?x1); (case' x1 => walk_at "side"))
  | ((with_reducible refine' rv_mod ?x1); (case' x1 => first | assumption | decide | omega))
  | ((with_reducible refine' rv_pow ?x1); (case' x1 => first | decide | walk_at "side"))
  | ((with_reducible refine' rv_shl ?x1); (case' x1 => first | decide | walk_at "side"))
  | ((with_reducible refine' rv_eq ?x1 ?x2); (case' x1 => walk_at "sh"); (case' x2 => walk_at "sh"))
  | ((with_reducible refine' rv_ne ?x1 ?x2); (case' x1 => walk_at "sh"); (case' x2 => walk_at "sh"))
  | ((with_reducible refine' rv_catT ?x1); (case' x1 => walk_at "side"))
  | ((with_reducible refine' rv_catL ?x1); (case' x1 => walk_at "side"))
  | ((with_reducible refine' rv_rep ?x1 ?x2); (case' x1 => walk_at "side"); (case' x2 => walk_at "side"))
  | (trace "RV"; trace_state; fail "rv"))
local macro_rules | `(tactic| walk_at "rc") => `(tactic| first
  | (with_reducible exact rc_lenT)
  | (with_reducible exact rc_lenL)
  | (with_reducible exact rc_gcd)
  | (with_reducible exact rc_abs)
  | (with_reducible exact rc_min)
  | (with_reducible exact rc_max)
  | (with_reducible exact rc_intI)
  | (with_reducible exact rc_intB)
  | (with_reducible exact rc_tupL)
  | (with_reducible exact rc_tupT)
  | (with_reducible exact rc_lstT)
  | (with_reducible exact rc_lstL)
  | (with_reducible exact rc_all)
  | (with_reducible exact rc_any))
local macro_rules | `(tactic| walk_at "rt") => `(tactic| first
  | fail "no promise")
local macro_rules | `(tactic| walk_at "ea") => `(tactic| first
  | exact ea_nil
  | exact ea_cons (by walk_at "ev") (by walk_at "ea"))
local macro_rules | `(tactic| walk_at "ev") => `(tactic| first
  | exact ev_var rfl
  | exact ev_int
  | exact ev_bl
  | exact ev_non
  | exact ev_str
  | exact ev_lenO rfl
  | exact ev_tupO rfl
  | ((with_reducible refine' ev_ixO ?x0 ?x1 ?x2 ?x3); (case' x0 => exact rfl); (case' x1 => walk_at "ev"); (case' x2 => exact rfl); (case' x3 => walk_at "at"))
  | ((with_reducible refine' ev_op ?x1 ?x2 ?x3); (case' x1 => walk_at "ev"); (case' x2 => walk_at "ev"); (case' x3 => walk_at "rv"))
  | ((with_reducible refine' ev_call ?x1 ?x2); (case' x1 => walk_at "ea"); (case' x2 => walk_at "rt"))
  | ((with_reducible refine' ev_isiInt ?x1); (case' x1 => walk_at "ev"))
  | ((with_reducible refine' ev_isiBool ?x1); (case' x1 => walk_at "ev"))
  | ((with_reducible refine' ev_isiTup ?x1); (case' x1 => walk_at "ev"))
  | ((with_reducible refine' ev_isiLst ?x1); (case' x1 => walk_at "ev"))
  | ((with_reducible refine' ev_isiStr ?x1); (case' x1 => walk_at "ev"))
  | ((with_reducible refine' ev_neg ?x1); (case' x1 => walk_at "ev"))
  | ((with_reducible refine' ev_not ?x1); (case' x1 => walk_at "ev"))
  | ((with_reducible refine' ev_revT ?x1); (case' x1 => walk_at "ev"))
  | ((with_reducible refine' ev_revL ?x1); (case' x1 => walk_at "ev"))
  | ((with_reducible refine' ev_cb ?x1 ?x2); (case' x1 => walk_at "ea"); (case' x2 => walk_at "rc"))
  | ((with_reducible refine' ev_tup ?x1 ?x2); (case' x1 => walk_at "ea"); (case' x2 => walk_at "len"))
  | ((with_reducible refine' ev_lst ?x1 ?x2); (case' x1 => walk_at "ea"); (case' x2 => walk_at "len"))
  | ((with_reducible refine' ev_and ?x1 ?x2); (case' x1 => walk_at "ev"); (case' x2 => (intro _; walk_at "ev")))
  | ((with_reducible refine' ev_or ?x1 ?x2); (case' x1 => walk_at "ev"); (case' x2 => (intro _; walk_at "ev")))
  | ((with_reducible refine' ev_slT ?x1 ?x2 ?x3); (case' x1 => walk_at "ev"); (case' x2 => walk_at "eo"); (case' x3 => walk_at "eo"))
  | ((with_reducible refine' ev_slL ?x1 ?x2 ?x3); (case' x1 => walk_at "ev"); (case' x2 => walk_at "eo"); (case' x3 => walk_at "eo"))
  | (trace "EV"; trace_state; fail "ev"))
local macro_rules | `(tactic| walk_at "eo") => `(tactic| first
  | exact eo_none
  | exact eo_some (by walk_at "ev"))
local macro_rules | `(tactic| walk_at "eb") => `(tactic| first
  | ((with_reducible refine' eb_and ?x1 ?x2); (case' x1 => walk_at "eb"); (case' x2 => (intro _; walk_at "eb")))
  | ((with_reducible refine' eb_or ?x1 ?x2); (case' x1 => walk_at "eb"); (case' x2 => (intro _; walk_at "eb")))
  | ((with_reducible refine' eb_not ?x1); (case' x1 => walk_at "eb"))
  | ((with_reducible refine' eb_val ?x1); (case' x1 => walk_at "ev"))
  | ((with_reducible refine' eb_test ?x1); (case' x1 => walk_at "ev")))
local macro_rules | `(tactic| walk_at "ret") => `(tactic| (refine' r_ret ?y1 ?y2; (case' y1 => walk_at "ev"); (case' y2 => try (first | rfl | skip))))
local macro_rules | `(tactic| walk_at "asg") => `(tactic| (refine' r_asg ?y1 ?y2; (case' y1 => walk_at "ev")))
local macro_rules | `(tactic| walk_at "if") => `(tactic| (refine' r_if ?y1 ?y2 ?y3; (case' y1 => walk_at "eb")))
local macro_rules | `(tactic| walk_at "par") => `(tactic| (refine' r_par ?y1 ?y2; (case' y1 => walk_at "ea")))
local macro_rules | `(tactic| walk_at "kk") => `(tactic| dsimp only [cxOf, Cx.nox, Cx.wish, Cx.blk, slots, List.map, List.length, List.replicate, List.append, Nat.sub, Nat.add, List.cons_append, List.nil_append, Nat.reduceAdd, Nat.reduceSub, List.replicate_succ, List.replicate_zero])

local macro_rules | `(tactic| walk_at "rt") => `(tactic| first | exact C56.rt_is_integer | exact C56.rt_is_from | exact C56.rt_is_tupleN | exact C56.rt_is_tupleI)
--@list circle_in: found
--@list next_in: parts[1:]
namespace C56
section
variable {P : Program} {w : World} {K : PySem.W.Frag} {mg : Str → Option Value} {base : Heap} {aN aO : Addr}
theorem eqv_nil {r : List Rat} (h : r ≠ []) : PyData.eqv (dr r) (.tuple []) = false := by
  cases r with
  | nil => exact absurd rfl h
  | cons a r => rfl
/-! ### polynomials -/
def R_check (ds : List PyData) (d : PyData) : Prop := ∃ p, ds = [dr p] ∧ p ≠ [] ∧ lastQ p ≠ 0 ∧ p.length ≤ 100000 ∧ d = .none
theorem small_dr {p : List Rat} (h : p.length ≤ 100000) : Small (dr p) := by
  show (p.map dq).length ≤ 100000
  rw [List.length_map]
  exact h
theorem ok_check_polynomial (T : Tx K mg aN aO) {f f1 : Addr} {fd fd1 : FuncData} (F : Fun K "check_polynomial" "check_polynomial" s_check_polynomial f fd) (c_is_row : Cal P w K mg base "is_row" 4 ["many", "thing"] (spD K R_is_row) f1 fd1) : FnOk P w K mg base CX0 5 f fd ["thing"] (spD K R_check) := by
  refine fn_D F sc_check_polynomial (by decide) (fun ds d h => ?_) (fun cdv A outer s H E hr => ⟨_, (pss_one (ps_if (PW.pt (pw_or (pt_not (pt_val (pe_cal c_is_row hr (by decide) rfl (pa_cons pe_non (pa_cons (pv 0) pa_nil))))) (pw_or (pt_cmpR (op_eqD hr.units) (pv 0) (pe_tup pa_nil) (nomark _)) (pw_or1 (pt_cmpR (op_eqD hr.units) (pe_ix ix_seq (pv 0) (pe_un un_neg pe_int) (fun _ _ => rfl)) (pe_gref rfl T.g_NOUGHT) (nomark _))))))
        (pss_one ps_never)
        pss_nil)), fun ds d hR => ?_⟩)
  · obtain ⟨p, rfl, _⟩ := h
    rfl
  · obtain ⟨p, rfl, hne, hl, hlen, rfl⟩ := hR
    walk_at "kk"
    refine r_if (b := false) (eb_orF (eb_is (eb_not (eb_val (ev_call (ea_cons ev_non (ea_cons (ev_var rfl) ea_nil)) ⟨.none, dr p, rfl, .inl rfl, small_dr hlen, rfl⟩))) (by rw [isRow_dr]; rfl))
      (eb_orF (eb_is (eb_test (ev_op (ev_var rfl) (ev_tup ea_nil len0) (rv_eq sh_dr sh_nil))) (eqv_nil hne))
        (eb_is (eb_test (ev_op (ev_op (ev_var rfl) (ev_neg ev_int) (rv_ixT (atI_lastQ hne))) (ev_k T.c_NOUGHT) (rv_eq sh_dq sh_dq))) (by rw [eqv_dq]; exact decide_eq_false hl)))) (fun c => nomatch c) (fun _ => ?_)
    exact r_next rfl
def R_monic (ds : List PyData) (d : PyData) : Prop := ∃ p, ds = [dr p] ∧ p ≠ [] ∧ p.length ≤ 100000 ∧ OkMonic p ∧ d = dr (monicQ p)
theorem ok_monic_in (T : Tx K mg aN aO) {f f1 f2 : Addr} {fd fd1 fd2 : FuncData} (F : Fun K "monic_in" "monic_in" s_monic_in f fd) (c_scale_in : Cal P w K mg base "scale_in" 3 ["row", "fraction"] (spD K R_scale) f1 fd1) (c_over_in : Cal P w K mg base "over_in" 2 ["one", "other"] (spD K R_over) f2 fd2) :
    FnOk P w K mg base CX0 4 f fd ["one"] (spD K R_monic) := by
  refine fn_D F sc_monic_in (by decide) (fun ds d h => ?_) (fun cdv A outer s H E hr => ⟨_, (pss_one (ps_ret (pe_cal c_scale_in hr (by decide) rfl (pa_cons (pv 0) (pa_cons (pe_cal c_over_in hr (by decide) rfl (pa_cons (pe_gref rfl T.g_ONE) (pa_cons (pe_ix ix_seq (pv 0) (pe_un un_neg pe_int) (fun _ _ => rfl)) pa_nil))) pa_nil))))), fun ds d hR => ?_⟩)
  · obtain ⟨p, rfl, _⟩ := h
    rfl
  · obtain ⟨p, rfl, hne, hlen, ⟨h1, h2⟩, rfl⟩ := hR
    walk_at "kk"
    exact r_ret (ev_call (ea_cons (ev_var rfl) (ea_cons (ev_call (ea_cons (ev_k T.c_ONE) (ea_cons (ev_op (ev_var rfl) (ev_neg ev_int) (rv_ixT (atI_lastQ hne))) ea_nil)) ⟨1, lastQ p, rfl, h1, rfl⟩) ea_nil)) ⟨p, _, rfl, hlen, h2, rfl⟩) rfl
def R_open (ds : List PyData) (d : PyData) : Prop := ∃ p, ds = [dr p] ∧ p ≠ [] ∧ OkOpen p ∧ d = .bool (isOpen p)
theorem ok_is_open (T : Tx K mg aN aO) {f f1 : Addr} {fd fd1 : FuncData} (F : Fun K "is_open" "is_open" s_is_open f fd) (c_less_in : Cal P w K mg base "less_in" 1 ["one", "other"] (spD K R_less) f1 fd1) : FnOk P w K mg base CX0 2 f fd ["polynomial"] (spD K R_open) := by
  refine fn_D F sc_is_open (by decide) (fun ds d h => ?_) (fun cdv A outer s H E hr => ⟨_, (pss_cons (ps_set (i := 1) sc_is_open.nd rfl (by first | exact Or.inl rfl | exact Or.inr rfl) (pe_ix ix_seq (pv 0) pe_int (fun _ _ => rfl)))
      (pss_one (ps_ret (pe_and (pe_cal c_less_in hr (by decide) rfl (pa_cons (pe_tup (pa_cons (pe_un un_neg pe_int) (pa_cons pe_int pa_nil))) (pa_cons (pv 1) pa_nil))) (pe_one (pe_cal c_less_in hr (by decide) rfl (pa_cons (pv 1) (pa_cons (pe_gref rfl T.g_ONE) pa_nil)))))))), fun ds d hR => ?_⟩)
  · obtain ⟨p, rfl, _⟩ := h
    rfl
  · obtain ⟨p, rfl, hne, ⟨h1, h2⟩, rfl⟩ := hR
    walk_at "kk"
    refine r_seq (r_asg (ev_op (ev_var rfl) ev_int (rv_ixT (atI_c0 hne))) ?_)
    show RunS K _ [.dat (dr p), .dat (dq (c0 p))] _
    exact r_ret (ev_and (ev_call (ea_cons (ev_tup (ea_cons (ev_neg ev_int) (ea_cons ev_int ea_nil)) len2) (ea_cons (ev_var rfl) ea_nil)) ⟨-1, c0 p, rfl, h1, rfl⟩) (fun _ => ev_call (ea_cons (ev_var rfl) (ea_cons (ev_k T.c_ONE) ea_nil)) ⟨c0 p, 1, rfl, h2, rfl⟩)) rfl
def R_next (ds : List PyData) (d : PyData) : Prop := ∃ p, ds = [dr p] ∧ p ≠ [] ∧ p.length ≤ 100000 ∧ OkNext p ∧ d = dr (nextQ p)
theorem slice1 {ds : List PyData} : sliceD ds (some 1) none = ds.drop 1 := by
  unfold sliceD
  rw [show HT.sIx ds.length 0 (some 1) = min 1 ds.length from HT.sIx_nat ds.length 0 1, HT.sIx_none]
  cases ds with
  | nil => rfl
  | cons a r =>
    rw [List.length_cons, show min 1 (r.length + 1) = 1 by omega]
    show (List.take (r.length + 1 - 1) r) = r
    rw [Nat.add_sub_cancel, List.take_length]
theorem ok_next_in (T : Tx K mg aN aO) {f f1 f2 f3 : Addr} {fd fd1 fd2 fd3 : FuncData} (F : Fun K "next_in" "next_in" s_next_in f fd) (c_take_in : Cal P w K mg base "take_in" 2 ["one", "other"] (spD K R_take) f1 fd1)
    (c_times_in : Cal P w K mg base "times_in" 2 ["one", "other"] (spD K R_times) f2 fd2) (c_over_in : Cal P w K mg base "over_in" 2 ["one", "other"] (spD K R_over) f3 fd3) : FnOk P w K mg base CX0 4 f fd ["polynomial"] (spD K R_next) := by
  refine fn_D F sc_next_in (by decide) (fun ds d h => ?_) (fun cdv A outer s H E hr => ⟨_, (pss_cons (ps_set (i := 1) sc_next_in.nd rfl (by first | exact Or.inl rfl | exact Or.inr rfl) (pe_ix ix_seq (pv 0) pe_int (fun _ _ => rfl)))
      (pss_cons (ps_set (i := 2) sc_next_in.nd rfl (by first | exact Or.inl rfl | exact Or.inr rfl) (pe_cal c_take_in hr (by decide) rfl (pa_cons (pe_gref rfl T.g_ONE) (pa_cons (pe_cal c_times_in hr (by decide) rfl (pa_cons (pv 1) (pa_cons (pv 1) pa_nil))) pa_nil))))
      (pss_cons (ps_setLc (i := 3) (own := [("one", 4), ("other", 5)]) (g := (gTup K 2 (gCons (gName 4) (gCons (gName 5) gNil)))) (tt := tYes) rfl sc_next_in.nd rfl rfl (sw_true rfl rfl rfl (by decide +kernel)) (RZ.pi_zipA rfl T.n_zip (pa_cons (pv 0) (pa_cons (pe_rev (pv 0)) pa_nil))) (blkOk_by (own := [("one", 4), ("other", 5)]) (N := ["polynomial", "first", "below", "parts", "one", "other"]) (sc := defScope s_next_in) (by decide +kernel)) (fun _ _ _ _ _ => (pg_tup rfl (pgs_cons (pg_name (i := 4) sc_next_in.nd rfl (by first | exact Or.inl rfl | exact Or.inr rfl)) (pgs_cons (pg_name (i := 5) sc_next_in.nd rfl (by first | exact Or.inl rfl | exact Or.inr rfl)) pgs_nil)))) (fun _ _ _ _ _ => pts_nil) (fun _ _ _ _ _ => (pe_cal c_take_in hr (by decide) rfl (pa_cons (pv 4) (pa_cons (pe_cal c_times_in hr (by decide) rfl (pa_cons (pv 1) (pa_cons (pv 5) pa_nil))) pa_nil)))))
      (pss_one (ps_ret (pe_callTy call_tupX rfl T.n_tuple (by decide +kernel) (pa_cons (pe_lc (own := [("one", 4)]) (g := (gName 4)) (tt := tYes) rfl sc_next_in.nd (pi_list (pe_slice sl_any (pv 3) (po_some pe_int) po_none)) (blkOk_by (own := [("one", 4)]) (N := ["polynomial", "first", "below", "parts", "one", "other"]) (sc := defScope s_next_in) (by decide +kernel)) (fun _ _ _ _ _ => (pg_name (i := 4) sc_next_in.nd rfl (by first | exact Or.inl rfl | exact Or.inr rfl))) (fun _ _ _ _ _ => pts_nil) (fun _ _ _ _ _ => (pe_cal c_over_in hr (by decide) rfl (pa_cons (pv 4) (pa_cons (pv 2) pa_nil))))) pa_nil))))))), fun ds d hR => ?_⟩)
  · obtain ⟨p, rfl, _⟩ := h
    rfl
  · obtain ⟨p, rfl, hne, hlen, ⟨h1, h2, h3, h4⟩, rfl⟩ := hR
    walk_at "kk"
    have rv : ∀ Γ : List Slot, Γ[0]? = some (.dat (dr p)) → EvX K (tRev K (tVar 0)) Γ (dr p.reverse) Γ := fun Γ e => ev_is (ev_revT (ev_var e)) (by show PyData.tuple (p.map dq).reverse = PyData.tuple (p.reverse.map dq); rw [List.map_reverse])
    refine r_seq (r_asg (ev_op (ev_var rfl) ev_int (rv_ixT (atI_c0 hne))) ?_)
    show RunS K _ [.dat (dr p), .dat (dq (c0 p)), .un, .un, .un, .un] _
    refine r_seq (r_asg (ev_call (ea_cons (ev_k T.c_ONE) (ea_cons (ev_call (ea_cons (ev_var rfl) (ea_cons (ev_var rfl) ea_nil)) ⟨_, _, rfl, h1, rfl⟩) ea_nil)) ⟨1, _, rfl, h2, rfl⟩) ?_)
    show RunS K _ [.dat (dr p), .dat (dq (c0 p)), .dat (dq (belowQ p)), .un, .un, .un] _
    refine r_seq (r_asg (ev_lc2 ((partsQ p).map dq) (ei_Z (ds := p.map dq) (es := p.reverse.map dq) (ea_cons (ev_var rfl) (ea_cons (rv _ rfl) ea_nil)) (by rw [List.length_map, List.length_map, List.length_reverse])) (by rw [List.length_map]; exact hlen)
      (by rw [List.length_map, List.length_map, partsQ_len]) (fun _ _ _ e => nomatch e) (fun _ _ _ e => nomatch e) (fun i hi => ?_)) ?_)
    · rw [List.length_map] at hi
      have hi2 : i < p.reverse.length := by rw [List.length_reverse]; exact hi
      have hi3 : i < (partsQ p).length := by rw [partsQ_len]; exact hi
      have hz : (p[i], p.reverse[i]) ∈ p.zip p.reverse := by
        have hzl : i < (p.zip p.reverse).length := by rw [List.length_zip, List.length_reverse]; omega
        have := List.getElem_mem hzl
        rw [List.getElem_zip] at this
        exact this
      obtain ⟨k1, k2⟩ := h3 _ hz
      have e : (partsQ p)[i] = p[i] - c0 p * p.reverse[i] := by
        simp only [partsQ, List.getElem_map, List.getElem_zip]
      rw [nthD_map hi, nthD_map hi2, nthD_map hi3, e]
      exact ev_call (ea_cons (ev_var rfl) (ea_cons (ev_call (ea_cons (ev_var rfl) (ea_cons (ev_var rfl) ea_nil)) ⟨_, _, rfl, k1, rfl⟩) ea_nil)) ⟨_, _, rfl, k2, rfl⟩
    show RunS K _ [.dat (dr p), .dat (dq (c0 p)), .dat (dq (belowQ p)), .dat (.list ((partsQ p).map dq)), .un, .un] _
    have hd : EvX K (tSl (rSl K) (tVar 3) (tPart (tC (V.int 1))) tNoPart) [.dat (dr p), .dat (dq (c0 p)), .dat (dq (belowQ p)), .dat (.list ((partsQ p).map dq)), .un, .un] (.list (((partsQ p).drop 1).map dq)) [.dat (dr p), .dat (dq (c0 p)), .dat (dq (belowQ p)), .dat (.list ((partsQ p).map dq)), .un, .un] :=
      ev_is (ev_slL (ev_var rfl) (eo_some ev_int) eo_none) (by rw [slice1, List.map_drop])
    have hl2 : ((partsQ p).drop 1).length ≤ 100000 := by rw [List.length_drop, partsQ_len]; omega
    refine r_ret (ev_cb (ea_cons (ev_lc1 ((nextQ p).map dq) (ei_L hd) (by rw [List.length_map]; exact hl2) (by rw [List.length_map, List.length_map, nextQ_len, List.length_drop, partsQ_len]) (fun _ _ _ e => nomatch e) (fun i hi => ?_)) ea_nil) rc_tupL) rfl
    rw [List.length_map] at hi
    have hi2 : i < (nextQ p).length := by
      rw [nextQ_len]
      rw [List.length_drop, partsQ_len] at hi
      exact hi
    have e : (nextQ p)[i] = ((partsQ p).drop 1)[i] / belowQ p := by
      simp only [nextQ, List.getElem_map]
    rw [nthD_map hi, nthD_map hi2, e]
    exact ev_call (ea_cons (ev_var rfl) (ea_cons (ev_var rfl) ea_nil)) ⟨_, _, rfl, h4 _ (List.getElem_mem hi), rfl⟩
/-! ### circle rows -/
def R_circle (ds : List PyData) (d : PyData) : Prop := ∃ p, ds = [dr p] ∧ OkPoly p ∧ d = drs (circleQ p)
theorem atI_drs_last {fs : List (List Rat)} {r : List Rat} : atI ((fs ++ [r]).map dr) (-1) = some (dr r) := by
  have h' : (fs ++ [r]).map dr ≠ [] := by simp
  rw [atI_last h']
  simp
theorem ok_circle_in (T : Tx K mg aN aO) {f f1 f2 f3 : Addr} {fd fd1 fd2 fd3 : FuncData} (F : Fun K "circle_in" "circle_in" s_circle_in f fd) (c_monic_in : Cal P w K mg base "monic_in" 4 ["one"] (spD K R_monic) f1 fd1)
    (c_is_open : Cal P w K mg base "is_open" 2 ["polynomial"] (spD K R_open) f2 fd2) (c_next_in : Cal P w K mg base "next_in" 4 ["polynomial"] (spD K R_next) f3 fd3) : FnOk P w K mg base CX0 5 f fd ["polynomial"] (spD K R_circle) := by
  refine fn_D F sc_circle_in (by decide) (fun ds d h => ?_) (fun cdv A outer s H E hr => ⟨_, (pss_cons (ps_set (i := 1) sc_circle_in.nd rfl (by first | exact Or.inl rfl | exact Or.inr rfl) (pe_lst (pa_cons (pe_cal c_monic_in hr (by decide) rfl (pa_cons (pv 0) pa_nil)) pa_nil)))
      (pss_cons (ps_while PassesOwn.never (PW.pt (pw_and (pt_cmpR op_gt (pe_callB call_lenX rfl T.n_len PySem.boot_len (pa_cons (pe_ix ix_seq (pv 1) (pe_un un_neg pe_int) (fun _ _ => rfl)) pa_nil)) pe_int (nomark _)) (pw_and1 (pt_val (pe_cal c_is_open hr (by decide) rfl (pa_cons (pe_ix ix_seq (pv 1) (pe_un un_neg pe_int) (fun _ _ => rfl)) pa_nil))))))
        (pss_one (ps_expr (pe_bm PySem.F.plainAttrs_list PySem.F.slot_list_append PySem.F.type_list_append mt_append (pv 1) (pa_cons (pe_cal c_next_in hr (by decide) rfl (pa_cons (pe_ix ix_seq (pv 1) (pe_un un_neg pe_int) (fun _ _ => rfl)) pa_nil)) pa_nil)))))
      (pss_one (ps_ret (pv 1))))), fun ds d hR => ?_⟩)
  · obtain ⟨p, rfl, _⟩ := h
    rfl
  · obtain ⟨p, rfl, ok, rfl⟩ := hR
    walk_at "kk"
    have hpl : p.length ≤ 100000 := Nat.le_trans ok.len (by decide)
    refine r_seq (r_asgN (en_lst (ea_cons (ev_call (ea_cons (ev_var rfl) ea_nil) ⟨p, rfl, ok.ne, hpl, ok.monic, rfl⟩) ea_nil) len1) (fun a => ?_))
    show RunS K _ [.dat (dr p), .own true a [dr (monicQ p)]] _
    refine r_seq (r_while (fun m Γ => ∃ fs r, Γ = [.dat (dr p), .own true a ((fs ++ [r]).map dr)] ∧ fs ++ rowsF m r = circleQ p ∧ OkRows m r ∧ r.length ≤ m ∧ 0 < r.length ∧ fs.length + r.length ≤ p.length) p.length
      ⟨[], monicQ p, rfl, by show rowsF p.length (monicQ p) = rowsF (monicQ p).length (monicQ p); rw [monicQ_len], ok.rows, by rw [monicQ_len]; exact Nat.le_refl _, by rw [monicQ_len]; exact List.length_pos_iff.mpr ok.ne, by rw [monicQ_len]; simp⟩ ?_)
    rintro m Γ ⟨fs, r, rfl, hrows, hok, hm, hpos, hsum⟩
    obtain ⟨m, rfl⟩ : ∃ k, m = k + 1 := ⟨m - 1, by omega⟩
    obtain ⟨ho, hnx⟩ := hok
    have hr0 : r ≠ [] := List.length_pos_iff.mp hpos
    have hlen : ((fs ++ [r]).map dr).length < 100000 := by
      rw [List.length_map, List.length_append, List.length_singleton]
      have := ok.len
      omega
    have hrl : r.length ≤ 100000 := by omega
    refine ⟨decide (1 < (((r.map dq).length : Nat) : Int)) && isOpen r, _, eb_and (eb_test (ev_op (ev_cb (ea_cons (ev_ixO rfl (ev_neg ev_int) rfl atI_drs_last) ea_nil) rc_lenT) ev_int rv_gt)) (fun _ => eb_val (ev_call (ea_cons (ev_ixO rfl (ev_neg ev_int) rfl atI_drs_last) ea_nil) ⟨r, rfl, hr0, ho, rfl⟩)), fun c => ?_, fun c => ?_⟩
    · rw [Bool.and_eq_true, decide_eq_true_eq, List.length_map] at c
      have c1 : 1 < r.length := by omega
      obtain ⟨hn, hk⟩ := hnx ⟨c1, c.2⟩
      refine r_app rfl (ev_call (ea_cons (ev_ixO rfl (ev_neg ev_int) rfl atI_drs_last) ea_nil) ⟨r, rfl, hr0, hrl, hn, rfl⟩) rfl hlen ?_
      refine ⟨m, Nat.lt_succ_self m, fs ++ [r], nextQ r, ?_, ?_, hk, by rw [nextQ_len]; omega, by rw [nextQ_len]; omega, by rw [nextQ_len, List.length_append, List.length_singleton]; omega⟩
      · show [Slot.dat (dr p), Slot.own true a ((fs ++ [r]).map dr ++ [dr (nextQ r)])] = _
        rw [List.map_append (l₁ := fs ++ [r])]
        rfl
      · rw [← hrows]
        show fs ++ [r] ++ rowsF m (nextQ r) = fs ++ (r :: (if 1 < r.length ∧ isOpen r = true then rowsF m (nextQ r) else []))
        rw [if_pos ⟨c1, c.2⟩, List.append_assoc]
        rfl
    · refine r_freeze (n := 1) rfl ?_
      refine r_ret (ev_var rfl) ?_
      show PyData.list ((fs ++ [r]).map dr) = drs (circleQ p)
      rw [← hrows]
      have hn : ¬ (1 < r.length ∧ isOpen r = true) := fun z => by
        have c' : (decide (1 < (((r.map dq).length : Nat) : Int)) && isOpen r) = true := by
          rw [Bool.and_eq_true, decide_eq_true_eq, List.length_map]
          exact ⟨by omega, z.2⟩
        rw [c'] at c
        cases c
      show PyData.list ((fs ++ [r]).map dr) = PyData.list ((fs ++ (r :: (if 1 < r.length ∧ isOpen r = true then rowsF m (nextQ r) else []))).map dr)
      rw [if_neg hn]
end
end C56
end Part11

section Part12
set_option Elab.async false
set_option linter.all false
set_option maxRecDepth 100000
set_option maxHeartbeats 4000000
open PySem PySem.Spec PyProof.Rows L2 DL
open Evl (Ex)
/-! ### my words for the walk: expressions, arguments, operators, tests -/
local macro_rules | `(tactic| walk_at "len") => `(tactic| first
  | exact DL.len0
  | exact DL.len1
  | exact DL.len2
  | exact DL.len3
  | exact DL.len4
  | exact DL.len5
  | exact DL.len6
  | exact DL.len7
  | exact DL.len8
  | exact DL.len9
  | exact DL.len10
  | exact DL.len11
  | exact DL.len12
  | exact DL.len13
  | exact DL.len14
  | exact DL.len15
  | exact DL.len16
  | exact DL.len17
  | exact DL.len18
  | exact DL.len19
  | exact DL.len20)
local macro_rules | `(tactic| walk_at "sh") => `(tactic| first
  | exact DL.sh_int
  | exact DL.sh_none
  | exact DL.sh_bool
  | exact DL.sh_dq
  | exact DL.sh_dr
  | exact DL.sh_nil
  | assumption
  | rfl)
local macro_rules | `(tactic| walk_at "sc") => `(tactic| first
  | fail "side")
local macro_rules | `(tactic| walk_at "side") => `(tactic| first
  | assumption
  | rfl
  | (walk_at "sc"; done)
  | (trace "SIDE"; trace_state; fail "side"))
local macro_rules | `(tactic| walk_at "at") => `(tactic| first
  | exact rfl
  | (walk_at "side"))
local macro_rules | `(tactic| walk_at "rv") => `(tactic| first
  | (with_reducible exact rv_add)
  | (with_reducible exact rv_sub)
  | (with_reducible exact rv_lt)
  | (with_reducible exact rv_le)
  | (with_reducible exact rv_gt)
  | (with_reducible exact rv_ge)
  | (with_reducible exact rv_isN)
  | (with_reducible exact rv_notN)
  | (with_reducible exact rv_isB)
  | (with_reducible exact rv_notB)
  | ((with_reducible refine' rv_ixT ?x1); (case' x1 => walk_at "at"))
  | ((with_reducible refine' rv_ixL ?x1); (case' x1 => walk_at "at"))
  | ((with_reducible refine' rv_mul ?x1); (case' x1 => walk_at "side"))
  | ((with_reducible refine' rv_fd ?x1); (case' x1 => walk_at "side"))
  | ((with_reducible refine' rv_mod ?x1); (case' x1 => first | assumption | decide | omega))
  | ((with_reducible refine' rv_pow ?x1); (case' x1 => first | decide | walk_at "side"))
  | ((with_reducible refine' rv_shl ?x1); (case' x1 => first | decide | walk_at "side"))
  | ((with_reducible refine' rv_eq ?x1 ?x2); (case' x1 => walk_at "sh"); (case' x2 => walk_at "sh"))
  | ((with_reducible refine' rv_ne ?x1 ?x2); (case' x1 => walk_at "sh"); (case' x2 => walk_at "sh"))
  | ((with_reducible refine' rv_catT ?x1); (case' x1 => walk_at "side"))
  | ((with_reducible refine' rv_catL ?x1); (case' x1 => walk_at "side"))
  | ((with_reducible refine' rv_rep ?x1 ?x2); (case' x1 => walk_at "side"); (case' x2 => walk_at "side"))
  | (trace "RV"; trace_state; fail "rv"))
local macro_rules | `(tactic| walk_at "rc") => `(tactic| first
  | (with_reducible exact rc_lenT)
  | (with_reducible exact rc_lenL)
  | (with_reducible exact rc_gcd)
  | (with_reducible exact rc_abs)
  | (with_reducible exact rc_min)
  | (with_reducible exact rc_max)
  | (with_reducible exact rc_intI)
  | (with_reducible exact rc_intB)
  | (with_reducible exact rc_tupL)
  | (with_reducible exact rc_tupT)
  | (with_reducible exact rc_lstT)
  | (with_reducible exact rc_lstL)
  | (with_reducible exact rc_all)
  | (with_reducible exact rc_any))
local macro_rules | `(tactic| walk_at "rt") => `(tactic| first
  | fail "no promise")
local macro_rules | `(tactic| walk_at "ea") => `(tactic| first
  | exact ea_nil
  | exact ea_cons (by walk_at "ev") (by walk_at "ea"))
local macro_rules | `(tactic| walk_at "ev") => `(tactic| first
  | exact ev_var rfl
  | exact ev_int
  | exact ev_bl
  | exact ev_non
  | exact ev_str
  | exact ev_lenO rfl
  | exact ev_tupO rfl
  | ((with_reducible refine' ev_ixO ?x0 ?x1 ?x2 ?x3); (case' x0 => exact rfl); (case' x1 => walk_at "ev"); (case' x2 => exact rfl); (case' x3 => walk_at "at"))
  | ((with_reducible refine' ev_op ?x1 ?x2 ?x3); (case' x1 => walk_at "ev"); (case' x2 => walk_at "ev"); (case' x3 => walk_at "rv"))
  | ((with_reducible refine' ev_call ?x1 ?x2); (case' x1 => walk_at "ea"); (case' x2 => walk_at "rt"))
  | ((with_reducible refine' ev_isiInt ?x1); (case' x1 => walk_at "ev"))
  | ((with_reducible refine' ev_isiBool ?x1); (case' x1 => walk_at "ev"))
  | ((with_reducible refine' ev_isiTup ?x1); (case' x1 => walk_at "ev"))
  | ((with_reducible refine' ev_isiLst ?x1); (case' x1 => walk_at "ev"))
  | ((with_reducible refine' ev_isiStr ?x1); (case' x1 => walk_at "ev"))
  | ((with_reducible refine' ev_neg ?x1); (case' x1 => walk_at "ev"))
  | ((with_reducible refine' ev_not ?x1); (case' x1 => walk_at "ev"))
  | ((with_reducible refine' ev_revT ?x1); (case' x1 => walk_at "ev"))
  | ((with_reducible refine' ev_revL ?x1); (case' x1 => walk_at "ev"))
  | ((with_reducible refine' ev_cb ?x1 ?x2); (case' x1 => walk_at "ea"); (case' x2 => walk_at "rc"))
  | ((with_reducible refine' ev_tup ?x1 ?x2); (case' x1 => walk_at "ea"); (case' x2 => walk_at "len"))
  | ((with_reducible refine' ev_lst ?x1 ?x2); (case' x1 => walk_at "ea"); (case' x2 => walk_at "len"))
  | ((with_reducible refine' ev_and ?x1 ?x2); (case' x1 => walk_at "ev"); (case' x2 => (intro _; walk_at "ev")))
  | ((with_reducible refine' ev_or ?x1 ?x2); (case' x1 => walk_at "ev"); (case' x2 => (intro _; walk_at "ev")))
  | ((with_reducible refine' ev_slT ?x1 ?x2 ?x3); (case' x1 => walk_at "ev"); (case' x2 => walk_at "eo"); (case' x3 => walk_at "eo"))
  | ((with_reducible refine' ev_slL ?x1 ?x2 ?x3); (case' x1 => walk_at "ev"); (case' x2 => walk_at "eo"); (case' x3 => walk_at "eo"))
  | (trace "EV"; trace_state; fail "ev"))
local macro_rules | `(tactic| walk_at "eo") => `(tactic| first
  | exact eo_none
  | exact eo_some (by walk_at "ev"))
local macro_rules | `(tactic| walk_at "eb") => `(tactic| first
  | ((with_reducible refine' eb_and ?x1 ?x2); (case' x1 => walk_at "eb"); (case' x2 => (intro _; walk_at "eb")))
  | ((with_reducible refine' eb_or ?x1 ?x2); (case' x1 => walk_at "eb"); (case' x2 => (intro _; walk_at "eb")))
  | ((with_reducible refine' eb_not ?x1); (case' x1 => walk_at "eb"))
  | ((with_reducible refine' eb_val ?x1); (case' x1 => walk_at "ev"))
  | ((with_reducible refine' eb_test ?x1); (case' x1 => walk_at "ev")))
local macro_rules | `(tactic| walk_at "ret") => `(tactic| (refine' r_ret ?y1 ?y2; (case' y1 => walk_at "ev"); (case' y2 => try (first | rfl | skip))))
local macro_rules | `(tactic| walk_at "asg") => `(tactic| (refine' r_asg ?y1 ?y2; (case' y1 => walk_at "ev")))
local macro_rules | `(tactic| walk_at "if") => `(tactic| (refine' r_if ?y1 ?y2 ?y3; (case' y1 => walk_at "eb")))
local macro_rules | `(tactic| walk_at "par") => `(tactic| (refine' r_par ?y1 ?y2; (case' y1 => walk_at "ea")))
local macro_rules | `(tactic| walk_at "kk") => `(tactic| dsimp only [cxOf, Cx.nox, Cx.wish, Cx.blk, slots, List.map, List.length, List.replicate, List.append, Nat.sub, Nat.add, List.cons_append, List.nil_append, Nat.reduceAdd, Nat.reduceSub, List.replicate_succ, List.replicate_zero])

namespace C56
section
variable {P : Program} {w : World} {K : PySem.W.Frag} {mg : Str → Option Value} {base : Heap} {aN aO : Addr}
theorem rowsF_ne (n : Nat) (p : List Rat) : rowsF n p ≠ [] := by
  cases n <;> (unfold rowsF; intro z; cases z)
theorem atI_lastRow {fs : List (List Rat)} (h : fs ≠ []) : atI (fs.map dr) (-1) = some (dr (fs.getLastD [])) := by
  have h' : fs.map dr ≠ [] := fun z => h (List.map_eq_nil_iff.mp z)
  rw [atI_last h', List.getLast_map, List.getLastD_eq_getLast?, List.getLast?_eq_some_getLast h]
  rfl
def R_within (ds : List PyData) (d : PyData) : Prop := ∃ p, ds = [dr p] ∧ OkPoly p ∧ d = .bool (withinQ p)
theorem ok_is_within_in (T : Tx K mg aN aO) {f f1 : Addr} {fd fd1 : FuncData} (F : Fun K "is_within_in" "is_within_in" s_is_within_in f fd) (c_circle_in : Cal P w K mg base "circle_in" 5 ["polynomial"] (spD K R_circle) f1 fd1) : FnOk P w K mg base CX0 6 f fd ["polynomial"] (spD K R_within) := by
  refine fn_D F sc_is_within_in (by decide) (fun ds d h => ?_) (fun cdv A outer s H E hr => ⟨_, (pss_one (ps_ret (pe_cmpR (op_eqD hr.units) (pe_callB call_lenX rfl T.n_len PySem.boot_len (pa_cons (pe_ix ix_seq (pe_cal c_circle_in hr (by decide) rfl (pa_cons (pv 0) pa_nil)) (pe_un un_neg pe_int) (fun _ _ => rfl)) pa_nil)) pe_int (nomark _)))), fun ds d hR => ?_⟩)
  · obtain ⟨p, rfl, _⟩ := h
    rfl
  · obtain ⟨p, rfl, ok, rfl⟩ := hR
    walk_at "kk"
    refine r_ret (ev_op (ev_cb (ea_cons (ev_op (ev_call (ea_cons (ev_var rfl) ea_nil) ⟨p, rfl, ok, rfl⟩) (ev_neg ev_int) (rv_ixL (atI_lastRow (rowsF_ne _ _)))) ea_nil) rc_lenT) ev_int (rv_eq sh_int sh_int)) ?_
    show PyData.bool (PyData.eqv _ _) = .bool (withinQ p)
    rw [eqv_int, List.length_map]
    unfold withinQ
    refine congrArg PyData.bool ?_
    rw [Bool.eq_iff_iff]
    simp only [decide_eq_true_eq]
    show (((circleQ p).getLastD []).length : Int) = 1 ↔ _
    omega
theorem ok_circle_rows {f f1 f2 : Addr} {fd fd1 fd2 : FuncData} (F : Fun K "circle_rows" "circle_rows" s_circle_rows f fd) (c_circle_in : Cal P w K mg base "circle_in" 5 ["polynomial"] (spD K R_circle) f1 fd1) (c_check_polynomial : Cal P w K mg base "check_polynomial" 5 ["thing"] (spD K R_check) f2 fd2) :
    FnOk P w K mg base CX0 6 f fd ["polynomial"] (spD K R_circle) := by
  refine fn_D F sc_circle_rows (by decide) (fun ds d h => ?_) (fun cdv A outer s H E hr => ⟨_, (pss_cons (ps_expr (pe_cal c_check_polynomial hr (by decide) rfl (pa_cons (pv 0) pa_nil)))
      (pss_one (ps_ret (pe_cal c_circle_in hr (by decide) rfl (pa_cons (pv 0) pa_nil))))), fun ds d hR => ?_⟩)
  · obtain ⟨p, rfl, _⟩ := h
    rfl
  · obtain ⟨p, rfl, ok, rfl⟩ := hR
    walk_at "kk"
    exact r_seq (r_drop (ev_call (ea_cons (ev_var rfl) ea_nil) ⟨p, rfl, ok.ne, ok.last, Nat.le_trans ok.len (by decide), rfl⟩) (r_ret (ev_call (ea_cons (ev_var rfl) ea_nil) ⟨p, rfl, ok, rfl⟩) rfl))
theorem ok_is_within {f f1 f2 : Addr} {fd fd1 fd2 : FuncData} (F : Fun K "is_within" "is_within" s_is_within f fd) (c_is_within_in : Cal P w K mg base "is_within_in" 6 ["polynomial"] (spD K R_within) f1 fd1) (c_check_polynomial : Cal P w K mg base "check_polynomial" 5 ["thing"] (spD K R_check) f2 fd2) :
    FnOk P w K mg base CX0 7 f fd ["polynomial"] (spD K R_within) := by
  refine fn_D F sc_is_within (by decide) (fun ds d h => ?_) (fun cdv A outer s H E hr => ⟨_, (pss_cons (ps_expr (pe_cal c_check_polynomial hr (by decide) rfl (pa_cons (pv 0) pa_nil)))
      (pss_one (ps_ret (pe_cal c_is_within_in hr (by decide) rfl (pa_cons (pv 0) pa_nil))))), fun ds d hR => ?_⟩)
  · obtain ⟨p, rfl, _⟩ := h
    rfl
  · obtain ⟨p, rfl, ok, rfl⟩ := hR
    walk_at "kk"
    exact r_seq (r_drop (ev_call (ea_cons (ev_var rfl) ea_nil) ⟨p, rfl, ok.ne, ok.last, Nat.le_trans ok.len (by decide), rfl⟩) (r_ret (ev_call (ea_cons (ev_var rfl) ea_nil) ⟨p, rfl, ok, rfl⟩) rfl))
/-- a value that may be asked of -/
def ValOk : PyData → Prop
  | .list ds => SeqAt.shaped (.list ds) = true ∧ ds.length ≤ 100000 ∧ ∀ x ∈ ds, Small x
  | .dict _ => False
  | _ => True
def isRowsD (p : List Rat) : PyData → Bool
  | .list ds => isMat .none .none (.tuple ds) && PyData.eqv (.list ds) (drs (circleQ p))
  | _ => false
def R_isrows (ds : List PyData) (d : PyData) : Prop := ∃ p v, ds = [dr p, v] ∧ OkPoly p ∧ ValOk v ∧ d = .bool (isRowsD p v)
theorem lay_rowss : ∀ r : List (List Rat), PyData.canLayAll0 (r.map dr) = true ∧ PyData.depthAll (r.map dr) ≤ 2
  | [] => ⟨rfl, Nat.zero_le _⟩
  | q :: r => by
    obtain ⟨h1, h2⟩ := lay_rowss r
    obtain ⟨h3, h4⟩ := lay_rows q
    rw [List.map_cons]
    constructor
    · simp [PyData.canLayAll0, PyData.canLay0, h1, h3]
    · simp only [PyData.depthAll, PyData.depth]
      exact Nat.max_le.mpr ⟨by omega, h2⟩
theorem sh_drs {r : List (List Rat)} : SeqAt.shaped (drs r) = true := by
  obtain ⟨h1, h2⟩ := lay_rowss r
  unfold SeqAt.shaped
  simp only [PyData.canLay0, PyData.depth, h1, Bool.true_and]
  exact decide_eq_true (by omega)
theorem ok_is_circle_rows (T : Tx K mg aN aO) {f f1 f2 f3 : Addr} {fd fd1 fd2 fd3 : FuncData} (F : Fun K "is_circle_rows" "is_circle_rows" s_is_circle_rows f fd) (c_circle_in : Cal P w K mg base "circle_in" 5 ["polynomial"] (spD K R_circle) f1 fd1) (c_check_polynomial : Cal P w K mg base "check_polynomial" 5 ["thing"] (spD K R_check) f2 fd2)
    (c_is_matrix : Cal P w K mg base "is_matrix" 5 ["many", "width", "thing"] (spD K R_is_matrix) f3 fd3) : FnOk P w K mg base CX0 6 f fd ["polynomial", "value"] (spD K R_isrows) := by
  refine fn_D F sc_is_circle_rows (by decide) (fun ds d h => ?_) (fun cdv A outer s H E hr => ⟨_, (pss_cons (ps_expr (pe_cal c_check_polynomial hr (by decide) rfl (pa_cons (pv 0) pa_nil)))
      (pss_cons (ps_if (PW.pt (pw_or (pt_not (pt_val (pe_callB call_isi rfl T.n_isinstance (by decide +kernel) (pa_cons (pv 1) (pa_cons (pe_bltn (v := V.ty "list") (u := Value.type "list") rfl T.n_list (by decide +kernel) rfl) pa_nil))))) (pw_or1 (pt_not (pt_val (pe_cal c_is_matrix hr (by decide) rfl (pa_cons pe_non (pa_cons pe_non (pa_cons (pe_callTy call_tupX rfl T.n_tuple (by decide +kernel) (pa_cons (pv 1) pa_nil)) pa_nil)))))))))
        (pss_one (ps_ret pe_bl))
        pss_nil)
      (pss_one (ps_ret (pe_cmpR (op_eqD hr.units) (pv 1) (pe_cal c_circle_in hr (by decide) rfl (pa_cons (pv 0) pa_nil)) (nomark _)))))), fun ds d hR => ?_⟩)
  · obtain ⟨p, v, rfl, _⟩ := h
    rfl
  · obtain ⟨p, v, rfl, ok, hv, rfl⟩ := hR
    walk_at "kk"
    refine r_seq (r_drop (ev_call (ea_cons (ev_var rfl) ea_nil) ⟨p, rfl, ok.ne, ok.last, Nat.le_trans ok.len (by decide), rfl⟩) ?_)
    refine r_seq ?_
    by_cases hx : ∃ ds, v = .list ds
    · obtain ⟨ds, rfl⟩ := hx
      obtain ⟨h1, h2, h3⟩ := hv
      refine r_if (b := !(isMat .none .none (.tuple ds))) (eb_orF (eb_is (eb_not (eb_val (ev_isiLst (ev_var rfl)))) rfl) (eb_not (eb_val (ev_call (ea_cons ev_non (ea_cons ev_non (ea_cons (ev_cb (ea_cons (ev_var rfl) ea_nil) rc_tupL) ea_nil))) ⟨.none, .none, _, rfl, .inl rfl, .inl rfl, ⟨h2, h3⟩, rfl⟩)))) (fun c => ?_) (fun c => ?_)
      · refine r_ret ev_bl ?_
        show PyData.bool false = .bool (isMat .none .none (.tuple ds) && _)
        have c' : isMat .none .none (.tuple ds) = false := by simpa using c
        rw [c', Bool.false_and]
      · have c' : isMat .none .none (.tuple ds) = true := by simpa using c
        refine r_next ?_
        refine r_ret (ev_op (ev_var rfl) (ev_call (ea_cons (ev_var rfl) ea_nil) ⟨p, rfl, ok, rfl⟩) (rv_eq h1 sh_drs)) ?_
        show PyData.bool _ = .bool (isMat .none .none (.tuple ds) && _)
        rw [c', Bool.true_and]
    · have e : isiLst v = false := by cases v <;> first | rfl | exact absurd ⟨_, rfl⟩ hx | exact hv.elim
      refine r_if (b := true) (eb_orT (eb_is (eb_not (eb_val (ev_isiLst (ev_var rfl)))) (by rw [e]; rfl))) (fun c => ?_) (fun c => nomatch c)
      refine r_ret ev_bl ?_
      show PyData.bool false = .bool (isRowsD p v)
      cases v <;> first | rfl | exact absurd ⟨_, rfl⟩ hx
end
end C56
end Part12

section Part13
set_option Elab.async false
set_option linter.all false
set_option maxRecDepth 100000
set_option maxHeartbeats 4000000
open PySem PySem.Spec PyProof.Rows L2 DL
open Evl (Ex)
/-! ### my words for the walk: expressions, arguments, operators, tests -/
local macro_rules | `(tactic| walk_at "len") => `(tactic| first
  | exact DL.len0
  | exact DL.len1
  | exact DL.len2
  | exact DL.len3
  | exact DL.len4
  | exact DL.len5
  | exact DL.len6
  | exact DL.len7
  | exact DL.len8
  | exact DL.len9
  | exact DL.len10
  | exact DL.len11
  | exact DL.len12
  | exact DL.len13
  | exact DL.len14
  | exact DL.len15
  | exact DL.len16
  | exact DL.len17
  | exact DL.len18
  | exact DL.len19
  | exact DL.len20)
local macro_rules | `(tactic| walk_at "sh") => `(tactic| first
  | exact DL.sh_int
  | exact DL.sh_none
  | exact DL.sh_bool
  | exact DL.sh_dq
  | exact DL.sh_dr
  | exact DL.sh_nil
  | assumption
  | rfl)
local macro_rules | `(tactic| walk_at "sc") => `(tactic| first
  | fail "side")
local macro_rules | `(tactic| walk_at "side") => `(tactic| first
  | assumption
  | rfl
  | (walk_at "sc"; done)
  | (trace "SIDE"; trace_state; fail "side"))
local macro_rules | `(tactic| walk_at "at") => `(tactic| first
  | exact rfl
  | (walk_at "side"))
local macro_rules | `(tactic| walk_at "rv") => `(tactic| first
  | (with_reducible exact rv_add)
  | (with_reducible exact rv_sub)
  | (with_reducible exact rv_lt)
  | (with_reducible exact rv_le)
  | (with_reducible exact rv_gt)
  | (with_reducible exact rv_ge)
  | (with_reducible exact rv_isN)
  | (with_reducible exact rv_notN)
  | (with_reducible exact rv_isB)
  | (with_reducible exact rv_notB)
  | ((with_reducible refine' rv_ixT ?x1); (case' x1 => walk_at "at"))
  | ((with_reducible refine' rv_ixL ?x1); (case' x1 => walk_at "at"))
  | ((with_reducible refine' rv_mul ?x1); (case' x1 => walk_at "side"))
  | ((with_reducible refine' rv_fd ?x1); (case' x1 => walk_at "side"))
  | ((with_reducible refine' rv_mod ?x1); (case' x1 => first | assumption | decide | omega))
  | ((with_reducible refine' rv_pow ?x1); (case' x1 => first | decide | walk_at "side"))
  | ((with_reducible refine' rv_shl ?x1); (case' x1 => first | decide | walk_at "side"))
  | ((with_reducible refine' rv_eq ?x1 ?x2); (case' x1 => walk_at "sh"); (case' x2 => walk_at "sh"))
  | ((with_reducible refine' rv_ne ?x1 ?x2); (case' x1 => walk_at "sh"); (case' x2 => walk_at "sh"))
  | ((with_reducible refine' rv_catT ?x1); (case' x1 => walk_at "side"))
  | ((with_reducible refine' rv_catL ?x1); (case' x1 => walk_at "side"))
  | ((with_reducible refine' rv_rep ?x1 ?x2); (case' x1 => walk_at "side"); (case' x2 => walk_at "side"))
  | (trace "RV"; trace_state; fail "rv"))
local macro_rules | `(tactic| walk_at "rc") => `(tactic| first
  | (with_reducible exact rc_lenT)
  | (with_reducible exact rc_lenL)
  | (with_reducible exact rc_gcd)
  | (with_reducible exact rc_abs)
  | (with_reducible exact rc_min)
  | (with_reducible exact rc_max)
  | (with_reducible exact rc_intI)
  | (with_reducible exact rc_intB)
  | (with_reducible exact rc_tupL)
  | (with_reducible exact rc_tupT)
  | (with_reducible exact rc_lstT)
  | (with_reducible exact rc_lstL)
  | (with_reducible exact rc_all)
  | (with_reducible exact rc_any))
local macro_rules | `(tactic| walk_at "rt") => `(tactic| first
  | fail "no promise")
local macro_rules | `(tactic| walk_at "ea") => `(tactic| first
  | exact ea_nil
  | exact ea_cons (by walk_at "ev") (by walk_at "ea"))
local macro_rules | `(tactic| walk_at "ev") => `(tactic| first
  | exact ev_var rfl
  | exact ev_int
  | exact ev_bl
  | exact ev_non
  | exact ev_str
  | exact ev_lenO rfl
  | exact ev_tupO rfl
  | ((with_reducible refine' ev_ixO ?x0 ?x1 ?x2 ?x3); (case' x0 => exact rfl); (case' x1 => walk_at "ev"); (case' x2 => exact rfl); (case' x3 => walk_at "at"))
  | ((with_reducible refine' ev_op ?x1 ?x2 ?x3); (case' x1 => walk_at "ev"); (case' x2 => walk_at "ev"); (case' x3 => walk_at "rv"))
  | ((with_reducible refine' ev_call ?x1 ?x2); (case' x1 => walk_at "ea"); (case' x2 => walk_at "rt"))
  | ((with_reducible refine' ev_isiInt ?x1); (case' x1 => walk_at "ev"))
  | ((with_reducible refine' ev_isiBool ?x1); (case' x1 => walk_at "ev"))
  | ((with_reducible refine' ev_isiTup ?x1); (case' x1 => walk_at "ev"))
  | ((with_reducible refine' ev_isiLst ?x1); (case' x1 => walk_at "ev"))
  | ((with_reducible refine' ev_isiStr ?x1); (case' x1 => walk_at "ev"))
  | ((with_reducible refine' ev_neg ?x1); (case' x1 => walk_at "ev"))
  | ((with_reducible refine' ev_not ?x1); (case' x1 => walk_at "ev"))
  | ((with_reducible refine' ev_revT ?x1); (case' x1 => walk_at "ev"))
  | ((with_reducible refine' ev_revL ?x1); (case' x1 => walk_at "ev"))
  | ((with_reducible refine' ev_cb ?x1 ?x2); (case' x1 => walk_at "ea"); (case' x2 => walk_at "rc"))
  | ((with_reducible refine' ev_tup ?x1 ?x2); (case' x1 => walk_at "ea"); (case' x2 => walk_at "len"))
  | ((with_reducible refine' ev_lst ?x1 ?x2); (case' x1 => walk_at "ea"); (case' x2 => walk_at "len"))
  | ((with_reducible refine' ev_and ?x1 ?x2); (case' x1 => walk_at "ev"); (case' x2 => (intro _; walk_at "ev")))
  | ((with_reducible refine' ev_or ?x1 ?x2); (case' x1 => walk_at "ev"); (case' x2 => (intro _; walk_at "ev")))
  | ((with_reducible refine' ev_slT ?x1 ?x2 ?x3); (case' x1 => walk_at "ev"); (case' x2 => walk_at "eo"); (case' x3 => walk_at "eo"))
  | ((with_reducible refine' ev_slL ?x1 ?x2 ?x3); (case' x1 => walk_at "ev"); (case' x2 => walk_at "eo"); (case' x3 => walk_at "eo"))
  | (trace "EV"; trace_state; fail "ev"))
local macro_rules | `(tactic| walk_at "eo") => `(tactic| first
  | exact eo_none
  | exact eo_some (by walk_at "ev"))
local macro_rules | `(tactic| walk_at "eb") => `(tactic| first
  | ((with_reducible refine' eb_and ?x1 ?x2); (case' x1 => walk_at "eb"); (case' x2 => (intro _; walk_at "eb")))
  | ((with_reducible refine' eb_or ?x1 ?x2); (case' x1 => walk_at "eb"); (case' x2 => (intro _; walk_at "eb")))
  | ((with_reducible refine' eb_not ?x1); (case' x1 => walk_at "eb"))
  | ((with_reducible refine' eb_val ?x1); (case' x1 => walk_at "ev"))
  | ((with_reducible refine' eb_test ?x1); (case' x1 => walk_at "ev")))
local macro_rules | `(tactic| walk_at "ret") => `(tactic| (refine' r_ret ?y1 ?y2; (case' y1 => walk_at "ev"); (case' y2 => try (first | rfl | skip))))
local macro_rules | `(tactic| walk_at "asg") => `(tactic| (refine' r_asg ?y1 ?y2; (case' y1 => walk_at "ev")))
local macro_rules | `(tactic| walk_at "if") => `(tactic| (refine' r_if ?y1 ?y2 ?y3; (case' y1 => walk_at "eb")))
local macro_rules | `(tactic| walk_at "par") => `(tactic| (refine' r_par ?y1 ?y2; (case' y1 => walk_at "ea")))
local macro_rules | `(tactic| walk_at "kk") => `(tactic| dsimp only [cxOf, Cx.nox, Cx.wish, Cx.blk, slots, List.map, List.length, List.replicate, List.append, Nat.sub, Nat.add, List.cons_append, List.nil_append, Nat.reduceAdd, Nat.reduceSub, List.replicate_succ, List.replicate_zero])

namespace C56
section
variable {P : Program} {w : World} {K : PySem.W.Frag} {mg : Str → Option Value} {base : Heap} {aN aO : Addr}
theorem cfd_small {i j : Int} {n : Nat} (h0 : j ≠ 0) (h : j.natAbs < 2 ^ n) (hn : n ≤ 9000) : CFd i j := by
  refine ⟨h0, PyProof.noPylong_of_log2 ?_⟩
  have hn0 : 0 < n := by
    cases n with
    | zero =>
      have : j.natAbs = 0 := by omega
      exact absurd (Int.natAbs_eq_zero.mp this) h0
    | succ n => omega
  exact Nat.lt_of_lt_of_le (PySem.Flt.log2_lt_of hn0 h) hn
/-! ### fractions of the law -/
theorem ok_law_frac (T : Tx K mg aN aO) {f : Addr} {fd : FuncData} (F : Fun K "_law_frac" "_law_frac" s__law_frac f fd) : FnOk P w K mg base CX0 1 f fd ["top", "bottom"] (spD K R_lowest_in) := by
  refine fn_D F sc__law_frac (by decide) (fun ds d h => ?_) (fun cdv A outer s H E hr => ⟨_, (pss_cons (ps_par (i := 2) (j := 3) rfl sc__law_frac.nd rfl rfl (by decide) rfl rfl (pa_cons (pe_callB call_absX rfl T.n_abs (by decide +kernel) (pa_cons (pv 0) pa_nil)) (pa_cons (pe_callB call_absX rfl T.n_abs (by decide +kernel) (pa_cons (pv 1) pa_nil)) pa_nil)) (by rfl))
      (pss_cons (ps_while PassesOwn.never (pt_cmpR (op_neD hr.units) (pv 3) pe_int (nomark _))
        (pss_one (ps_par (i := 2) (j := 3) rfl sc__law_frac.nd rfl rfl (by decide) rfl rfl (pa_cons (pv 3) (pa_cons (pe_op op_modN (pe_callTy call_intX rfl T.n_int (by decide +kernel) (pa_cons (pv 2) pa_nil)) (pv 3)) pa_nil)) (by rfl))))
      (pss_cons (ps_set (i := 2) sc__law_frac.nd rfl (by first | exact Or.inl rfl | exact Or.inr rfl) (pe_ifExp (pt_cmpR op_gt (pv 1) pe_int (nomark _)) (pv 2) (pe_op op_sub pe_int (pv 2))))
      (pss_one (ps_ret (pe_tup (pa_cons (pe_op op_fdX (pv 0) (pv 2)) (pa_cons (pe_op op_fdX (pv 1) (pv 2)) pa_nil)))))))), fun ds d hR => ?_⟩)
  · obtain ⟨t, b, rfl, _⟩ := h
    rfl
  · obtain ⟨t, b, rfl, hb, hl, rfl⟩ := hR
    walk_at "kk"
    have g0 : ((Nat.gcd t.natAbs b.natAbs : Nat) : Int) ≠ 0 := fun z => hb (Int.natAbs_eq_zero.mp (Nat.eq_zero_of_gcd_eq_zero_right (Int.ofNat_eq_zero.mp z)))
    refine r_seq ?_
    walk_at "par"
    show RunS K _ [.dat (.int t), .dat (.int b), .dat (.int (t.natAbs : Int)), .dat (.int (b.natAbs : Int))] _
    refine r_seq ?_
    refine r_while (fun m Γ => ∃ x y : Nat, m = y ∧ Γ = [.dat (.int t), .dat (.int b), .dat (.int (x : Int)), .dat (.int (y : Int))] ∧ Nat.gcd x y = Nat.gcd t.natAbs b.natAbs) b.natAbs ⟨_, _, rfl, rfl, rfl⟩ ?_
    rintro m Γ ⟨x, y, rfl, rfl, hg⟩
    refine ⟨!PyData.eqv (.int (m : Int)) (.int 0), _, by walk_at "eb", fun c => ?_, fun c => ?_⟩
    · rw [eqv_int] at c
      have hy : m ≠ 0 := by simpa using c
      have hy2 : (m : Int) ≠ 0 := by omega
      walk_at "par"
      refine ⟨x % m, Nat.mod_lt _ (by omega), m, x % m, rfl, ?_, ?_⟩
      · show [Slot.dat (.int t), .dat (.int b), .dat (.int (m : Int)), .dat (.int ((x : Int).fmod (m : Int)))] = _
        rw [Int.fmod_eq_emod_of_nonneg _ (Int.natCast_nonneg m), ← Int.natCast_emod]
      · rw [← hg, Nat.gcd_comm m, ← Nat.gcd_rec, Nat.gcd_comm]
    · rw [eqv_int] at c
      have hy : m = 0 := by simpa using c
      subst hy
      rw [Nat.gcd_zero_right] at hg
      subst hg
      refine r_seq ?_
      refine r_asg (Γ1 := [.dat (.int t), .dat (.int b), .dat (.int ((Nat.gcd t.natAbs b.natAbs : Nat) : Int)), .dat (.int ((0 : Nat) : Int))]) (d := .int (if b < 0 then 0 - ((Nat.gcd t.natAbs b.natAbs : Nat) : Int) else ((Nat.gcd t.natAbs b.natAbs : Nat) : Int))) (ev_if (b := decide (0 < b)) (by walk_at "eb") (fun c => ?_) (fun c => ?_)) ?_
      · have hn : 0 < b := of_decide_eq_true c
        rw [if_neg (by omega)]
        walk_at "ev"
      · have hn : ¬ 0 < b := of_decide_eq_false c
        rw [if_pos (by omega)]
        walk_at "ev"
      have n1 := low_num (t := t) hb
      have n2 := low_den (t := t) hb
      have hgn : (if b < 0 then 0 - ((Nat.gcd t.natAbs b.natAbs : Nat) : Int) else ((Nat.gcd t.natAbs b.natAbs : Nat) : Int)).natAbs = Nat.gcd t.natAbs b.natAbs := by split <;> omega
      have hg0 : (if b < 0 then 0 - ((Nat.gcd t.natAbs b.natAbs : Nat) : Int) else ((Nat.gcd t.natAbs b.natAbs : Nat) : Int)) ≠ 0 := by split <;> omega
      generalize (if b < 0 then 0 - ((Nat.gcd t.natAbs b.natAbs : Nat) : Int) else ((Nat.gcd t.natAbs b.natAbs : Nat) : Int)) = gg at *
      show RunS K _ [.dat (.int t), .dat (.int b), .dat (.int gg), .dat (.int ((0 : Nat) : Int))] _
      have f1 : CFd t gg := ⟨hg0, (hl _ hgn).1⟩
      have f2 : CFd b gg := ⟨hg0, (hl _ hgn).2⟩
      walk_at "ret"
      show PyData.tuple _ = dq _
      rw [n1, n2]
def R_add (ds : List PyData) (d : PyData) : Prop := ∃ a b, ds = [dq a, dq b] ∧ OkAdd a b ∧ d = dq (a + b)
theorem ok_law_plus {f f1 : Addr} {fd fd1 : FuncData} (F : Fun K "_law_plus" "_law_plus" s__law_plus f fd) (c__law_frac : Cal P w K mg base "_law_frac" 1 ["top", "bottom"] (spD K R_lowest_in) f1 fd1) : FnOk P w K mg base CX0 2 f fd ["one", "other"] (spD K R_add) := by
  refine fn_D F sc__law_plus (by decide) (fun ds d h => ?_) (fun cdv A outer s H E hr => ⟨_, (pss_one (ps_ret (pe_cal c__law_frac hr (by decide) rfl (pa_cons (pe_op op_plus (pe_op op_mulX (pe_ix ix_seq (pv 0) pe_int (fun _ _ => rfl)) (pe_ix ix_seq (pv 1) pe_int (fun _ _ => rfl))) (pe_op op_mulX (pe_ix ix_seq (pv 1) pe_int (fun _ _ => rfl)) (pe_ix ix_seq (pv 0) pe_int (fun _ _ => rfl)))) (pa_cons (pe_op op_mulX (pe_ix ix_seq (pv 0) pe_int (fun _ _ => rfl)) (pe_ix ix_seq (pv 1) pe_int (fun _ _ => rfl))) pa_nil))))), fun ds d hR => ?_⟩)
  · obtain ⟨a, b, rfl, _⟩ := h
    rfl
  · obtain ⟨a, b, rfl, ⟨h1, h2, h3, h4⟩, rfl⟩ := hR
    walk_at "kk"
    exact r_ret (ev_call (by walk_at "ea") (rt_low (Int.mul_ne_zero den_ne den_ne) h4 (low_add a b))) rfl
theorem ok_law_take {f f1 : Addr} {fd fd1 : FuncData} (F : Fun K "_law_take" "_law_take" s__law_take f fd) (c__law_frac : Cal P w K mg base "_law_frac" 1 ["top", "bottom"] (spD K R_lowest_in) f1 fd1) : FnOk P w K mg base CX0 2 f fd ["one", "other"] (spD K R_take) := by
  refine fn_D F sc__law_take (by decide) (fun ds d h => ?_) (fun cdv A outer s H E hr => ⟨_, (pss_one (ps_ret (pe_cal c__law_frac hr (by decide) rfl (pa_cons (pe_op op_sub (pe_op op_mulX (pe_ix ix_seq (pv 0) pe_int (fun _ _ => rfl)) (pe_ix ix_seq (pv 1) pe_int (fun _ _ => rfl))) (pe_op op_mulX (pe_ix ix_seq (pv 1) pe_int (fun _ _ => rfl)) (pe_ix ix_seq (pv 0) pe_int (fun _ _ => rfl)))) (pa_cons (pe_op op_mulX (pe_ix ix_seq (pv 0) pe_int (fun _ _ => rfl)) (pe_ix ix_seq (pv 1) pe_int (fun _ _ => rfl))) pa_nil))))), fun ds d hR => ?_⟩)
  · obtain ⟨a, b, rfl, _⟩ := h
    rfl
  · obtain ⟨a, b, rfl, ⟨h1, h2, h3, h4⟩, rfl⟩ := hR
    walk_at "kk"
    exact r_ret (ev_call (by walk_at "ea") (rt_low (Int.mul_ne_zero den_ne den_ne) h4 (low_sub a b))) rfl
theorem ok_law_mul {f f1 : Addr} {fd fd1 : FuncData} (F : Fun K "_law_mul" "_law_mul" s__law_mul f fd) (c__law_frac : Cal P w K mg base "_law_frac" 1 ["top", "bottom"] (spD K R_lowest_in) f1 fd1) : FnOk P w K mg base CX0 2 f fd ["one", "other"] (spD K R_times) := by
  refine fn_D F sc__law_mul (by decide) (fun ds d h => ?_) (fun cdv A outer s H E hr => ⟨_, (pss_one (ps_ret (pe_cal c__law_frac hr (by decide) rfl (pa_cons (pe_op op_mulX (pe_ix ix_seq (pv 0) pe_int (fun _ _ => rfl)) (pe_ix ix_seq (pv 1) pe_int (fun _ _ => rfl))) (pa_cons (pe_op op_mulX (pe_ix ix_seq (pv 0) pe_int (fun _ _ => rfl)) (pe_ix ix_seq (pv 1) pe_int (fun _ _ => rfl))) pa_nil))))), fun ds d hR => ?_⟩)
  · obtain ⟨a, b, rfl, _⟩ := h
    rfl
  · obtain ⟨a, b, rfl, ⟨h1, h2, h3⟩, rfl⟩ := hR
    walk_at "kk"
    exact r_ret (ev_call (by walk_at "ea") (rt_low (Int.mul_ne_zero den_ne den_ne) h3 (low_mul a b))) rfl
theorem ok_law_less {f : Addr} {fd : FuncData} (F : Fun K "_law_less" "_law_less" s__law_less f fd) : FnOk P w K mg base CX0 1 f fd ["one", "other"] (spD K R_less) := by
  refine fn_D F sc__law_less (by decide) (fun ds d h => ?_) (fun cdv A outer s H E hr => ⟨_, (pss_one (ps_ret (pe_cmpR op_lt (pe_op op_mulX (pe_ix ix_seq (pv 0) pe_int (fun _ _ => rfl)) (pe_ix ix_seq (pv 1) pe_int (fun _ _ => rfl))) (pe_op op_mulX (pe_ix ix_seq (pv 1) pe_int (fun _ _ => rfl)) (pe_ix ix_seq (pv 0) pe_int (fun _ _ => rfl))) (nomark _)))), fun ds d hR => ?_⟩)
  · obtain ⟨a, b, rfl, _⟩ := h
    rfl
  · obtain ⟨a, b, rfl, ⟨h1, h2⟩, rfl⟩ := hR
    walk_at "kk"
    walk_at "ret"
    show PyData.bool (decide (a.num * (b.den : Int) < b.num * (a.den : Int))) = .bool (decide (a < b))
    rw [show decide (a < b) = decide (a.num * (b.den : Int) < b.num * (a.den : Int)) from decide_eq_decide.mpr (Rat.lt_iff a b)]
/-- strictly between -1 and 1 -/
def insQ (a : Rat) : Bool := decide (((a.num.natAbs : Nat) : Int) < (a.den : Int))
def R_inside (ds : List PyData) (d : PyData) : Prop := ∃ a, ds = [dq a] ∧ d = .bool (insQ a)
theorem ok_law_inside (T : Tx K mg aN aO) {f : Addr} {fd : FuncData} (F : Fun K "_law_inside" "_law_inside" s__law_inside f fd) : FnOk P w K mg base CX0 1 f fd ["one"] (spD K R_inside) := by
  refine fn_D F sc__law_inside (by decide) (fun ds d h => ?_) (fun cdv A outer s H E hr => ⟨_, (pss_one (ps_ret (pe_cmpR op_lt (pe_callB call_absX rfl T.n_abs (by decide +kernel) (pa_cons (pe_ix ix_seq (pv 0) pe_int (fun _ _ => rfl)) pa_nil)) (pe_ix ix_seq (pv 0) pe_int (fun _ _ => rfl)) (nomark _)))), fun ds d hR => ?_⟩)
  · obtain ⟨a, rfl, _⟩ := h
    rfl
  · obtain ⟨a, rfl, rfl⟩ := hR
    walk_at "kk"
    walk_at "ret"
/-! ### the store -/
structure J where
  c : Int
  f : Int
  k : Int
  t : Int
def J.d (j : J) : List PyData := [.int j.c, .int j.f, .int j.k, .int j.t]
structure OkJ (n : Nat) (j : J) : Prop where
  c0 : 0 ≤ j.c
  c1 : j.c < 2 ^ 900
  k0 : 0 ≤ j.k
  k1 : j.k ≤ n
def oneJ (c k : Int) : Int := ((c + 571 * k) * 28411 + 229).fmod 2147483579
def twoJ (o k : Int) : Int := (o * o + 11 * k).fmod 2147483587
def nx (j : J) (m : Int) : Int × J :=
  if j.f = 1 ∧ 0 < j.c then (j.c.fmod m, ⟨j.c.fdiv m, j.f, j.k + 1, j.t⟩)
  else (((twoJ (oneJ j.c (j.k + 1)) (j.k + 1)).fdiv 17).fmod m, ⟨j.c, j.f, j.k + 1, j.t⟩)
theorem nx_lt {j : J} {m : Int} (h : 0 < m) : 0 ≤ (nx j m).1 ∧ (nx j m).1 < m := by
  unfold nx
  split
  · exact ⟨Int.fmod_nonneg_of_pos _ h, Int.fmod_lt_of_pos _ h⟩
  · exact ⟨Int.fmod_nonneg_of_pos _ h, Int.fmod_lt_of_pos _ h⟩
theorem nx_ok {j : J} {m : Int} {n : Nat} (h : 0 < m) (o : OkJ n j) : OkJ (n + 1) (nx j m).2 := by
  obtain ⟨h1, h2, h3, h4⟩ := o
  unfold nx
  split
  · have e : j.c.fdiv m = j.c / m := Int.fdiv_eq_ediv_of_nonneg _ (by omega)
    refine ⟨?_, ?_, by show 0 ≤ j.k + 1; omega, by show j.k + 1 ≤ ((n + 1 : Nat) : Int); omega⟩
    · show 0 ≤ j.c.fdiv m
      rw [e]
      exact Int.ediv_nonneg h1 (by omega)
    · show j.c.fdiv m < _
      rw [e]
      exact Int.lt_of_le_of_lt (Int.ediv_le_self _ h1) h2
  · exact ⟨h1, h2, by show 0 ≤ j.k + 1; omega, by show j.k + 1 ≤ ((n + 1 : Nat) : Int); omega⟩
def R_nx (js ds : List PyData) (d : PyData) (js' : List PyData) : Prop := ∃ j m, js = j.d ∧ ds = [.int m] ∧ OkJ 100000 j ∧ 0 < m ∧ m ≤ 1000000 ∧ d = .int (nx j m).1 ∧ js' = (nx j m).2.d
theorem natAbs_lt {i : Int} {n : Nat} (h0 : 0 ≤ i) (h : i < 2 ^ n) : i.natAbs < 2 ^ n := by
  have e : ((2 ^ n : Nat) : Int) = 2 ^ n := by rw [Int.natCast_pow]; rfl
  rw [← e] at h
  omega
theorem ok_law_next (T : Tx K mg aN aO) {f : Addr} {fd : FuncData} (F : Fun K "_law_next" "_law_next" s__law_next f fd) : FnOk P w K mg base CX0 1 f fd ["jar", "many"] (spJ K R_nx) := by
  refine fn_J F sc__law_next (by decide) (fun js ds d js' h => ?_) (fun cdv A outer s H E hr => ⟨_, (pss_cons (ps_asg (pe_op op_plus (pe_ix ix_seq (pv 0) pe_int (fun _ _ => rfl)) pe_int) (pg_sub (pv 0) pe_int set_list))
      (pss_cons (ps_if (PW.pt (pw_and (pt_cmpR (op_eqD hr.units) (pe_ix ix_seq (pv 0) pe_int (fun _ _ => rfl)) pe_int (nomark _)) (pw_and1 (pt_cmpR op_gt (pe_ix ix_seq (pv 0) pe_int (fun _ _ => rfl)) pe_int (nomark _)))))
        (pss_cons (ps_set (i := 2) sc__law_next.nd rfl (by first | exact Or.inl rfl | exact Or.inr rfl) (pe_op op_modN (pe_callTy call_intX rfl T.n_int (by decide +kernel) (pa_cons (pe_ix ix_seq (pv 0) pe_int (fun _ _ => rfl)) pa_nil)) (pv 1)))
      (pss_cons (ps_asg (pe_op op_fdX (pe_ix ix_seq (pv 0) pe_int (fun _ _ => rfl)) (pv 1)) (pg_sub (pv 0) pe_int set_list))
      (pss_one (ps_ret (pv 2)))))
        pss_nil)
      (pss_cons (ps_set (i := 3) sc__law_next.nd rfl (by first | exact Or.inl rfl | exact Or.inr rfl) (pe_op op_modN (pe_callTy call_intX rfl T.n_int (by decide +kernel) (pa_cons (pe_op op_plus (pe_op op_mulX (pe_op op_plus (pe_ix ix_seq (pv 0) pe_int (fun _ _ => rfl)) (pe_op op_mulX pe_int (pe_ix ix_seq (pv 0) pe_int (fun _ _ => rfl)))) pe_int) pe_int) pa_nil)) pe_int))
      (pss_cons (ps_set (i := 3) sc__law_next.nd rfl (by first | exact Or.inl rfl | exact Or.inr rfl) (pe_op op_modN (pe_callTy call_intX rfl T.n_int (by decide +kernel) (pa_cons (pe_op op_plus (pe_op op_mulX (pv 3) (pv 3)) (pe_op op_mulX pe_int (pe_ix ix_seq (pv 0) pe_int (fun _ _ => rfl)))) pa_nil)) pe_int))
      (pss_one (ps_ret (pe_op op_modN (pe_callTy call_intX rfl T.n_int (by decide +kernel) (pa_cons (pe_op op_fdX (pv 3) pe_int) pa_nil)) (pv 1)))))))), fun js ds d js' p hR => ?_⟩)
  · obtain ⟨j, m, _, rfl, _⟩ := h
    rfl
  · obtain ⟨⟨c, f, k, t⟩, m, rfl, rfl, ⟨h1, h2, h3, h4⟩, m0, m1, rfl, rfl⟩ := hR
    walk_at "kk"
    show RunS K _ [.own false p [.int c, .int f, .int k, .int t], .dat (.int m), .un, .un] _
    dsimp only at h1 h2 h3 h4
    refine r_seq (r_setO (m := 2) (d := .int (k + 1)) (by walk_at "ev") rfl ev_int rfl (by show 2 < 4; decide) ?_)
    show RunS K _ [.own false p [.int c, .int f, .int (k + 1), .int t], .dat (.int m), .un, .un] _
    have cn := natAbs_lt h1 h2
    refine r_seq ?_
    refine r_if (b := PyData.eqv (.int f) (.int 1) && decide (0 < c)) (eb_and (by walk_at "eb") (fun _ => by walk_at "eb")) (fun q => ?_) (fun q => ?_)
    · rw [eqv_int, Bool.and_eq_true, decide_eq_true_eq, decide_eq_true_eq] at q
      have e : nx ⟨c, f, k, t⟩ m = (c.fmod m, ⟨c.fdiv m, f, k + 1, t⟩) := if_pos q
      rw [e]
      have hm : m ≠ 0 := by omega
      have hf : CFd c m := cfd_small (n := 30) hm (by omega) (by omega)
      refine r_seq ?_
      walk_at "asg"
      show RunS K _ [.own false p [.int c, .int f, .int (k + 1), .int t], .dat (.int m), .dat (.int (c.fmod m)), .un] _
      refine r_seq (r_setO (m := 0) (d := .int (c.fdiv m)) (by walk_at "ev") rfl ev_int rfl (by show 0 < 4; decide) ?_)
      refine r_ret (d := .int (c.fmod m)) (ev_var rfl) ⟨rfl, rfl⟩
    · rw [eqv_int] at q
      have q' : ¬ (f = 1 ∧ 0 < c) := by
        intro z
        simp [z.1, z.2] at q
      have e : nx ⟨c, f, k, t⟩ m = (((twoJ (oneJ c (k + 1)) (k + 1)).fdiv 17).fmod m, ⟨c, f, k + 1, t⟩) := if_neg q'
      rw [e]
      have hm : m ≠ 0 := by omega
      refine r_next ?_
      have f1 : CMulW 571 (k + 1) := mulW_of (n := 10) (m := 30) (by decide) (by omega) (by decide)
      have f2 : CMulW (c + 571 * (k + 1)) 28411 := mulW_of (n := 901) (m := 30) (by
        have : (c + 571 * (k + 1)).natAbs ≤ c.natAbs + 2 ^ 60 := by omega
        have h5 : (2 : Nat) ^ 60 ≤ 2 ^ 900 := Nat.pow_le_pow_right (by omega) (by omega)
        have h6 : (2 : Nat) ^ 901 = 2 ^ 900 + 2 ^ 900 := by rw [Nat.pow_succ]; omega
        generalize (2 : Nat) ^ 900 = A at *
        generalize (2 : Nat) ^ 901 = B at *
        omega) (by decide) (by decide)
      have hm1 : (2147483579 : Int) ≠ 0 := by decide
      have hm2 : (2147483587 : Int) ≠ 0 := by decide
      refine r_seq ?_
      refine r_asg (d := .int (oneJ c (k + 1))) (by unfold oneJ; walk_at "ev") ?_
      have o1 : 0 ≤ oneJ c (k + 1) := Int.fmod_nonneg_of_pos _ (by decide)
      have o2 : oneJ c (k + 1) < 2147483579 := Int.fmod_lt_of_pos _ (by decide)
      generalize oneJ c (k + 1) = o at *
      show RunS K _ [.own false p [.int c, .int f, .int (k + 1), .int t], .dat (.int m), .un, .dat (.int o)] _
      have f3 : CMulW o o := mulW_of (n := 31) (m := 31) (by omega) (by omega) (by decide)
      have f4 : CMulW 11 (k + 1) := mulW_of (n := 10) (m := 30) (by decide) (by omega) (by decide)
      refine r_seq ?_
      refine r_asg (d := .int (twoJ o (k + 1))) (by unfold twoJ; walk_at "ev") ?_
      generalize twoJ o (k + 1) = o' at *
      show RunS K _ [.own false p [.int c, .int f, .int (k + 1), .int t], .dat (.int m), .un, .dat (.int o')] _
      have f5 : CFd o' 17 := cfd_small (n := 30) (by decide) (by decide) (by omega)
      exact r_ret (by walk_at "ev") ⟨rfl, rfl⟩
def R_pick (js ds : List PyData) (d : PyData) (js' : List PyData) : Prop := ∃ j xs, js = j.d ∧ ds = [.list xs] ∧ OkJ 100000 j ∧ 0 < xs.length ∧ xs.length ≤ 1000000 ∧ d = nthD xs (nx j (xs.length : Nat)).1.toNat ∧ js' = (nx j (xs.length : Nat)).2.d
theorem atI_nth {xs : List PyData} {i : Int} (h0 : 0 ≤ i) (h : i < (xs.length : Nat)) : atI xs i = some (nthD xs i.toNat) := by
  have e : ((i.toNat : Nat) : Int) = i := by omega
  rw [← e]
  have hl : i.toNat < xs.length := by omega
  rw [Int.toNat_natCast]
  exact L2.atI_nat (nthD_get hl)
theorem ok_law_pick (T : Tx K mg aN aO) {f f1 : Addr} {fd fd1 : FuncData} (F : Fun K "_law_pick" "_law_pick" s__law_pick f fd) (c__law_next : Cal P w K mg base "_law_next" 1 ["jar", "many"] (spJ K R_nx) f1 fd1) : FnOk P w K mg base CX0 2 f fd ["jar", "rows"] (spJ K R_pick) := by
  refine fn_J F sc__law_pick (by decide) (fun js ds d js' h => ?_) (fun cdv A outer s H E hr => ⟨_, (pss_one (ps_ret (pe_ix ix_seq (pv 1) (pe_cal c__law_next hr (by decide) rfl (pa_cons (pv 0) (pa_cons (pe_callB call_lenX rfl T.n_len PySem.boot_len (pa_cons (pv 1) pa_nil)) pa_nil))) (fun _ _ => rfl)))), fun js ds d js' p hR => ?_⟩)
  · obtain ⟨j, m, _, rfl, _⟩ := h
    rfl
  · obtain ⟨j, xs, rfl, rfl, ok, m0, m1, rfl, rfl⟩ := hR
    walk_at "kk"
    have hl := nx_lt (j := j) (m := (xs.length : Nat)) (by omega)
    exact r_ret (ev_op (ev_var rfl) (ev_callJ (n := 0) (js' := (nx j (xs.length : Nat)).2.d) rfl (ea_cons (ev_cb (ea_cons (ev_var rfl) ea_nil) rc_lenL) ea_nil) rfl ⟨j, _, rfl, rfl, ok, by omega, by omega, rfl, rfl⟩) (rv_ixL (atI_nth hl.1 hl.2))) ⟨rfl, rfl⟩
end
end C56
end Part13

section Part14
set_option Elab.async false
set_option linter.all false
set_option maxRecDepth 100000
set_option maxHeartbeats 4000000
open PySem PySem.Spec PyProof.Rows L2 DL
open Evl (Ex)
/-! ### my words for the walk: expressions, arguments, operators, tests -/
local macro_rules | `(tactic| walk_at "len") => `(tactic| first
  | exact DL.len0
  | exact DL.len1
  | exact DL.len2
  | exact DL.len3
  | exact DL.len4
  | exact DL.len5
  | exact DL.len6
  | exact DL.len7
  | exact DL.len8
  | exact DL.len9
  | exact DL.len10
  | exact DL.len11
  | exact DL.len12
  | exact DL.len13
  | exact DL.len14
  | exact DL.len15
  | exact DL.len16
  | exact DL.len17
  | exact DL.len18
  | exact DL.len19
  | exact DL.len20)
local macro_rules | `(tactic| walk_at "sh") => `(tactic| first
  | exact DL.sh_int
  | exact DL.sh_none
  | exact DL.sh_bool
  | exact DL.sh_dq
  | exact DL.sh_dr
  | exact DL.sh_nil
  | assumption
  | rfl)
local macro_rules | `(tactic| walk_at "sc") => `(tactic| first
  | fail "side")
local macro_rules | `(tactic| walk_at "side") => `(tactic| first
  | assumption
  | rfl
  | (walk_at "sc"; done)
  | (trace "SIDE"; trace_state; fail "side"))
local macro_rules | `(tactic| walk_at "at") => `(tactic| first
  | exact rfl
  | (walk_at "side"))
local macro_rules | `(tactic| walk_at "rv") => `(tactic| first
  | (with_reducible exact rv_add)
  | (with_reducible exact rv_sub)
  | (with_reducible exact rv_lt)
  | (with_reducible exact rv_le)
  | (with_reducible exact rv_gt)
  | (with_reducible exact rv_ge)
  | (with_reducible exact rv_isN)
  | (with_reducible exact rv_notN)
  | (with_reducible exact rv_isB)
  | (with_reducible exact rv_notB)
  | ((with_reducible refine' rv_ixT ?x1); (case' x1 => walk_at "at"))
  | ((with_reducible refine' rv_ixL ?x1); (case' x1 => walk_at "at"))
  | ((with_reducible refine' rv_mul ?x1); (case' x1 => walk_at "side"))
  | ((with_reducible refine' rv_fd ?x1); (case' x1 => walk_at "side"))
  | ((with_reducible refine' rv_mod ?x1); (case' x1 => first | assumption | decide | omega))
  | ((with_reducible refine' rv_pow ?x1); (case' x1 => first | decide | walk_at "side"))
  | ((with_reducible refine' rv_shl ?x1); (case' x1 => first | decide | walk_at "side"))
  | ((with_reducible refine' rv_eq ?x1 ?x2); (case' x1 => walk_at "sh"); (case' x2 => walk_at "sh"))
  | ((with_reducible refine' rv_ne ?x1 ?x2); (case' x1 => walk_at "sh"); (case' x2 => walk_at "sh"))
  | ((with_reducible refine' rv_catT ?x1); (case' x1 => walk_at "side"))
  | ((with_reducible refine' rv_catL ?x1); (case' x1 => walk_at "side"))
  | ((with_reducible refine' rv_rep ?x1 ?x2); (case' x1 => walk_at "side"); (case' x2 => walk_at "side"))
  | (trace "RV"; trace_state; fail "rv"))
local macro_rules | `(tactic| walk_at "rc") => `(tactic| first
  | (with_reducible exact rc_lenT)
  | (with_reducible exact rc_lenL)
  | (with_reducible exact rc_gcd)
  | (with_reducible exact rc_abs)
  | (with_reducible exact rc_min)
  | (with_reducible exact rc_max)
  | (with_reducible exact rc_intI)
  | (with_reducible exact rc_intB)
  | (with_reducible exact rc_tupL)
  | (with_reducible exact rc_tupT)
  | (with_reducible exact rc_lstT)
  | (with_reducible exact rc_lstL)
  | (with_reducible exact rc_all)
  | (with_reducible exact rc_any))
local macro_rules | `(tactic| walk_at "rt") => `(tactic| first
  | fail "no promise")
local macro_rules | `(tactic| walk_at "ea") => `(tactic| first
  | exact ea_nil
  | exact ea_cons (by walk_at "ev") (by walk_at "ea"))
local macro_rules | `(tactic| walk_at "ev") => `(tactic| first
  | exact ev_var rfl
  | exact ev_int
  | exact ev_bl
  | exact ev_non
  | exact ev_str
  | exact ev_lenO rfl
  | exact ev_tupO rfl
  | ((with_reducible refine' ev_ixO ?x0 ?x1 ?x2 ?x3); (case' x0 => exact rfl); (case' x1 => walk_at "ev"); (case' x2 => exact rfl); (case' x3 => walk_at "at"))
  | ((with_reducible refine' ev_op ?x1 ?x2 ?x3); (case' x1 => walk_at "ev"); (case' x2 => walk_at "ev"); (case' x3 => walk_at "rv"))
  | ((with_reducible refine' ev_call ?x1 ?x2); (case' x1 => walk_at "ea"); (case' x2 => walk_at "rt"))
  | ((with_reducible refine' ev_isiInt ?x1); (case' x1 => walk_at "ev"))
  | ((with_reducible refine' ev_isiBool ?x1); (case' x1 => walk_at "ev"))
  | ((with_reducible refine' ev_isiTup ?x1); (case' x1 => walk_at "ev"))
  | ((with_reducible refine' ev_isiLst ?x1); (case' x1 => walk_at "ev"))
  | ((with_reducible refine' ev_isiStr ?x1); (case' x1 => walk_at "ev"))
  | ((with_reducible refine' ev_neg ?x1); (case' x1 => walk_at "ev"))
  | ((with_reducible refine' ev_not ?x1); (case' x1 => walk_at "ev"))
  | ((with_reducible refine' ev_revT ?x1); (case' x1 => walk_at "ev"))
  | ((with_reducible refine' ev_revL ?x1); (case' x1 => walk_at "ev"))
  | ((with_reducible refine' ev_cb ?x1 ?x2); (case' x1 => walk_at "ea"); (case' x2 => walk_at "rc"))
  | ((with_reducible refine' ev_tup ?x1 ?x2); (case' x1 => walk_at "ea"); (case' x2 => walk_at "len"))
  | ((with_reducible refine' ev_lst ?x1 ?x2); (case' x1 => walk_at "ea"); (case' x2 => walk_at "len"))
  | ((with_reducible refine' ev_and ?x1 ?x2); (case' x1 => walk_at "ev"); (case' x2 => (intro _; walk_at "ev")))
  | ((with_reducible refine' ev_or ?x1 ?x2); (case' x1 => walk_at "ev"); (case' x2 => (intro _; walk_at "ev")))
  | ((with_reducible refine' ev_slT ?x1 ?x2 ?x3); (case' x1 => walk_at "ev"); (case' x2 => walk_at "eo"); (case' x3 => walk_at "eo"))
  | ((with_reducible refine' ev_slL ?x1 ?x2 ?x3); (case' x1 => walk_at "ev"); (case' x2 => walk_at "eo"); (case' x3 => walk_at "eo"))
  | (trace "EV"; trace_state; fail "ev"))
local macro_rules | `(tactic| walk_at "eo") => `(tactic| first
  | exact eo_none
  | exact eo_some (by walk_at "ev"))
local macro_rules | `(tactic| walk_at "eb") => `(tactic| first
  | ((with_reducible refine' eb_and ?x1 ?x2); (case' x1 => walk_at "eb"); (case' x2 => (intro _; walk_at "eb")))
  | ((with_reducible refine' eb_or ?x1 ?x2); (case' x1 => walk_at "eb"); (case' x2 => (intro _; walk_at "eb")))
  | ((with_reducible refine' eb_not ?x1); (case' x1 => walk_at "eb"))
  | ((with_reducible refine' eb_val ?x1); (case' x1 => walk_at "ev"))
  | ((with_reducible refine' eb_test ?x1); (case' x1 => walk_at "ev")))
local macro_rules | `(tactic| walk_at "ret") => `(tactic| (refine' r_ret ?y1 ?y2; (case' y1 => walk_at "ev"); (case' y2 => try (first | rfl | skip))))
local macro_rules | `(tactic| walk_at "asg") => `(tactic| (refine' r_asg ?y1 ?y2; (case' y1 => walk_at "ev")))
local macro_rules | `(tactic| walk_at "if") => `(tactic| (refine' r_if ?y1 ?y2 ?y3; (case' y1 => walk_at "eb")))
local macro_rules | `(tactic| walk_at "par") => `(tactic| (refine' r_par ?y1 ?y2; (case' y1 => walk_at "ea")))
local macro_rules | `(tactic| walk_at "kk") => `(tactic| dsimp only [cxOf, Cx.nox, Cx.wish, Cx.blk, slots, List.map, List.length, List.replicate, List.append, Nat.sub, Nat.add, List.cons_append, List.nil_append, Nat.reduceAdd, Nat.reduceSub, List.replicate_succ, List.replicate_zero])

namespace C56
section
variable {P : Program} {w : World} {K : PySem.W.Frag} {mg : Str → Option Value} {base : Heap} {aN aO : Addr}
/-! ### alike, part by part -/
mutual
def eqS : PyData → PyData → Bool
  | .tuple es, .tuple ds => eqSAll es ds
  | .list es, .list ds => eqSAll es ds
  | .none, .none => true
  | .bool a, .bool b => decide (a = b)
  | .int a, .int b => decide (a = b)
  | _, _ => false
def eqSAll : List PyData → List PyData → Bool
  | [], [] => true
  | a :: es, b :: ds => eqS a b && eqSAll es ds
  | _, _ => false
end
def EqOk : Nat → PyData → Prop
  | 0, _ => False
  | n + 1, .tuple ds => ds.length ≤ 1000 ∧ ∀ x ∈ ds, EqOk n x
  | n + 1, .list ds => ds.length ≤ 1000 ∧ ∀ x ∈ ds, EqOk n x
  | _, .none => True
  | _, .bool _ => True
  | _, .int _ => True
  | _, _ => False
def R_equal (n : Nat) (ds : List PyData) (d : PyData) : Prop := ∃ a b, ds = [a, b] ∧ EqOk n b ∧ PyData.canLay0 a = true ∧ d = .bool (eqS a b)
theorem eqSAll_eq : ∀ {es ds : List PyData}, eqSAll es ds = (decide ((es.length : Int) = (ds.length : Nat)) && ((List.range ds.length).map fun k => eqS (nthD es k) (nthD ds k)).all id)
  | [], [] => rfl
  | [], d :: ds => by
    show false = _
    rw [decide_eq_false (by rw [List.length_cons, List.length_nil]; omega)]
    rfl
  | e :: es, [] => by
    show false = _
    rw [decide_eq_false (by rw [List.length_cons, List.length_nil]; omega)]
    rfl
  | e :: es, d :: ds => by
    show (eqS e d && eqSAll es ds) = _
    rw [eqSAll_eq, List.length_cons, List.length_cons, List.range_succ_eq_map, List.map_cons, List.all_cons, List.map_map]
    show _ = (_ && (eqS e d && _))
    have h1 : decide (((es.length + 1 : Nat) : Int) = ((ds.length + 1 : Nat) : Int)) = decide ((es.length : Int) = (ds.length : Nat)) := decide_eq_decide.mpr (by omega)
    rw [h1]
    show (eqS e d && (_ && ((List.range ds.length).map fun k => eqS (nthD es k) (nthD ds k)).all id)) = (_ && (eqS e d && ((List.range ds.length).map fun k => eqS (nthD (e :: es) (k + 1)) (nthD (d :: ds) (k + 1))).all id))
    show (eqS e d && (_ && ((List.range ds.length).map fun k => eqS (nthD es k) (nthD ds k)).all id)) = (_ && (eqS e d && ((List.range ds.length).map fun k => eqS (nthD es k) (nthD ds k)).all id))
    cases eqS e d <;> cases decide ((es.length : Int) = (ds.length : Nat)) <;> rfl
theorem canLay_mem : ∀ {es : List PyData} {k : Nat}, PyData.canLayAll0 es = true → k < es.length → PyData.canLay0 (nthD es k) = true
  | [], k, _, h => absurd h (Nat.not_lt_zero k)
  | e :: es, 0, h, _ => by
    have h' : (PyData.canLay0 e && PyData.canLayAll0 es) = true := by simpa [PyData.canLayAll0] using h
    exact (Bool.and_eq_true_iff.mp h').1
  | e :: es, k + 1, h, hk => by
    have h' : (PyData.canLay0 e && PyData.canLayAll0 es) = true := by simpa [PyData.canLayAll0] using h
    exact canLay_mem (es := es) (k := k) (Bool.and_eq_true_iff.mp h').2 (by simpa using hk)
theorem nthD_in {ds : List PyData} {k : Nat} (h : k < ds.length) : nthD ds k ∈ ds := by
  rw [nthD_mem h]
  exact List.getElem_mem h
theorem fnOk_none {k : Nat} {f : Addr} {fd : FuncData} {ps : List Str} {R : List PyData → PyData → Prop} (h : ∀ ds d, ¬ R ds d) : FnOk P w K mg base CX0 k f fd ps (spD K R) :=
  ⟨fun vs H Q E q => by obtain ⟨B, ds, d, _, _, hR, _⟩ := q; exact absurd hR (h _ _), fun A outer s H args us vs Q E _ _ _ _ q => by obtain ⟨B, ds, d, _, _, hR, _⟩ := q; exact absurd hR (h _ _)⟩
theorem atI_natD {xs : List PyData} {k : Nat} (h : k < xs.length) : atI xs ((k : Nat) : Int) = some (nthD xs k) := L2.atI_nat (nthD_get h)
theorem tI_tup {Γ Γ1 : List Slot} {te : TE} {d : PyData} {b : Bool} (h : EvX K te Γ d Γ1) (e : isiTup d = b) : EvB K (tB (tCB (rIsi K) (tCons te (tCons (tC (.ty "tuple")) tNil)))) Γ b Γ1 := eb_is (eb_val (ev_isiTup h)) e
theorem tI_lst {Γ Γ1 : List Slot} {te : TE} {d : PyData} {b : Bool} (h : EvX K te Γ d Γ1) (e : isiLst d = b) : EvB K (tB (tCB (rIsi K) (tCons te (tCons (tC (.ty "list")) tNil)))) Γ b Γ1 := eb_is (eb_val (ev_isiLst h)) e
theorem tI_bool {Γ Γ1 : List Slot} {te : TE} {d : PyData} {b : Bool} (h : EvX K te Γ d Γ1) (e : isiBool d = b) : EvB K (tB (tCB (rIsi K) (tCons te (tCons (tC (.ty "bool")) tNil)))) Γ b Γ1 := eb_is (eb_val (ev_isiBool h)) e
theorem tI_str {Γ Γ1 : List Slot} {te : TE} {d : PyData} {b : Bool} (h : EvX K te Γ d Γ1) (e : isiStr d = b) : EvB K (tB (tCB (rIsi K) (tCons te (tCons (tC (.ty "str")) tNil)))) Γ b Γ1 := eb_is (eb_val (ev_isiStr h)) e
theorem tI_non {Γ : List Slot} {i : Nat} {d : PyData} {b : Bool} (h : EvX K (tVar i) Γ d Γ) (e : isNon d = b) : EvB K (tTest (tOp (fun x y H Q => y = .non ∧ Q (.bl (decide (x = .non))) H) (tVar i) (tC .non))) Γ b Γ := eb_is (eb_test (ev_op h ev_non rv_isN)) e
theorem tI_neT {Γ : List Slot} {i k : Nat} {d e : PyData} {b : Bool} (h : EvX K (tVar i) Γ d Γ) (h2 : EvX K (tVar k) Γ e Γ) (q : (!decide (isiTup d = isiTup e)) = b) : EvB K (tTest (tOp (rNeD K) (tCB (rIsi K) (tCons (tVar i) (tCons (tC (.ty "tuple")) tNil))) (tCB (rIsi K) (tCons (tVar k) (tCons (tC (.ty "tuple")) tNil))))) Γ b Γ := by
  refine eb_is (eb_test (ev_op (ev_isiTup h) (ev_isiTup h2) (rv_ne sh_bool sh_bool))) ?_
  rw [← q]
  show (!(isiTup d == isiTup e)) = _
  cases isiTup d <;> cases isiTup e <;> rfl
theorem tI_neL {Γ : List Slot} {i k : Nat} {d e : PyData} {b : Bool} (h : EvX K (tVar i) Γ d Γ) (h2 : EvX K (tVar k) Γ e Γ) (q : (!decide (isiLst d = isiLst e)) = b) : EvB K (tTest (tOp (rNeD K) (tCB (rIsi K) (tCons (tVar i) (tCons (tC (.ty "list")) tNil))) (tCB (rIsi K) (tCons (tVar k) (tCons (tC (.ty "list")) tNil))))) Γ b Γ := by
  refine eb_is (eb_test (ev_op (ev_isiLst h) (ev_isiLst h2) (rv_ne sh_bool sh_bool))) ?_
  rw [← q]
  show (!(isiLst d == isiLst e)) = _
  cases isiLst d <;> cases isiLst e <;> rfl
theorem ok_law_equal (T : Tx K mg aN aO) {f : Addr} {fd : FuncData} (F : Fun K "_law_equal" "_law_equal" s__law_equal f fd) (hm : mg "_law_equal" = some (.ref f)) (hk : PySem.W.keepIn K (.ref f) = true) (hb : Binds K fd ["found", "due"] []) :
    ∀ n, FnOk P w K mg base CX0 n f fd ["found", "due"] (spD K (R_equal n))
  | 0 => fnOk_none fun ds d h => by
    obtain ⟨a, b, _, h, _⟩ := h
    exact h
  | n + 1 => by
    have c__law_equal : Cal P w K mg base "_law_equal" n ["found", "due"] (spD K (R_equal n)) f fd := ⟨ok_law_equal T F hm hk hb n, hm, hk, hb⟩
    refine fn_D F sc__law_equal (by decide) (fun ds d h => ?_) (fun cdv A outer s H E hr => ⟨_, (pss_cons (ps_if (PW.pt (pw_or (pt_val (pe_callB call_isi rfl T.n_isinstance (by decide +kernel) (pa_cons (pv 1) (pa_cons (pe_bltn (v := V.ty "tuple") (u := Value.type "tuple") rfl T.n_tuple (by decide +kernel) rfl) pa_nil)))) (pw_or1 (pt_val (pe_callB call_isi rfl T.n_isinstance (by decide +kernel) (pa_cons (pv 1) (pa_cons (pe_bltn (v := V.ty "list") (u := Value.type "list") rfl T.n_list (by decide +kernel) rfl) pa_nil)))))))
        (pss_cons (ps_if (PW.pt (pw_or (pt_cmpR (op_neD hr.units) (pe_callB call_isi rfl T.n_isinstance (by decide +kernel) (pa_cons (pv 1) (pa_cons (pe_bltn (v := V.ty "tuple") (u := Value.type "tuple") rfl T.n_tuple (by decide +kernel) rfl) pa_nil))) (pe_callB call_isi rfl T.n_isinstance (by decide +kernel) (pa_cons (pv 0) (pa_cons (pe_bltn (v := V.ty "tuple") (u := Value.type "tuple") rfl T.n_tuple (by decide +kernel) rfl) pa_nil))) (nomark _)) (pw_or1 (pt_cmpR (op_neD hr.units) (pe_callB call_isi rfl T.n_isinstance (by decide +kernel) (pa_cons (pv 1) (pa_cons (pe_bltn (v := V.ty "list") (u := Value.type "list") rfl T.n_list (by decide +kernel) rfl) pa_nil))) (pe_callB call_isi rfl T.n_isinstance (by decide +kernel) (pa_cons (pv 0) (pa_cons (pe_bltn (v := V.ty "list") (u := Value.type "list") rfl T.n_list (by decide +kernel) rfl) pa_nil))) (nomark _)))))
        (pss_one (ps_ret pe_bl))
        pss_nil)
      (pss_one (ps_ret (pe_and (pe_cmpR (op_eqD hr.units) (pe_callB call_lenX rfl T.n_len PySem.boot_len (pa_cons (pv 0) pa_nil)) (pe_callB call_lenX rfl T.n_len PySem.boot_len (pa_cons (pv 1) pa_nil)) (nomark _)) (pe_one (pe_callB (cr_all rfl) rfl T.n_all (by decide +kernel) (pa_cons (pe_lc (own := [("k", 2)]) (g := (gName 2)) (tt := tYes) rfl sc__law_equal.nd (pi_range1 rfl T.n_range (pa_cons (pe_callB call_lenX rfl T.n_len PySem.boot_len (pa_cons (pv 1) pa_nil)) pa_nil)) (blkOk_by (own := [("k", 2)]) (N := ["found", "due", "k"]) (sc := defScope s__law_equal) (by decide +kernel)) (fun _ _ _ _ _ => (pg_name (i := 2) sc__law_equal.nd rfl (by first | exact Or.inl rfl | exact Or.inr rfl))) (fun _ _ _ _ _ => pts_nil) (fun _ _ _ _ _ => (pe_cal c__law_equal hr (by first | decide | exact Nat.le_refl _ | omega) rfl (pa_cons (pe_ix (show IxR _ (rIx K) from ix_seq) (pv 0) (pv 2) (fun _ _ => rfl)) (pa_cons (pe_ix (show IxR _ (rIx K) from ix_seq) (pv 1) (pv 2) (fun _ _ => rfl)) pa_nil))))) pa_nil)))))))
        pss_nil)
      (pss_cons (ps_if (pt_cmpR op_isN (pv 1) pe_non (nomark _))
        (pss_one (ps_ret (pe_cmpR op_isN (pv 0) pe_non (nomark _))))
        pss_nil)
      (pss_cons (ps_if (pt_val (pe_callB call_isi rfl T.n_isinstance (by decide +kernel) (pa_cons (pv 1) (pa_cons (pe_bltn (v := V.ty "bool") (u := Value.type "bool") rfl T.n_bool (by decide +kernel) rfl) pa_nil))))
        (pss_one (ps_ret (pe_and (pe_callB call_isi rfl T.n_isinstance (by decide +kernel) (pa_cons (pv 0) (pa_cons (pe_bltn (v := V.ty "bool") (u := Value.type "bool") rfl T.n_bool (by decide +kernel) rfl) pa_nil))) (pe_one (pe_cmpR (op_eqD hr.units) (pv 0) (pv 1) (nomark _))))))
        pss_nil)
      (pss_cons (ps_if (pt_val (pe_callB call_isi rfl T.n_isinstance (by decide +kernel) (pa_cons (pv 1) (pa_cons (pe_bltn (v := V.ty "str") (u := Value.type "str") rfl T.n_str (by decide +kernel) rfl) pa_nil))))
        (pss_one (ps_ret (pe_and (pe_callB call_isi rfl T.n_isinstance (by decide +kernel) (pa_cons (pv 0) (pa_cons (pe_bltn (v := V.ty "str") (u := Value.type "str") rfl T.n_str (by decide +kernel) rfl) pa_nil))) (pe_one (pe_cmpR (op_eqD hr.units) (pv 0) (pv 1) (nomark _))))))
        pss_nil)
      (pss_one (ps_ret (pe_and (pe_callB call_isi rfl T.n_isinstance (by decide +kernel) (pa_cons (pv 0) (pa_cons (pe_bltn (v := V.ty "int") (u := Value.type "int") rfl T.n_int (by decide +kernel) rfl) pa_nil))) (pe_and (pe_not (pe_callB call_isi rfl T.n_isinstance (by decide +kernel) (pa_cons (pv 0) (pa_cons (pe_bltn (v := V.ty "bool") (u := Value.type "bool") rfl T.n_bool (by decide +kernel) rfl) pa_nil)))) (pe_one (pe_cmpR (op_eqD hr.units) (pv 0) (pv 1) (nomark _))))))))))), fun ds d hR => ?_⟩)
    · obtain ⟨a, b, rfl, _⟩ := h
      rfl
    · obtain ⟨a, b, rfl, hb, ha, rfl⟩ := hR
      walk_at "kk"
      cases b with
      | none =>
        refine r_seq (r_if (b := false) (eb_orF (tI_tup (ev_var rfl) rfl) (tI_lst (ev_var rfl) rfl)) (fun c => nomatch c) (fun _ => r_next ?_))
        refine r_seq (r_if (b := true) (tI_non (ev_var rfl) rfl) (fun _ => ?_) (fun c => nomatch c))
        refine r_ret (ev_op (ev_var rfl) ev_non rv_isN) ?_
        cases a <;> simp [isNon, eqS]
      | bool b =>
        refine r_seq (r_if (b := false) (eb_orF (tI_tup (ev_var rfl) rfl) (tI_lst (ev_var rfl) rfl)) (fun c => nomatch c) (fun _ => r_next ?_))
        refine r_seq (r_if (b := false) (tI_non (ev_var rfl) rfl) (fun c => nomatch c) (fun _ => r_next ?_))
        refine r_seq (r_if (b := true) (tI_bool (ev_var rfl) rfl) (fun _ => ?_) (fun c => nomatch c))
        refine r_ret (ev_and (a := isiBool a) (b := eqS a (.bool b)) (by walk_at "ev") (fun q => ?_)) ?_
        · obtain ⟨c, rfl⟩ : ∃ c, a = .bool c := by cases a <;> first | exact ⟨_, rfl⟩ | cases q
          refine ev_is (ev_op (ev_var rfl) (ev_var rfl) (rv_eq sh_bool sh_bool)) ?_
          cases c <;> cases b <;> rfl
        · cases a <;> simp [isiBool, eqS]
      | int i =>
        refine r_seq (r_if (b := false) (eb_orF (tI_tup (ev_var rfl) rfl) (tI_lst (ev_var rfl) rfl)) (fun c => nomatch c) (fun _ => r_next ?_))
        refine r_seq (r_if (b := false) (tI_non (ev_var rfl) rfl) (fun c => nomatch c) (fun _ => r_next ?_))
        refine r_seq (r_if (b := false) (tI_bool (ev_var rfl) rfl) (fun c => nomatch c) (fun _ => r_next ?_))
        refine r_seq (r_if (b := false) (tI_str (ev_var rfl) rfl) (fun c => nomatch c) (fun _ => r_next ?_))
        refine r_ret (ev_and (a := isiInt a) (b := !isiBool a && eqS a (.int i)) (by walk_at "ev") (fun q => ev_and (a := !isiBool a) (b := eqS a (.int i)) (by walk_at "ev") (fun q2 => ?_))) ?_
        · obtain ⟨c, rfl⟩ : ∃ c, a = .int c := by cases a <;> first | exact ⟨_, rfl⟩ | (simp [isiInt] at q; done) | (simp [isiBool] at q2; done)
          exact ev_is (ev_op (ev_var rfl) (ev_var rfl) (rv_eq sh_int sh_int)) (by rw [eqv_int]; simp [eqS])
        · cases a <;> simp [isiInt, isiBool, eqS]
      | str x => exact hb.elim
      | dict x => exact hb.elim
      | tuple ds =>
        obtain ⟨hl, hx⟩ := hb
        refine r_seq (r_if (b := true) (eb_orT (tI_tup (ev_var rfl) rfl)) (fun _ => ?_) (fun c => nomatch c))
        by_cases hq : ∃ es, a = .tuple es
        · obtain ⟨es, rfl⟩ := hq
          refine r_seq (r_if (b := false) (eb_orF (tI_neT (ev_var rfl) (ev_var rfl) rfl) (tI_neL (ev_var rfl) (ev_var rfl) rfl)) (fun c => nomatch c) (fun _ => r_next ?_))
          have hce : PyData.canLayAll0 es = true := by simpa [PyData.canLay0] using ha
          refine r_ret (ev_and (a := PyData.eqv (.int (es.length : Nat)) (.int (ds.length : Nat))) (b := ((List.range ds.length).map fun k => eqS (nthD es k) (nthD ds k)).all id) (by walk_at "ev") (fun q => ?_)) ?_
          · rw [eqv_int, decide_eq_true_eq] at q
            refine ev_cb (ds := [.list (((List.range ds.length).map fun k => eqS (nthD es k) (nthD ds k)).map PyData.bool)]) (ea_cons (ev_lc1 _ (ei_R1 (ea_cons (ev_cb (ea_cons (ev_var rfl) ea_nil) rc_lenT) ea_nil) (by omega)) (by omega) (by rw [List.length_map, List.length_map, List.length_range]) (fun _ _ _ e => nomatch e) (fun i hi => ?_)) ea_nil) rc_all
            rw [List.map_map, nthD_ofFn hi]
            refine ev_call (ea_cons (ev_op (ev_var rfl) (ev_var rfl) (rv_ixT (atI_natD (by omega)))) (ea_cons (ev_op (ev_var rfl) (ev_var rfl) (rv_ixT (atI_natD hi))) ea_nil)) ⟨_, _, rfl, hx _ (nthD_in hi), canLay_mem hce (by omega), rfl⟩
          · rw [eqv_int]
            show PyData.bool _ = .bool (eqSAll es ds)
            rw [eqSAll_eq]
        · have e : isiTup a = false := by cases a <;> first | rfl | exact absurd ⟨_, rfl⟩ hq
          have e2 : eqS a (.tuple ds) = false := by cases a <;> first | rfl | exact absurd ⟨_, rfl⟩ hq | simp [eqS]
          refine r_seq (r_if (b := true) (eb_orT (tI_neT (ev_var rfl) (ev_var rfl) (by rw [e]; rfl))) (fun _ => ?_) (fun c => nomatch c))
          refine r_ret ev_bl ?_
          rw [e2]
      | list ds =>
        obtain ⟨hl, hx⟩ := hb
        refine r_seq (r_if (b := true) (eb_orF (tI_tup (ev_var rfl) rfl) (tI_lst (ev_var rfl) rfl)) (fun _ => ?_) (fun c => nomatch c))
        by_cases hq : ∃ es, a = .list es
        · obtain ⟨es, rfl⟩ := hq
          refine r_seq (r_if (b := false) (eb_orF (tI_neT (ev_var rfl) (ev_var rfl) rfl) (tI_neL (ev_var rfl) (ev_var rfl) rfl)) (fun c => nomatch c) (fun _ => r_next ?_))
          have hce : PyData.canLayAll0 es = true := by simpa [PyData.canLay0] using ha
          refine r_ret (ev_and (a := PyData.eqv (.int (es.length : Nat)) (.int (ds.length : Nat))) (b := ((List.range ds.length).map fun k => eqS (nthD es k) (nthD ds k)).all id) (by walk_at "ev") (fun q => ?_)) ?_
          · rw [eqv_int, decide_eq_true_eq] at q
            refine ev_cb (ds := [.list (((List.range ds.length).map fun k => eqS (nthD es k) (nthD ds k)).map PyData.bool)]) (ea_cons (ev_lc1 _ (ei_R1 (ea_cons (ev_cb (ea_cons (ev_var rfl) ea_nil) rc_lenL) ea_nil) (by omega)) (by omega) (by rw [List.length_map, List.length_map, List.length_range]) (fun _ _ _ e => nomatch e) (fun i hi => ?_)) ea_nil) rc_all
            rw [List.map_map, nthD_ofFn hi]
            refine ev_call (ea_cons (ev_op (ev_var rfl) (ev_var rfl) (rv_ixL (atI_natD (by omega)))) (ea_cons (ev_op (ev_var rfl) (ev_var rfl) (rv_ixL (atI_natD hi))) ea_nil)) ⟨_, _, rfl, hx _ (nthD_in hi), canLay_mem hce (by omega), rfl⟩
          · rw [eqv_int]
            show PyData.bool _ = .bool (eqSAll es ds)
            rw [eqSAll_eq]
        · have e0 : isiTup a = true ∨ (isiTup a = false ∧ isiLst a = false) := by
            cases a <;> first | exact .inl rfl | exact .inr ⟨rfl, rfl⟩ | exact absurd ⟨_, rfl⟩ hq | (simp [PyData.canLay0] at ha)
          have e2 : eqS a (.list ds) = false := by cases a <;> first | rfl | exact absurd ⟨_, rfl⟩ hq | simp [eqS]
          refine r_seq (r_if (b := true) (by
            rcases e0 with e | ⟨e, e'⟩
            · exact eb_orT (tI_neT (ev_var rfl) (ev_var rfl) (by rw [e]; rfl))
            · exact eb_orF (tI_neT (ev_var rfl) (ev_var rfl) (by rw [e]; rfl)) (tI_neL (ev_var rfl) (ev_var rfl) (by rw [e']; rfl))) (fun _ => ?_) (fun c => nomatch c))
          refine r_ret ev_bl ?_
          rw [e2]
end
end C56
end Part14

section Part15
set_option Elab.async false
set_option linter.all false
set_option maxRecDepth 100000
set_option maxHeartbeats 4000000
open PySem PySem.Spec PyProof.Rows L2 DL
open Evl (Ex)
/-! ### my words for the walk: expressions, arguments, operators, tests -/
local macro_rules | `(tactic| walk_at "len") => `(tactic| first
  | exact DL.len0
  | exact DL.len1
  | exact DL.len2
  | exact DL.len3
  | exact DL.len4
  | exact DL.len5
  | exact DL.len6
  | exact DL.len7
  | exact DL.len8
  | exact DL.len9
  | exact DL.len10
  | exact DL.len11
  | exact DL.len12
  | exact DL.len13
  | exact DL.len14
  | exact DL.len15
  | exact DL.len16
  | exact DL.len17
  | exact DL.len18
  | exact DL.len19
  | exact DL.len20)
local macro_rules | `(tactic| walk_at "sh") => `(tactic| first
  | exact DL.sh_int
  | exact DL.sh_none
  | exact DL.sh_bool
  | exact DL.sh_dq
  | exact DL.sh_dr
  | exact DL.sh_nil
  | assumption
  | rfl)
local macro_rules | `(tactic| walk_at "sc") => `(tactic| first
  | fail "side")
local macro_rules | `(tactic| walk_at "side") => `(tactic| first
  | assumption
  | rfl
  | (walk_at "sc"; done)
  | (trace "SIDE"; trace_state; fail "side"))
local macro_rules | `(tactic| walk_at "at") => `(tactic| first
  | exact rfl
  | (walk_at "side"))
local macro_rules | `(tactic| walk_at "rv") => `(tactic| first
  | (with_reducible exact rv_add)
  | (with_reducible exact rv_sub)
  | (with_reducible exact rv_lt)
  | (with_reducible exact rv_le)
  | (with_reducible exact rv_gt)
  | (with_reducible exact rv_ge)
  | (with_reducible exact rv_isN)
  | (with_reducible exact rv_notN)
  | (with_reducible exact rv_isB)
  | (with_reducible exact rv_notB)
  | ((with_reducible refine' rv_ixT ?x1); (case' x1 => walk_at "at"))
  | ((with_reducible refine' rv_ixL ?x1); (case' x1 => walk_at "at"))
  | ((with_reducible refine' rv_mul ?x1); (case' x1 => walk_at "side"))
  | ((with_reducible refine' rv_fd ?x1); (case' x1 => walk_at "side"))
  | ((with_reducible refine' rv_mod ?x1); (case' x1 => first | assumption | decide | omega))
  | ((with_reducible refine' rv_pow ?x1); (case' x1 => first | decide | walk_at "side"))
  | ((with_reducible refine' rv_shl ?x1); (case' x1 => first | decide | walk_at "side"))
  | ((with_reducible refine' rv_eq ?x1 ?x2); (case' x1 => walk_at "sh"); (case' x2 => walk_at "sh"))
  | ((with_reducible refine' rv_ne ?x1 ?x2); (case' x1 => walk_at "sh"); (case' x2 => walk_at "sh"))
  | ((with_reducible refine' rv_catT ?x1); (case' x1 => walk_at "side"))
  | ((with_reducible refine' rv_catL ?x1); (case' x1 => walk_at "side"))
  | ((with_reducible refine' rv_rep ?x1 ?x2); (case' x1 => walk_at "side"); (case' x2 => walk_at "side"))
  | (trace "RV"; trace_state; fail "rv"))
local macro_rules | `(tactic| walk_at "rc") => `(tactic| first
  | (with_reducible exact rc_lenT)
  | (with_reducible exact rc_lenL)
  | (with_reducible exact rc_gcd)
  | (with_reducible exact rc_abs)
  | (with_reducible exact rc_min)
  | (with_reducible exact rc_max)
  | (with_reducible exact rc_intI)
  | (with_reducible exact rc_intB)
  | (with_reducible exact rc_tupL)
  | (with_reducible exact rc_tupT)
  | (with_reducible exact rc_lstT)
  | (with_reducible exact rc_lstL)
  | (with_reducible exact rc_all)
  | (with_reducible exact rc_any))
local macro_rules | `(tactic| walk_at "rt") => `(tactic| first
  | fail "no promise")
local macro_rules | `(tactic| walk_at "ea") => `(tactic| first
  | exact ea_nil
  | exact ea_cons (by walk_at "ev") (by walk_at "ea"))
local macro_rules | `(tactic| walk_at "ev") => `(tactic| first
  | exact ev_var rfl
  | exact ev_int
  | exact ev_bl
  | exact ev_non
  | exact ev_str
  | exact ev_lenO rfl
  | exact ev_tupO rfl
  | ((with_reducible refine' ev_ixO ?x0 ?x1 ?x2 ?x3); (case' x0 => exact rfl); (case' x1 => walk_at "ev"); (case' x2 => exact rfl); (case' x3 => walk_at "at"))
  | ((with_reducible refine' ev_op ?x1 ?x2 ?x3); (case' x1 => walk_at "ev"); (case' x2 => walk_at "ev"); (case' x3 => walk_at "rv"))
  | ((with_reducible refine' ev_call ?x1 ?x2); (case' x1 => walk_at "ea"); (case' x2 => walk_at "rt"))
  | ((with_reducible refine' ev_isiInt ?x1); (case' x1 => walk_at "ev"))
  | ((with_reducible refine' ev_isiBool ?x1); (case' x1 => walk_at "ev"))
  | ((with_reducible refine' ev_isiTup ?x1); (case' x1 => walk_at "ev"))
  | ((with_reducible refine' ev_isiLst ?x1); (case' x1 => walk_at "ev"))
  | ((with_reducible refine' ev_isiStr ?x1); (case' x1 => walk_at "ev"))
  | ((with_reducible refine' ev_neg ?x1); (case' x1 => walk_at "ev"))
  | ((with_reducible refine' ev_not ?x1); (case' x1 => walk_at "ev"))
  | ((with_reducible refine' ev_revT ?x1); (case' x1 => walk_at "ev"))
  | ((with_reducible refine' ev_revL ?x1); (case' x1 => walk_at "ev"))
  | ((with_reducible refine' ev_cb ?x1 ?x2); (case' x1 => walk_at "ea"); (case' x2 => walk_at "rc"))
  | ((with_reducible refine' ev_tup ?x1 ?x2); (case' x1 => walk_at "ea"); (case' x2 => walk_at "len"))
  | ((with_reducible refine' ev_lst ?x1 ?x2); (case' x1 => walk_at "ea"); (case' x2 => walk_at "len"))
  | ((with_reducible refine' ev_and ?x1 ?x2); (case' x1 => walk_at "ev"); (case' x2 => (intro _; walk_at "ev")))
  | ((with_reducible refine' ev_or ?x1 ?x2); (case' x1 => walk_at "ev"); (case' x2 => (intro _; walk_at "ev")))
  | ((with_reducible refine' ev_slT ?x1 ?x2 ?x3); (case' x1 => walk_at "ev"); (case' x2 => walk_at "eo"); (case' x3 => walk_at "eo"))
  | ((with_reducible refine' ev_slL ?x1 ?x2 ?x3); (case' x1 => walk_at "ev"); (case' x2 => walk_at "eo"); (case' x3 => walk_at "eo"))
  | (trace "EV"; trace_state; fail "ev"))
local macro_rules | `(tactic| walk_at "eo") => `(tactic| first
  | exact eo_none
  | exact eo_some (by walk_at "ev"))
local macro_rules | `(tactic| walk_at "eb") => `(tactic| first
  | ((with_reducible refine' eb_and ?x1 ?x2); (case' x1 => walk_at "eb"); (case' x2 => (intro _; walk_at "eb")))
  | ((with_reducible refine' eb_or ?x1 ?x2); (case' x1 => walk_at "eb"); (case' x2 => (intro _; walk_at "eb")))
  | ((with_reducible refine' eb_not ?x1); (case' x1 => walk_at "eb"))
  | ((with_reducible refine' eb_val ?x1); (case' x1 => walk_at "ev"))
  | ((with_reducible refine' eb_test ?x1); (case' x1 => walk_at "ev")))
local macro_rules | `(tactic| walk_at "ret") => `(tactic| (refine' r_ret ?y1 ?y2; (case' y1 => walk_at "ev"); (case' y2 => try (first | rfl | skip))))
local macro_rules | `(tactic| walk_at "asg") => `(tactic| (refine' r_asg ?y1 ?y2; (case' y1 => walk_at "ev")))
local macro_rules | `(tactic| walk_at "if") => `(tactic| (refine' r_if ?y1 ?y2 ?y3; (case' y1 => walk_at "eb")))
local macro_rules | `(tactic| walk_at "par") => `(tactic| (refine' r_par ?y1 ?y2; (case' y1 => walk_at "ea")))
local macro_rules | `(tactic| walk_at "kk") => `(tactic| dsimp only [cxOf, Cx.nox, Cx.wish, Cx.blk, slots, List.map, List.length, List.replicate, List.append, Nat.sub, Nat.add, List.cons_append, List.nil_append, Nat.reduceAdd, Nat.reduceSub, List.replicate_succ, List.replicate_zero])

namespace C56
section
variable {P : Program} {w : World} {K : PySem.W.Frag} {mg : Str → Option Value} {base : Heap} {aN aO : Addr}
/-! ### the store of a cell -/
def cellF (xs : List Int) (a : Nat) : Int := if a < xs.length then ((xs.getD a 0).natAbs : Int) else 17 * a + 6
def jarF (xs : List Int) (a : Nat) : J :=
  let c := (cellF xs a).fmod (10 ^ 64 * 10 ^ 64 * 10 ^ 64 * 10 ^ 64)
  ⟨c, if decide (10 ^ 18 ≤ c) then 1 else 0, 7 * a, 2⟩
theorem jarF_ok {xs : List Int} {a : Nat} (h : a ≤ 1000) : OkJ 7000 (jarF xs a) := by
  have h1 : (0 : Int) < 10 ^ 64 * 10 ^ 64 * 10 ^ 64 * 10 ^ 64 := by decide
  refine ⟨Int.fmod_nonneg_of_pos _ h1, Int.lt_trans (Int.fmod_lt_of_pos _ h1) (by decide +kernel), ?_, ?_⟩
  · show (0 : Int) ≤ 7 * a
    omega
  · show (7 : Int) * a ≤ ((7000 : Nat) : Int)
    omega
def R_jar (ds es : List PyData) : Prop := ∃ (xs : List Int) (a : Nat), ds = [scrD (xs.map PyData.int), .int (a : Nat)] ∧ a ≤ 1000 ∧ es = (jarF xs a).d
theorem ok_law_jar (T : Tx K mg aN aO) {f : Addr} {fd : FuncData} (F : Fun K "_law_jar" "_law_jar" s__law_jar f fd) : FnOk P w K mg base CX0 1 f fd ["script", "at"] (spN K R_jar) := by
  refine fn_N F sc__law_jar (by decide) (fun ds es h => ?_) (fun cdv A outer s H E hr => ⟨_, (pss_cons (ps_set (i := 2) sc__law_jar.nd rfl (by first | exact Or.inl rfl | exact Or.inr rfl) (pe_ifExp (pt_cmpR op_lt (pv 1) (pe_callB call_lenX rfl T.n_len PySem.boot_len (pa_cons (pv 0) pa_nil)) (nomark _)) (pe_callTy call_intX rfl T.n_int (by decide +kernel) (pa_cons (pe_callB call_absX rfl T.n_abs (by decide +kernel) (pa_cons (pe_ix ix_seq (pv 0) (pv 1) (fun _ _ => rfl)) pa_nil)) pa_nil)) (pe_op op_plus (pe_op op_mulX pe_int (pv 1)) pe_int)))
      (pss_cons (ps_set (i := 2) sc__law_jar.nd rfl (by first | exact Or.inl rfl | exact Or.inr rfl) (pe_op op_modN (pe_callTy call_intX rfl T.n_int (by decide +kernel) (pa_cons (pv 2) pa_nil)) (pe_op op_mulX (pe_op op_mulX (pe_op op_mulX (pe_op op_pow pe_int pe_int) (pe_op op_pow pe_int pe_int)) (pe_op op_pow pe_int pe_int)) (pe_op op_pow pe_int pe_int))))
      (pss_one (ps_ret (pe_lst (pa_cons (pv 2) (pa_cons (pe_callTy call_intX rfl T.n_int (by decide +kernel) (pa_cons (pe_cmpR op_ge (pv 2) (pe_op op_pow pe_int pe_int) (nomark _)) pa_nil)) (pa_cons (pe_op op_mulX pe_int (pv 1)) (pa_cons pe_int pa_nil))))))))), fun ds es hR => ?_⟩)
  · obtain ⟨xs, a, rfl, _⟩ := h
    rfl
  · obtain ⟨xs, a, rfl, ha, rfl⟩ := hR
    walk_at "kk"
    rw [show (jarF xs a).d = [.int ((cellF xs a).fmod (10 ^ 64 * 10 ^ 64 * 10 ^ 64 * 10 ^ 64)), .int (if decide (10 ^ 18 ≤ (cellF xs a).fmod (10 ^ 64 * 10 ^ 64 * 10 ^ 64 * 10 ^ 64)) = true then 1 else 0), .int (7 * a), .int 2] from rfl]
    have f1 : CMulW 17 (a : Nat) := mulW_of (n := 10) (m := 30) (by decide) (by omega) (by decide)
    refine t_asg (d := .int (cellF xs a)) (Γ1 := [.dat (scrD (xs.map PyData.int)), .dat (.int (a : Nat)), .un]) (ev_if (b := decide ((a : Int) < ((xs.map PyData.int).length : Nat))) (eb_test (ev_op (ev_var rfl) (ev_cb (ea_cons (ev_var rfl) ea_nil) rc_lenS) rv_lt)) (fun q => ?_) (fun q => ?_)) ?_
    · rw [decide_eq_true_eq, List.length_map] at q
      have q' : a < xs.length := by omega
      have e : atI (xs.map PyData.int) ((a : Nat) : Int) = some (.int (xs.getD a 0)) := by
        refine L2.atI_nat ?_
        rw [List.getElem?_map, List.getD_eq_getElem?_getD, List.getElem?_eq_getElem q']
        rfl
      refine ev_is (ev_cb (ea_cons (ev_cb (ea_cons (ev_op (ev_var rfl) (ev_var rfl) (rv_ixS e)) ea_nil) rc_abs) ea_nil) rc_intI) ?_
      unfold cellF
      rw [if_pos q']
    · rw [decide_eq_false_iff_not, List.length_map] at q
      have q' : ¬ a < xs.length := by omega
      refine ev_is (ev_op (ev_op ev_int (ev_var rfl) (rv_mul f1)) ev_int rv_add) ?_
      unfold cellF
      rw [if_neg q']
    show RunT K _ [.dat (scrD (xs.map PyData.int)), .dat (.int (a : Nat)), .dat (.int (cellF xs a))] _
    generalize cellF xs a = c0 at *
    have p1 : CPow 10 64 := ⟨by decide, by decide, by decide⟩
    have p2 : CPow 10 18 := ⟨by decide, by decide, by decide⟩
    have m1 : CMulW (10 ^ 64) (10 ^ 64) := mulW_of (n := 214) (m := 214) (by decide +kernel) (by decide +kernel) (by decide)
    have m2 : CMulW (10 ^ 64 * 10 ^ 64) (10 ^ 64) := mulW_of (n := 428) (m := 214) (by decide +kernel) (by decide +kernel) (by decide)
    have m3 : CMulW (10 ^ 64 * 10 ^ 64 * 10 ^ 64) (10 ^ 64) := mulW_of (n := 642) (m := 214) (by decide +kernel) (by decide +kernel) (by decide)
    have n0 : (10 ^ 64 * 10 ^ 64 * 10 ^ 64 * 10 ^ 64 : Int) ≠ 0 := by decide
    have f7 : CMulW 7 (a : Nat) := mulW_of (n := 10) (m := 30) (by decide) (by omega) (by decide)
    have e64 : EvX K (tOp (rI CPow fun i j => .int (i ^ j.toNat)) (tC (V.int 10)) (tC (V.int 64))) [.dat (scrD (xs.map PyData.int)), .dat (.int (a : Nat)), .dat (.int c0)] (.int (10 ^ 64)) [.dat (scrD (xs.map PyData.int)), .dat (.int (a : Nat)), .dat (.int c0)] := ev_op ev_int ev_int (rv_pow p1)
    refine t_asg (ev_op (ev_cb (ea_cons (ev_var rfl) ea_nil) rc_intI) (ev_op (ev_op (ev_op e64 e64 (rv_mul m1)) e64 (rv_mul m2)) e64 (rv_mul m3)) (rv_mod n0)) ?_
    show RunT K _ [.dat (scrD (xs.map PyData.int)), .dat (.int (a : Nat)), .dat (.int (c0.fmod (10 ^ 64 * 10 ^ 64 * 10 ^ 64 * 10 ^ 64)))] _
    generalize c0.fmod (10 ^ 64 * 10 ^ 64 * 10 ^ 64 * 10 ^ 64) = c at *
    exact t_ret (en_lst (ea_cons (ev_var rfl) (ea_cons (ev_cb (ea_cons (ev_op (ev_var rfl) (ev_op ev_int ev_int (rv_pow p2)) rv_ge) ea_nil) rc_intB) (ea_cons (ev_op ev_int (ev_var rfl) (rv_mul f7)) (ea_cons ev_int ea_nil)))) len4)
/-! ### any value -/
def oddL : List PyData := [.none, .bool true, .bool false, .int (-1), .int 0, .int 7, .str "", .str "a", .str "0", .tuple [], .list [], .tuple [.int 0], .list [.int 0], .tuple [.tuple []], .tuple [.int 0, .int 1], .tuple [.bool true, .int 1], .int (10 ^ 39)]
def R_odd (js ds : List PyData) (d : PyData) (js' : List PyData) : Prop := ∃ j, js = j.d ∧ ds = [] ∧ OkJ 100000 j ∧ d = nthD oddL (nx j 17).1.toNat ∧ js' = (nx j 17).2.d
theorem ok_law_odd (T : Tx K mg aN aO) {f f1 : Addr} {fd fd1 : FuncData} (F : Fun K "_law_odd" "_law_odd" s__law_odd f fd) (c__law_pick : Cal P w K mg base "_law_pick" 2 ["jar", "rows"] (spJ K R_pick) f1 fd1) : FnOk P w K mg base CX0 3 f fd ["jar"] (spJ K R_odd) := by
  refine fn_J F sc__law_odd (by decide) (fun js ds d js' h => ?_) (fun cdv A outer s H E hr => ⟨_, (pss_one (ps_ret (pe_cal c__law_pick hr (by first | decide | exact Nat.le_refl _ | omega) rfl (pa_cons (pv 0) (pa_cons (pe_lst (pa_cons pe_non (pa_cons pe_bl (pa_cons pe_bl (pa_cons (pe_un un_neg pe_int) (pa_cons pe_int (pa_cons pe_int (pa_cons pe_str (pa_cons pe_str (pa_cons pe_str (pa_cons (pe_tup pa_nil) (pa_cons (pe_lst pa_nil) (pa_cons (pe_tup (pa_cons pe_int pa_nil)) (pa_cons (pe_lst (pa_cons pe_int pa_nil)) (pa_cons (pe_tup (pa_cons (pe_tup pa_nil) pa_nil)) (pa_cons (pe_tup (pa_cons pe_int (pa_cons pe_int pa_nil))) (pa_cons (pe_tup (pa_cons pe_bl (pa_cons pe_int pa_nil))) (pa_cons (pe_op op_pow pe_int pe_int) pa_nil)))))))))))))))))) pa_nil))))), fun js ds d js' p hR => ?_⟩)
  · obtain ⟨j, _, rfl, _⟩ := h
    rfl
  · obtain ⟨j, rfl, rfl, ok, rfl, rfl⟩ := hR
    walk_at "kk"
    have p1 : CPow 10 39 := ⟨by decide, by decide, by decide⟩
    exact r_ret (ev_callJ (n := 0) (js' := (nx j 17).2.d) rfl (ea_cons (d := .list oddL) (ev_lst (ds := oddL) (ea_cons ev_non (ea_cons ev_bl (ea_cons ev_bl (ea_cons (ev_neg ev_int) (ea_cons ev_int (ea_cons ev_int (ea_cons ev_str (ea_cons ev_str (ea_cons ev_str (ea_cons (ev_tup ea_nil len0) (ea_cons (ev_lst ea_nil len0) (ea_cons (ev_tup (ea_cons ev_int ea_nil) len1) (ea_cons (ev_lst (ea_cons ev_int ea_nil) len1) (ea_cons (ev_tup (ea_cons (ev_tup ea_nil len0) ea_nil) len1) (ea_cons (ev_tup (ea_cons ev_int (ea_cons ev_int ea_nil)) len2) (ea_cons (ev_tup (ea_cons ev_bl (ea_cons ev_int ea_nil)) len2) (ea_cons (ev_op ev_int ev_int (rv_pow p1)) ea_nil))))))))))))))))) len17) ea_nil) rfl ⟨j, oddL, rfl, rfl, ok, by decide, by decide, rfl, rfl⟩) ⟨rfl, rfl⟩
/-! ### numbers -/
def qm12 : Rat := { num := 1, den := 2, den_nz := by decide, reduced := by decide }
def qn13 : Rat := { num := -1, den := 3, den_nz := by decide, reduced := by decide }
def numL : List Rat := [0, 1, 0, -1, 2, qm12, 3, -2, qn13]
def pickQ (l : List Rat) (j : J) : Rat × J := (l.getD (nx j (l.length : Nat)).1.toNat 0, (nx j (l.length : Nat)).2)
def numF (j : J) : Rat × J :=
  if 0 < j.t then
    (if (nx j 13).1 = 0 then
      let j2 : J := ⟨(nx j 13).2.c, (nx j 13).2.f, (nx j 13).2.k, (nx j 13).2.t - 1⟩
      (Rat.divInt ((nx j2 20001).1 - 10000) (1 + (nx (nx j2 20001).2 99).1), (nx (nx j2 20001).2 99).2)
    else pickQ numL (nx j 13).2)
  else pickQ numL j
theorem nthD_mapQ {l : List Rat} {i : Nat} (h : i < l.length) : nthD (l.map dq) i = dq (l.getD i 0) := by
  rw [nthD_map h, List.getD_eq_getElem?_getD, List.getElem?_eq_getElem h]
  rfl
theorem OkJ.mono {n m : Nat} {j : J} (h : OkJ n j) (hn : n ≤ m) : OkJ m j := ⟨h.c0, h.c1, h.k0, by have := h.k1; omega⟩
/-- a pick of fractions -/
theorem R_pickQ {l : List Rat} {j : J} {n : Nat} (h : OkJ n j) (hn : n ≤ 100000) (h0 : 0 < l.length) (h1 : l.length ≤ 1000000) : R_pick j.d [.list (l.map dq)] (dq (pickQ l j).1) (pickQ l j).2.d := by
  have hl := nx_lt (j := j) (m := (l.length : Nat)) (by omega)
  refine ⟨j, _, rfl, rfl, h.mono hn, by rw [List.length_map]; exact h0, by rw [List.length_map]; exact h1, ?_, ?_⟩
  · rw [List.length_map, nthD_mapQ (by omega)]
    rfl
  · rw [List.length_map]
    rfl
theorem ev_dq {Γ : List Slot} {n d : Int} {q : Rat} (h1 : q.num = n) (h2 : (q.den : Int) = d) : EvX K (tTup (tCons (tC (V.int n)) (tCons (tC (V.int d)) tNil))) Γ (dq q) Γ := by
  subst h1 h2
  exact ev_tup (ea_cons ev_int (ea_cons ev_int ea_nil)) len2
theorem ev_dqn {Γ : List Slot} {n d : Int} {q : Rat} (h1 : q.num = -n) (h2 : (q.den : Int) = d) : EvX K (tTup (tCons (tUn (rU fun i => .int (-i)) (tC (V.int n))) (tCons (tC (V.int d)) tNil))) Γ (dq q) Γ := by
  subst h2
  refine ev_is (ev_tup (ea_cons (ev_neg ev_int) (ea_cons ev_int ea_nil)) len2) ?_
  rw [← h1]
def R_number (js ds : List PyData) (d : PyData) (js' : List PyData) : Prop := ∃ j, js = j.d ∧ ds = [] ∧ OkJ 90000 j ∧ d = dq (numF j).1 ∧ js' = (numF j).2.d
theorem pylong_small {t b : Int} (hb : b ≠ 0) (h : b.natAbs < 2 ^ 100) : LowOk t b := low_of_bottom (n := 100) hb h (by decide)
theorem ok_law_number (T : Tx K mg aN aO) {f f1 f2 f3 : Addr} {fd fd1 fd2 fd3 : FuncData} (F : Fun K "_law_number" "_law_number" s__law_number f fd) (c__law_pick : Cal P w K mg base "_law_pick" 2 ["jar", "rows"] (spJ K R_pick) f1 fd1)
    (c__law_next : Cal P w K mg base "_law_next" 1 ["jar", "many"] (spJ K R_nx) f2 fd2) (c__law_frac : Cal P w K mg base "_law_frac" 1 ["top", "bottom"] (spD K R_lowest_in) f3 fd3) : FnOk P w K mg base CX0 3 f fd ["jar"] (spJ K R_number) := by
  refine fn_J F sc__law_number (by decide) (fun js ds d js' h => ?_) (fun cdv A outer s H E hr => ⟨_, (pss_cons (ps_if (PW.pt (pw_and (pt_cmpR op_gt (pe_ix ix_seq (pv 0) pe_int (fun _ _ => rfl)) pe_int (nomark _)) (pw_and1 (pt_cmpR (op_eqD hr.units) (pe_cal c__law_next hr (by first | decide | exact Nat.le_refl _ | omega) rfl (pa_cons (pv 0) (pa_cons pe_int pa_nil))) pe_int (nomark _)))))
        (pss_cons (ps_asg (pe_op op_sub (pe_ix ix_seq (pv 0) pe_int (fun _ _ => rfl)) pe_int) (pg_sub (pv 0) pe_int set_list))
      (pss_one (ps_ret (pe_cal c__law_frac hr (by first | decide | exact Nat.le_refl _ | omega) rfl (pa_cons (pe_op op_sub (pe_cal c__law_next hr (by first | decide | exact Nat.le_refl _ | omega) rfl (pa_cons (pv 0) (pa_cons pe_int pa_nil))) pe_int) (pa_cons (pe_op op_plus pe_int (pe_cal c__law_next hr (by first | decide | exact Nat.le_refl _ | omega) rfl (pa_cons (pv 0) (pa_cons pe_int pa_nil)))) pa_nil))))))
        pss_nil)
      (pss_one (ps_ret (pe_cal c__law_pick hr (by first | decide | exact Nat.le_refl _ | omega) rfl (pa_cons (pv 0) (pa_cons (pe_lst (pa_cons (pe_tup (pa_cons pe_int (pa_cons pe_int pa_nil))) (pa_cons (pe_tup (pa_cons pe_int (pa_cons pe_int pa_nil))) (pa_cons (pe_tup (pa_cons pe_int (pa_cons pe_int pa_nil))) (pa_cons (pe_tup (pa_cons (pe_un un_neg pe_int) (pa_cons pe_int pa_nil))) (pa_cons (pe_tup (pa_cons pe_int (pa_cons pe_int pa_nil))) (pa_cons (pe_tup (pa_cons pe_int (pa_cons pe_int pa_nil))) (pa_cons (pe_tup (pa_cons pe_int (pa_cons pe_int pa_nil))) (pa_cons (pe_tup (pa_cons (pe_un un_neg pe_int) (pa_cons pe_int pa_nil))) (pa_cons (pe_tup (pa_cons (pe_un un_neg pe_int) (pa_cons pe_int pa_nil))) pa_nil)))))))))) pa_nil)))))), fun js ds d js' p hR => ?_⟩)
  · obtain ⟨j, _, rfl, _⟩ := h
    rfl
  · obtain ⟨j, rfl, rfl, ok, rfl, rfl⟩ := hR
    walk_at "kk"
    have pk : ∀ (j' : J) (R : PyData → List Slot → Prop), OkJ 95000 j' → (numF j) = pickQ numL j' → RunS K (tRet (tCall (spJ K R_pick) [] E0 (tCons (tVar 0) (tCons (tLst (tCons (tTup (tCons (tC (V.int 0)) (tCons (tC (V.int 1)) tNil))) (tCons (tTup (tCons (tC (V.int 1)) (tCons (tC (V.int 1)) tNil))) (tCons (tTup (tCons (tC (V.int 0)) (tCons (tC (V.int 1)) tNil))) (tCons (tTup (tCons (tUn (rU fun i => .int (-i)) (tC (V.int 1))) (tCons (tC (V.int 1)) tNil))) (tCons (tTup (tCons (tC (V.int 2)) (tCons (tC (V.int 1)) tNil)))
        (tCons (tTup (tCons (tC (V.int 1)) (tCons (tC (V.int 2)) tNil))) (tCons (tTup (tCons (tC (V.int 3)) (tCons (tC (V.int 1)) tNil))) (tCons (tTup (tCons (tUn (rU fun i => .int (-i)) (tC (V.int 2))) (tCons (tC (V.int 1)) tNil))) (tCons (tTup (tCons (tUn (rU fun i => .int (-i)) (tC (V.int 1))) (tCons (tC (V.int 3)) tNil))) tNil)))))))))) tNil)))) [.own false p j'.d]
        ⟨fun Γ' => dq (numF j).1 = .none ∧ Γ'[0]? = some (.own false p (numF j).2.d), fun d' Γ' => d' = dq (numF j).1 ∧ Γ'[0]? = some (.own false p (numF j).2.d), fun _ => False, fun _ => False⟩ := fun j' _ ok' e => by
      rw [e]
      exact r_ret (ev_callJ (n := 0) rfl (ea_cons (ev_lst (ds := numL.map dq) (ea_cons (ev_dq rfl rfl) (ea_cons (ev_dq rfl rfl) (ea_cons (ev_dq rfl rfl) (ea_cons (ev_dqn rfl rfl) (ea_cons (ev_dq rfl rfl) (ea_cons (ev_dq rfl rfl) (ea_cons (ev_dq rfl rfl) (ea_cons (ev_dqn rfl rfl) (ea_cons (ev_dqn rfl rfl) ea_nil))))))))) len9) ea_nil) rfl (R_pickQ ok' (by decide) (by decide) (by decide))) ⟨rfl, rfl⟩
    have l13 := nx_ok (j := j) (m := 13) (by decide) ok
    by_cases ht : 0 < j.t
    · by_cases hz : (nx j 13).1 = 0
      · refine r_seq (r_if (b := true) (Γ1 := [.own false p (nx j 13).2.d]) (eb_andT (eb_is (eb_test (ev_op (ev_ixO rfl ev_int rfl (d := .int j.t) rfl) ev_int rv_gt)) (decide_eq_true ht)) (eb_is (eb_test (ev_op (ev_callJ (n := 0) (js' := (nx j 13).2.d) rfl (ea_cons ev_int ea_nil) rfl ⟨j, 13, rfl, rfl, ok.mono (by decide), by decide, by decide, rfl, rfl⟩) ev_int (rv_eq sh_int sh_int))) (by rw [eqv_int]; exact decide_eq_true hz))) (fun _ => ?_) (fun c => nomatch c))
        refine r_seq (r_setO (m := 3) (d := .int ((nx j 13).2.t - 1)) (ev_op (ev_ixO rfl ev_int rfl (d := .int (nx j 13).2.t) rfl) ev_int rv_sub) rfl ev_int rfl (by show 3 < 4; decide) ?_)
        have e : numF j = (Rat.divInt ((nx ⟨(nx j 13).2.c, (nx j 13).2.f, (nx j 13).2.k, (nx j 13).2.t - 1⟩ 20001).1 - 10000) (1 + (nx (nx ⟨(nx j 13).2.c, (nx j 13).2.f, (nx j 13).2.k, (nx j 13).2.t - 1⟩ 20001).2 99).1), (nx (nx ⟨(nx j 13).2.c, (nx j 13).2.f, (nx j 13).2.k, (nx j 13).2.t - 1⟩ 20001).2 99).2) := by
          unfold numF
          rw [if_pos ht, if_pos hz]
        rw [e]
        show RunS K _ [.own false p (J.d ⟨(nx j 13).2.c, (nx j 13).2.f, (nx j 13).2.k, (nx j 13).2.t - 1⟩)] _
        have ok2 : OkJ 90001 ⟨(nx j 13).2.c, (nx j 13).2.f, (nx j 13).2.k, (nx j 13).2.t - 1⟩ := ⟨l13.c0, l13.c1, l13.k0, l13.k1⟩
        generalize (⟨(nx j 13).2.c, (nx j 13).2.f, (nx j 13).2.k, (nx j 13).2.t - 1⟩ : J) = j2 at *
        have ok3 := nx_ok (j := j2) (m := 20001) (by decide) ok2
        have b1 := nx_lt (j := (nx j2 20001).2) (m := 99) (by decide)
        have hb : 1 + (nx (nx j2 20001).2 99).1 ≠ 0 := by omega
        have hl : LowOk ((nx j2 20001).1 - 10000) (1 + (nx (nx j2 20001).2 99).1) := low_of_bottom (n := 10) hb (by omega) (by decide)
        have e1 : EvX K (tCall (spJ K R_nx) [] E0 (tCons (tVar 0) (tCons (tC (V.int 20001)) tNil))) [.own false p j2.d] (.int (nx j2 20001).1) [.own false p (nx j2 20001).2.d] := ev_callJ (n := 0) rfl (ea_cons ev_int ea_nil) rfl ⟨j2, 20001, rfl, rfl, ok2.mono (by decide), by decide, by decide, rfl, rfl⟩
        have e2 : EvX K (tCall (spJ K R_nx) [] E0 (tCons (tVar 0) (tCons (tC (V.int 99)) tNil))) [.own false p (nx j2 20001).2.d] (.int (nx (nx j2 20001).2 99).1) [.own false p (nx (nx j2 20001).2 99).2.d] := ev_callJ (n := 0) rfl (ea_cons ev_int ea_nil) rfl ⟨_, 99, rfl, rfl, ok3.mono (by decide), by decide, by decide, rfl, rfl⟩
        generalize (nx (nx j2 20001).2 99) = y at *
        generalize (nx j2 20001) = x at *
        dsimp only
        refine r_ret (ev_call (ea_cons (ev_op e1 ev_int rv_sub) (ea_cons (ev_op ev_int e2 rv_add) ea_nil)) ⟨x.1 - 10000, 1 + y.1, rfl, hb, hl, rfl⟩) ⟨rfl, rfl⟩
      · refine r_seq (r_if (b := false) (Γ1 := [.own false p (nx j 13).2.d]) (eb_andT (eb_is (eb_test (ev_op (ev_ixO rfl ev_int rfl (d := .int j.t) rfl) ev_int rv_gt)) (decide_eq_true ht)) (eb_is (eb_test (ev_op (ev_callJ (n := 0) (js' := (nx j 13).2.d) rfl (ea_cons ev_int ea_nil) rfl ⟨j, 13, rfl, rfl, ok.mono (by decide), by decide, by decide, rfl, rfl⟩) ev_int (rv_eq sh_int sh_int))) (by rw [eqv_int]; exact decide_eq_false hz))) (fun c => nomatch c) (fun _ => r_next ?_))
        exact pk _ (fun _ _ => True) (l13.mono (by decide)) (by unfold numF; rw [if_pos ht, if_neg hz])
    · refine r_seq (r_if (b := false) (Γ1 := [.own false p j.d]) (eb_andF (eb_is (eb_test (ev_op (ev_ixO rfl ev_int rfl (d := .int j.t) rfl) ev_int rv_gt)) (decide_eq_false ht))) (fun c => nomatch c) (fun _ => r_next ?_))
      exact pk _ (fun _ _ => True) (ok.mono (by decide)) (by unfold numF; rw [if_neg ht])
end
end C56
end Part15

section Part16
set_option Elab.async false
set_option linter.all false
set_option maxRecDepth 100000
set_option maxHeartbeats 4000000
open PySem PySem.Spec PyProof.Rows L2 DL
open Evl (Ex)
/-! ### my words for the walk: expressions, arguments, operators, tests -/
local macro_rules | `(tactic| walk_at "len") => `(tactic| first
  | exact DL.len0
  | exact DL.len1
  | exact DL.len2
  | exact DL.len3
  | exact DL.len4
  | exact DL.len5
  | exact DL.len6
  | exact DL.len7
  | exact DL.len8
  | exact DL.len9
  | exact DL.len10
  | exact DL.len11
  | exact DL.len12
  | exact DL.len13
  | exact DL.len14
  | exact DL.len15
  | exact DL.len16
  | exact DL.len17
  | exact DL.len18
  | exact DL.len19
  | exact DL.len20)
local macro_rules | `(tactic| walk_at "sh") => `(tactic| first
  | exact DL.sh_int
  | exact DL.sh_none
  | exact DL.sh_bool
  | exact DL.sh_dq
  | exact DL.sh_dr
  | exact DL.sh_nil
  | assumption
  | rfl)
local macro_rules | `(tactic| walk_at "sc") => `(tactic| first
  | fail "side")
local macro_rules | `(tactic| walk_at "side") => `(tactic| first
  | assumption
  | rfl
  | (walk_at "sc"; done)
  | (trace "SIDE"; trace_state; fail "side"))
local macro_rules | `(tactic| walk_at "at") => `(tactic| first
  | exact rfl
  | (walk_at "side"))
local macro_rules | `(tactic| walk_at "rv") => `(tactic| first
  | (with_reducible exact rv_add)
  | (with_reducible exact rv_sub)
  | (with_reducible exact rv_lt)
  | (with_reducible exact rv_le)
  | (with_reducible exact rv_gt)
  | (with_reducible exact rv_ge)
  | (with_reducible exact rv_isN)
  | (with_reducible exact rv_notN)
  | (with_reducible exact rv_isB)
  | (with_reducible exact rv_notB)
  | ((with_reducible refine' rv_ixT ?x1); (case' x1 => walk_at "at"))
  | ((with_reducible refine' rv_ixL ?x1); (case' x1 => walk_at "at"))
  | ((with_reducible refine' rv_mul ?x1); (case' x1 => walk_at "side"))
  | ((with_reducible refine' rv_fd ?x1); (case' x1 => walk_at "side"))
  | ((with_reducible refine' rv_mod ?x1); (case' x1 => first | assumption | decide | omega))
  | ((with_reducible refine' rv_pow ?x1); (case' x1 => first | decide | walk_at "side"))
  | ((with_reducible refine' rv_shl ?x1); (case' x1 => first | decide | walk_at "side"))
  | ((with_reducible refine' rv_eq ?x1 ?x2); (case' x1 => walk_at "sh"); (case' x2 => walk_at "sh"))
  | ((with_reducible refine' rv_ne ?x1 ?x2); (case' x1 => walk_at "sh"); (case' x2 => walk_at "sh"))
  | ((with_reducible refine' rv_catT ?x1); (case' x1 => walk_at "side"))
  | ((with_reducible refine' rv_catL ?x1); (case' x1 => walk_at "side"))
  | ((with_reducible refine' rv_rep ?x1 ?x2); (case' x1 => walk_at "side"); (case' x2 => walk_at "side"))
  | (trace "RV"; trace_state; fail "rv"))
local macro_rules | `(tactic| walk_at "rc") => `(tactic| first
  | (with_reducible exact rc_lenT)
  | (with_reducible exact rc_lenL)
  | (with_reducible exact rc_gcd)
  | (with_reducible exact rc_abs)
  | (with_reducible exact rc_min)
  | (with_reducible exact rc_max)
  | (with_reducible exact rc_intI)
  | (with_reducible exact rc_intB)
  | (with_reducible exact rc_tupL)
  | (with_reducible exact rc_tupT)
  | (with_reducible exact rc_lstT)
  | (with_reducible exact rc_lstL)
  | (with_reducible exact rc_all)
  | (with_reducible exact rc_any))
local macro_rules | `(tactic| walk_at "rt") => `(tactic| first
  | fail "no promise")
local macro_rules | `(tactic| walk_at "ea") => `(tactic| first
  | exact ea_nil
  | exact ea_cons (by walk_at "ev") (by walk_at "ea"))
local macro_rules | `(tactic| walk_at "ev") => `(tactic| first
  | exact ev_var rfl
  | exact ev_int
  | exact ev_bl
  | exact ev_non
  | exact ev_str
  | exact ev_lenO rfl
  | exact ev_tupO rfl
  | ((with_reducible refine' ev_ixO ?x0 ?x1 ?x2 ?x3); (case' x0 => exact rfl); (case' x1 => walk_at "ev"); (case' x2 => exact rfl); (case' x3 => walk_at "at"))
  | ((with_reducible refine' ev_op ?x1 ?x2 ?x3); (case' x1 => walk_at "ev"); (case' x2 => walk_at "ev"); (case' x3 => walk_at "rv"))
  | ((with_reducible refine' ev_call ?x1 ?x2); (case' x1 => walk_at "ea"); (case' x2 => walk_at "rt"))
  | ((with_reducible refine' ev_isiInt ?x1); (case' x1 => walk_at "ev"))
  | ((with_reducible refine' ev_isiBool ?x1); (case' x1 => walk_at "ev"))
  | ((with_reducible refine' ev_isiTup ?x1); (case' x1 => walk_at "ev"))
  | ((with_reducible refine' ev_isiLst ?x1); (case' x1 => walk_at "ev"))
  | ((with_reducible refine' ev_isiStr ?x1); (case' x1 => walk_at "ev"))
  | ((with_reducible refine' ev_neg ?x1); (case' x1 => walk_at "ev"))
  | ((with_reducible refine' ev_not ?x1); (case' x1 => walk_at "ev"))
  | ((with_reducible refine' ev_revT ?x1); (case' x1 => walk_at "ev"))
  | ((with_reducible refine' ev_revL ?x1); (case' x1 => walk_at "ev"))
  | ((with_reducible refine' ev_cb ?x1 ?x2); (case' x1 => walk_at "ea"); (case' x2 => walk_at "rc"))
  | ((with_reducible refine' ev_tup ?x1 ?x2); (case' x1 => walk_at "ea"); (case' x2 => walk_at "len"))
  | ((with_reducible refine' ev_lst ?x1 ?x2); (case' x1 => walk_at "ea"); (case' x2 => walk_at "len"))
  | ((with_reducible refine' ev_and ?x1 ?x2); (case' x1 => walk_at "ev"); (case' x2 => (intro _; walk_at "ev")))
  | ((with_reducible refine' ev_or ?x1 ?x2); (case' x1 => walk_at "ev"); (case' x2 => (intro _; walk_at "ev")))
  | ((with_reducible refine' ev_slT ?x1 ?x2 ?x3); (case' x1 => walk_at "ev"); (case' x2 => walk_at "eo"); (case' x3 => walk_at "eo"))
  | ((with_reducible refine' ev_slL ?x1 ?x2 ?x3); (case' x1 => walk_at "ev"); (case' x2 => walk_at "eo"); (case' x3 => walk_at "eo"))
  | (trace "EV"; trace_state; fail "ev"))
local macro_rules | `(tactic| walk_at "eo") => `(tactic| first
  | exact eo_none
  | exact eo_some (by walk_at "ev"))
local macro_rules | `(tactic| walk_at "eb") => `(tactic| first
  | ((with_reducible refine' eb_and ?x1 ?x2); (case' x1 => walk_at "eb"); (case' x2 => (intro _; walk_at "eb")))
  | ((with_reducible refine' eb_or ?x1 ?x2); (case' x1 => walk_at "eb"); (case' x2 => (intro _; walk_at "eb")))
  | ((with_reducible refine' eb_not ?x1); (case' x1 => walk_at "eb"))
  | ((with_reducible refine' eb_val ?x1); (case' x1 => walk_at "ev"))
  | ((with_reducible refine' eb_test ?x1); (case' x1 => walk_at "ev")))
local macro_rules | `(tactic| walk_at "ret") => `(tactic| (refine' r_ret ?y1 ?y2; (case' y1 => walk_at "ev"); (case' y2 => try (first | rfl | skip))))
local macro_rules | `(tactic| walk_at "asg") => `(tactic| (refine' r_asg ?y1 ?y2; (case' y1 => walk_at "ev")))
local macro_rules | `(tactic| walk_at "if") => `(tactic| (refine' r_if ?y1 ?y2 ?y3; (case' y1 => walk_at "eb")))
local macro_rules | `(tactic| walk_at "par") => `(tactic| (refine' r_par ?y1 ?y2; (case' y1 => walk_at "ea")))
local macro_rules | `(tactic| walk_at "kk") => `(tactic| dsimp only [cxOf, Cx.nox, Cx.wish, Cx.blk, slots, List.map, List.length, List.replicate, List.append, Nat.sub, Nat.add, List.cons_append, List.nil_append, Nat.reduceAdd, Nat.reduceSub, List.replicate_succ, List.replicate_zero])

namespace C56
section
variable {P : Program} {w : World} {K : PySem.W.Frag} {mg : Str → Option Value} {base : Heap} {aN aO : Addr}
/-! ### products -/
def stepT (p q : List Rat) (i : Nat) (fs : List Rat) (j : Nat) : List Rat := fs.set (i + j) (fs.getD (i + j) 0 + p.getD i 0 * q.getD j 0)
def rowT (p q : List Rat) (i m : Nat) (fs : List Rat) : List Rat := (List.range m).foldl (stepT p q i) fs
def tmT (p q : List Rat) (n : Nat) : List Rat := (List.range n).foldl (fun fs i => rowT p q i q.length fs) (List.replicate (p.length + q.length - 1) 0)
def tmQ (p q : List Rat) : List Rat := tmT p q p.length
theorem rowT_succ (p q : List Rat) (i m : Nat) (fs : List Rat) : rowT p q i (m + 1) fs = stepT p q i (rowT p q i m fs) m := by
  unfold rowT
  rw [List.range_succ, List.foldl_append]
  rfl
theorem tmT_succ (p q : List Rat) (n : Nat) : tmT p q (n + 1) = rowT p q n q.length (tmT p q n) := by
  unfold tmT
  rw [List.range_succ, List.foldl_append]
  rfl
theorem rowT_len (p q : List Rat) (i m : Nat) (fs : List Rat) : (rowT p q i m fs).length = fs.length := by
  induction m with
  | zero => rfl
  | succ m ih =>
    rw [rowT_succ]
    unfold stepT
    rw [List.length_set, ih]
theorem tmT_len (p q : List Rat) (n : Nat) : (tmT p q n).length = p.length + q.length - 1 := by
  induction n with
  | zero => exact List.length_replicate
  | succ n ih => rw [tmT_succ, rowT_len, ih]
def OkTm (p q : List Rat) : Prop := ∀ i, i < p.length → ∀ j, j < q.length → OkTimes (p.getD i 0) (q.getD j 0) ∧ OkAdd ((rowT p q i j (tmT p q i)).getD (i + j) 0) (p.getD i 0 * q.getD j 0)
def R_tm (ds : List PyData) (d : PyData) : Prop := ∃ p q, ds = [dr p, dr q] ∧ p ≠ [] ∧ q ≠ [] ∧ p.length ≤ 100 ∧ q.length ≤ 100 ∧ OkTm p q ∧ d = dr (tmQ p q)
theorem atI_rat {l : List Rat} {k : Nat} (h : k < l.length) : atI (l.map dq) ((k : Nat) : Int) = some (dq (l.getD k 0)) := by
  refine L2.atI_nat ?_
  rw [List.getElem?_map, List.getD_eq_getElem?_getD, List.getElem?_eq_getElem h]
  rfl
theorem ev_neT {Γ : List Slot} {i : Nat} {p : List Rat} {b : Bool} (h : Γ[i]? = some (.dat (dr p))) (hp : p ≠ []) : EvB K (tTest (tOp (rNeD K) (tVar i) (tTup tNil))) Γ true Γ :=
  eb_is (eb_test (ev_op (ev_var h) (ev_tup ea_nil len0) (rv_ne sh_dr sh_nil))) (by rw [eqv_nil hp]; rfl)
theorem ok_law_times (T : Tx K mg aN aO) {f f1 f2 : Addr} {fd fd1 fd2 : FuncData} (F : Fun K "_law_times" "_law_times" s__law_times f fd) (c__law_plus : Cal P w K mg base "_law_plus" 2 ["one", "other"] (spD K R_add) f1 fd1) (c__law_mul : Cal P w K mg base "_law_mul" 2 ["one", "other"] (spD K R_times) f2 fd2) : FnOk P w K mg base CX0 3 f fd ["one", "other"] (spD K R_tm) := by
  refine fn_D F sc__law_times (by decide) (fun ds d h => ?_) (fun cdv A outer s H E hr => ⟨_, (pss_cons (ps_set (i := 2) sc__law_times.nd rfl (by first | exact Or.inl rfl | exact Or.inr rfl) (pe_ifExp (PW.pt (pw_and (pt_cmpR (op_neD hr.units) (pv 0) (pe_tup pa_nil) (nomark _)) (pw_and1 (pt_cmpR (op_neD hr.units) (pv 1) (pe_tup pa_nil) (nomark _))))) (pe_op op_mulX (pe_lst (pa_cons (pe_tup (pa_cons pe_int (pa_cons pe_int pa_nil))) pa_nil)) (pe_op op_sub (pe_op op_plus (pe_callB call_lenX rfl T.n_len PySem.boot_len (pa_cons (pv 0) pa_nil)) (pe_callB call_lenX rfl T.n_len PySem.boot_len (pa_cons (pv 1) pa_nil))) pe_int)) (pe_lst pa_nil)))
      (pss_cons (ps_for PassesOwn.never rfl (pi_range1 rfl T.n_range (pa_cons (pe_callB call_lenX rfl T.n_len PySem.boot_len (pa_cons (pv 0) pa_nil)) pa_nil)) (pg_name (i := 3) sc__law_times.nd rfl (by first | exact Or.inl rfl | exact Or.inr rfl))
        (pss_one (ps_for PassesOwn.never rfl (pi_range1 rfl T.n_range (pa_cons (pe_callB call_lenX rfl T.n_len PySem.boot_len (pa_cons (pv 1) pa_nil)) pa_nil)) (pg_name (i := 4) sc__law_times.nd rfl (by first | exact Or.inl rfl | exact Or.inr rfl))
        (pss_one (ps_asg (pe_cal c__law_plus hr (by first | decide | exact Nat.le_refl _ | omega) rfl (pa_cons (pe_ix ix_seq (pv 2) (pe_op op_plus (pv 3) (pv 4)) (fun _ _ => rfl)) (pa_cons (pe_cal c__law_mul hr (by first | decide | exact Nat.le_refl _ | omega) rfl (pa_cons (pe_ix ix_seq (pv 0) (pv 3) (fun _ _ => rfl)) (pa_cons (pe_ix ix_seq (pv 1) (pv 4) (fun _ _ => rfl)) pa_nil))) pa_nil))) (pg_sub (pv 2) (pe_op op_plus (pv 3) (pv 4)) set_list))))))
      (pss_one (ps_ret (pe_callTy call_tupX rfl T.n_tuple (by decide +kernel) (pa_cons (pv 2) pa_nil)))))), fun ds d hR => ?_⟩)
  · obtain ⟨p, q, rfl, _⟩ := h
    rfl
  · obtain ⟨p, q, rfl, hp, hq, hpl, hql, ok, rfl⟩ := hR
    walk_at "kk"
    have hp0 := List.length_pos_iff.mpr hp
    have hq0 := List.length_pos_iff.mpr hq
    have e0 : (List.replicate ((((p.map dq).length : Nat) : Int) + (((q.map dq).length : Nat) : Int) - 1).toNat [dq 0]).flatten = (tmT p q 0).map dq := by
      rw [List.length_map, List.length_map, List.flatten_replicate_singleton, show (((p.length : Nat) : Int) + ((q.length : Nat) : Int) - 1).toNat = p.length + q.length - 1 by omega]
      show _ = (List.replicate (p.length + q.length - 1) (0 : Rat)).map dq
      rw [List.map_replicate]
    refine r_seq (r_asgN (Γ1 := [.dat (dr p), .dat (dr q), .un, .un, .un]) (ds := (tmT p q 0).map dq) (en_if (b := true) (eb_andT (ev_neT (b := true) rfl hp) (ev_neT (b := true) rfl hq)) (fun _ => ?_) (fun c => nomatch c)) (fun a => ?_))
    · rw [← e0]
      refine en_op (ev_lst (ea_cons (ev_dq rfl rfl) ea_nil) len1) (ev_op (ev_op (ev_cb (ea_cons (ev_var rfl) ea_nil) rc_lenT) (ev_cb (ea_cons (ev_var rfl) ea_nil) rc_lenT) rv_add) ev_int rv_sub) (rn_rep ?_ ?_)
      · rw [List.length_map, List.length_map]
        omega
      · rw [List.length_map, List.length_map, List.length_singleton]
        omega
    show RunS K _ [.dat (dr p), .dat (dr q), .own true a ((tmT p q 0).map dq), .un, .un] _
    refine r_seq (r_for (js := [3]) (fun i Γ' => ∃ u v, Γ' = [.dat (dr p), .dat (dr q), .own true a ((tmT p q i).map dq), u, v]) (ei_R1 (n := p.length) (ea_cons (ev_is (ev_cb (ea_cons (ev_var rfl) ea_nil) rc_lenT) (by rw [List.length_map])) ea_nil) (by omega)) ⟨_, _, rfl⟩ ?_ ?_)
    · rintro i Γ' hi ⟨u, v, rfl⟩
      refine ⟨_, eg_name, ?_⟩
      show RunS K _ [.dat (dr p), .dat (dr q), .own true a ((tmT p q i).map dq), .dat (.int (i : Nat)), v] _
      refine r_for (js := [4]) (fun j Γ' => ∃ v, Γ' = [.dat (dr p), .dat (dr q), .own true a ((rowT p q i j (tmT p q i)).map dq), .dat (.int (i : Nat)), v]) (ei_R1 (n := q.length) (ea_cons (ev_is (ev_cb (ea_cons (ev_var rfl) ea_nil) rc_lenT) (by rw [List.length_map])) ea_nil) (by omega)) ⟨_, rfl⟩ ?_ ?_
      · rintro j Γ' hj ⟨v, rfl⟩
        refine ⟨_, eg_name, ?_⟩
        show RunS K _ [.dat (dr p), .dat (dr q), .own true a ((rowT p q i j (tmT p q i)).map dq), .dat (.int (i : Nat)), .dat (.int (j : Nat))] _
        obtain ⟨k1, k2⟩ := ok i hi j hj
        have hl : i + j < (rowT p q i j (tmT p q i)).length := by
          rw [rowT_len, tmT_len]
          omega
        have ij : ∀ Γ : List Slot, Γ[3]? = some (.dat (.int (i : Nat))) → Γ[4]? = some (.dat (.int (j : Nat))) → EvX K (tOp (rPlus K) (tVar 3) (tVar 4)) Γ (.int ((i + j : Nat) : Int)) Γ := fun Γ h3 h4 => ev_is (ev_op (ev_var h3) (ev_var h4) rv_add) (by rw [Int.natCast_add])
        refine r_setO (m := i + j) (d := dq ((rowT p q i j (tmT p q i)).getD (i + j) 0 + p.getD i 0 * q.getD j 0)) (ev_call (ea_cons (ev_ixO rfl (ij _ rfl rfl) rfl (atI_rat hl)) (ea_cons (ev_call (ea_cons (ev_op (ev_var rfl) (ev_var rfl) (rv_ixT (atI_rat hi))) (ea_cons (ev_op (ev_var rfl) (ev_var rfl) (rv_ixT (atI_rat hj))) ea_nil)) ⟨_, _, rfl, k1, rfl⟩) ea_nil)) ⟨_, _, rfl, k2, rfl⟩) rfl (ij _ rfl rfl) rfl (by rw [List.length_map]; exact hl) ?_
        refine ⟨.dat (.int (j : Nat)), ?_⟩
        rw [rowT_succ]
        show [Slot.dat (dr p), .dat (dr q), .own true a (((rowT p q i j (tmT p q i)).map dq).set (i + j) _), _, _] = _
        rw [← List.map_set]
        rfl
      · rintro Γ' ⟨v, rfl⟩
        exact ⟨_, _, by rw [tmT_succ]⟩
    · rintro Γ' ⟨u, v, rfl⟩
      exact r_ret (ev_tupO rfl) rfl
end
end C56
end Part16

section Part17
set_option Elab.async false
set_option linter.all false
set_option maxRecDepth 100000
set_option maxHeartbeats 4000000
open PySem PySem.Spec PyProof.Rows L2 DL
open Evl (Ex)
/-! ### my words for the walk: expressions, arguments, operators, tests -/
local macro_rules | `(tactic| walk_at "len") => `(tactic| first
  | exact DL.len0
  | exact DL.len1
  | exact DL.len2
  | exact DL.len3
  | exact DL.len4
  | exact DL.len5
  | exact DL.len6
  | exact DL.len7
  | exact DL.len8
  | exact DL.len9
  | exact DL.len10
  | exact DL.len11
  | exact DL.len12
  | exact DL.len13
  | exact DL.len14
  | exact DL.len15
  | exact DL.len16
  | exact DL.len17
  | exact DL.len18
  | exact DL.len19
  | exact DL.len20)
local macro_rules | `(tactic| walk_at "sh") => `(tactic| first
  | exact DL.sh_int
  | exact DL.sh_none
  | exact DL.sh_bool
  | exact DL.sh_dq
  | exact DL.sh_dr
  | exact DL.sh_nil
  | assumption
  | rfl)
local macro_rules | `(tactic| walk_at "sc") => `(tactic| first
  | fail "side")
local macro_rules | `(tactic| walk_at "side") => `(tactic| first
  | assumption
  | rfl
  | (walk_at "sc"; done)
  | (trace "SIDE"; trace_state; fail "side"))
local macro_rules | `(tactic| walk_at "at") => `(tactic| first
  | exact rfl
  | (walk_at "side"))
local macro_rules | `(tactic| walk_at "rv") => `(tactic| first
  | (with_reducible exact rv_add)
  | (with_reducible exact rv_sub)
  | (with_reducible exact rv_lt)
  | (with_reducible exact rv_le)
  | (with_reducible exact rv_gt)
  | (with_reducible exact rv_ge)
  | (with_reducible exact rv_isN)
  | (with_reducible exact rv_notN)
  | (with_reducible exact rv_isB)
  | (with_reducible exact rv_notB)
  | ((with_reducible refine' rv_ixT ?x1); (case' x1 => walk_at "at"))
  | ((with_reducible refine' rv_ixL ?x1); (case' x1 => walk_at "at"))
  | ((with_reducible refine' rv_mul ?x1); (case' x1 => walk_at "side"))
  | ((with_reducible refine' rv_fd ?x1); (case' x1 => walk_at "side"))
  | ((with_reducible refine' rv_mod ?x1); (case' x1 => first | assumption | decide | omega))
  | ((with_reducible refine' rv_pow ?x1); (case' x1 => first | decide | walk_at "side"))
  | ((with_reducible refine' rv_shl ?x1); (case' x1 => first | decide | walk_at "side"))
  | ((with_reducible refine' rv_eq ?x1 ?x2); (case' x1 => walk_at "sh"); (case' x2 => walk_at "sh"))
  | ((with_reducible refine' rv_ne ?x1 ?x2); (case' x1 => walk_at "sh"); (case' x2 => walk_at "sh"))
  | ((with_reducible refine' rv_catT ?x1); (case' x1 => walk_at "side"))
  | ((with_reducible refine' rv_catL ?x1); (case' x1 => walk_at "side"))
  | ((with_reducible refine' rv_rep ?x1 ?x2); (case' x1 => walk_at "side"); (case' x2 => walk_at "side"))
  | (trace "RV"; trace_state; fail "rv"))
local macro_rules | `(tactic| walk_at "rc") => `(tactic| first
  | (with_reducible exact rc_lenT)
  | (with_reducible exact rc_lenL)
  | (with_reducible exact rc_gcd)
  | (with_reducible exact rc_abs)
  | (with_reducible exact rc_min)
  | (with_reducible exact rc_max)
  | (with_reducible exact rc_intI)
  | (with_reducible exact rc_intB)
  | (with_reducible exact rc_tupL)
  | (with_reducible exact rc_tupT)
  | (with_reducible exact rc_lstT)
  | (with_reducible exact rc_lstL)
  | (with_reducible exact rc_all)
  | (with_reducible exact rc_any))
local macro_rules | `(tactic| walk_at "rt") => `(tactic| first
  | fail "no promise")
local macro_rules | `(tactic| walk_at "ea") => `(tactic| first
  | exact ea_nil
  | exact ea_cons (by walk_at "ev") (by walk_at "ea"))
local macro_rules | `(tactic| walk_at "ev") => `(tactic| first
  | exact ev_var rfl
  | exact ev_int
  | exact ev_bl
  | exact ev_non
  | exact ev_str
  | exact ev_lenO rfl
  | exact ev_tupO rfl
  | ((with_reducible refine' ev_ixO ?x0 ?x1 ?x2 ?x3); (case' x0 => exact rfl); (case' x1 => walk_at "ev"); (case' x2 => exact rfl); (case' x3 => walk_at "at"))
  | ((with_reducible refine' ev_op ?x1 ?x2 ?x3); (case' x1 => walk_at "ev"); (case' x2 => walk_at "ev"); (case' x3 => walk_at "rv"))
  | ((with_reducible refine' ev_call ?x1 ?x2); (case' x1 => walk_at "ea"); (case' x2 => walk_at "rt"))
  | ((with_reducible refine' ev_isiInt ?x1); (case' x1 => walk_at "ev"))
  | ((with_reducible refine' ev_isiBool ?x1); (case' x1 => walk_at "ev"))
  | ((with_reducible refine' ev_isiTup ?x1); (case' x1 => walk_at "ev"))
  | ((with_reducible refine' ev_isiLst ?x1); (case' x1 => walk_at "ev"))
  | ((with_reducible refine' ev_isiStr ?x1); (case' x1 => walk_at "ev"))
  | ((with_reducible refine' ev_neg ?x1); (case' x1 => walk_at "ev"))
  | ((with_reducible refine' ev_not ?x1); (case' x1 => walk_at "ev"))
  | ((with_reducible refine' ev_revT ?x1); (case' x1 => walk_at "ev"))
  | ((with_reducible refine' ev_revL ?x1); (case' x1 => walk_at "ev"))
  | ((with_reducible refine' ev_cb ?x1 ?x2); (case' x1 => walk_at "ea"); (case' x2 => walk_at "rc"))
  | ((with_reducible refine' ev_tup ?x1 ?x2); (case' x1 => walk_at "ea"); (case' x2 => walk_at "len"))
  | ((with_reducible refine' ev_lst ?x1 ?x2); (case' x1 => walk_at "ea"); (case' x2 => walk_at "len"))
  | ((with_reducible refine' ev_and ?x1 ?x2); (case' x1 => walk_at "ev"); (case' x2 => (intro _; walk_at "ev")))
  | ((with_reducible refine' ev_or ?x1 ?x2); (case' x1 => walk_at "ev"); (case' x2 => (intro _; walk_at "ev")))
  | ((with_reducible refine' ev_slT ?x1 ?x2 ?x3); (case' x1 => walk_at "ev"); (case' x2 => walk_at "eo"); (case' x3 => walk_at "eo"))
  | ((with_reducible refine' ev_slL ?x1 ?x2 ?x3); (case' x1 => walk_at "ev"); (case' x2 => walk_at "eo"); (case' x3 => walk_at "eo"))
  | (trace "EV"; trace_state; fail "ev"))
local macro_rules | `(tactic| walk_at "eo") => `(tactic| first
  | exact eo_none
  | exact eo_some (by walk_at "ev"))
local macro_rules | `(tactic| walk_at "eb") => `(tactic| first
  | ((with_reducible refine' eb_and ?x1 ?x2); (case' x1 => walk_at "eb"); (case' x2 => (intro _; walk_at "eb")))
  | ((with_reducible refine' eb_or ?x1 ?x2); (case' x1 => walk_at "eb"); (case' x2 => (intro _; walk_at "eb")))
  | ((with_reducible refine' eb_not ?x1); (case' x1 => walk_at "eb"))
  | ((with_reducible refine' eb_val ?x1); (case' x1 => walk_at "ev"))
  | ((with_reducible refine' eb_test ?x1); (case' x1 => walk_at "ev")))
local macro_rules | `(tactic| walk_at "ret") => `(tactic| (refine' r_ret ?y1 ?y2; (case' y1 => walk_at "ev"); (case' y2 => try (first | rfl | skip))))
local macro_rules | `(tactic| walk_at "asg") => `(tactic| (refine' r_asg ?y1 ?y2; (case' y1 => walk_at "ev")))
local macro_rules | `(tactic| walk_at "if") => `(tactic| (refine' r_if ?y1 ?y2 ?y3; (case' y1 => walk_at "eb")))
local macro_rules | `(tactic| walk_at "par") => `(tactic| (refine' r_par ?y1 ?y2; (case' y1 => walk_at "ea")))
local macro_rules | `(tactic| walk_at "kk") => `(tactic| dsimp only [cxOf, Cx.nox, Cx.wish, Cx.blk, slots, List.map, List.length, List.replicate, List.append, Nat.sub, Nat.add, List.cons_append, List.nil_append, Nat.reduceAdd, Nat.reduceSub, List.replicate_succ, List.replicate_zero])

--@list _law_rows: parts
namespace C56
section
variable {P : Program} {w : World} {K : PySem.W.Frag} {mg : Str → Option Value} {base : Heap} {aN aO : Addr}
/-! ### factors -/
def fq (n : Int) (d : Nat) (h : d ≠ 0 := by decide) (r : Nat.Coprime n.natAbs d := by decide) : Rat := { num := n, den := d, den_nz := h, reduced := r }
def rootL : List Rat := [0, fq 1 2, fq (-1) 2, fq 99 100, -1, 1, 2, fq (-101) 100, fq 1 3, fq (-3) 4]
def bL : List Rat := [0, 1, -1, fq 1 2, fq (-3) 2, fq 19 10]
def cL : List Rat := [fq 1 2, 1, fq (-1) 2, 2, fq 9 10, fq 3 4]
def absQ (b : Rat) : Rat := if b.num < 0 then -b else b
theorem dq_abs (b : Rat) : dq (absQ b) = .tuple [.int ((b.num.natAbs : Nat) : Int), .int (b.den : Int)] := by
  unfold absQ
  split
  · show PyData.tuple [.int (-b.num), .int (b.den : Int)] = _
    rw [show ((b.num.natAbs : Nat) : Int) = -b.num by omega]
  · rw [show ((b.num.natAbs : Nat) : Int) = b.num by omega]
theorem dq_neg (b : Rat) : dq (-b) = .tuple [.int (0 - b.num), .int (b.den : Int)] := by
  show PyData.tuple [.int (-b.num), .int (b.den : Int)] = _
  rw [Int.zero_sub]
def facF (j : J) : List Rat × Bool × J :=
  if 0 < (nx j 3).1 then ([-(pickQ rootL (nx j 3).2).1, 1], insQ (pickQ rootL (nx j 3).2).1, (pickQ rootL (nx j 3).2).2)
  else ([(pickQ cL (pickQ bL (nx j 3).2).2).1, (pickQ bL (nx j 3).2).1, 1], insQ (pickQ cL (pickQ bL (nx j 3).2).2).1 && decide (absQ (pickQ bL (nx j 3).2).1 < 1 + (pickQ cL (pickQ bL (nx j 3).2).2).1), (pickQ cL (pickQ bL (nx j 3).2).2).2)
def R_factor (js ds : List PyData) (d : PyData) (js' : List PyData) : Prop := ∃ j, js = j.d ∧ ds = [] ∧ OkJ 90000 j ∧ d = .list [dr (facF j).1, .bool (facF j).2.1] ∧ js' = (facF j).2.2.d
theorem pickQ_mem {l : List Rat} {j : J} (h : 0 < l.length) : (pickQ l j).1 ∈ l := by
  have hl := nx_lt (j := j) (m := (l.length : Nat)) (by omega)
  have h2 : (nx j (l.length : Nat)).1.toNat < l.length := by omega
  unfold pickQ
  show l.getD (nx j (l.length : Nat)).1.toNat 0 ∈ l
  rw [List.getD_eq_getElem?_getD, List.getElem?_eq_getElem h2]
  exact List.getElem_mem h2
instance {n : Nat} {q : Rat} : Decidable (Sz n q) := by unfold Sz; exact inferInstance
theorem sz_c : ∀ c ∈ cL, Sz 10 c ∧ Sz 10 (1 + c) := by decide +kernel
theorem sz_b : ∀ c ∈ bL, Sz 10 (absQ c) := by decide +kernel
theorem sz_1 : Sz 10 1 := by decide +kernel
theorem pickQ_ok {l : List Rat} {j : J} {n : Nat} (h : 0 < l.length) (o : OkJ n j) : OkJ (n + 1) (pickQ l j).2 := nx_ok (by omega) o
theorem ok_law_factor (T : Tx K mg aN aO) {f f1 f2 f3 f4 f5 : Addr} {fd fd1 fd2 fd3 fd4 fd5 : FuncData} (F : Fun K "_law_factor" "_law_factor" s__law_factor f fd) (c__law_pick : Cal P w K mg base "_law_pick" 2 ["jar", "rows"] (spJ K R_pick) f1 fd1)
    (c__law_next : Cal P w K mg base "_law_next" 1 ["jar", "many"] (spJ K R_nx) f2 fd2) (c__law_inside : Cal P w K mg base "_law_inside" 1 ["one"] (spD K R_inside) f3 fd3) (c__law_less : Cal P w K mg base "_law_less" 1 ["one", "other"] (spD K R_less) f4 fd4)
    (c__law_plus : Cal P w K mg base "_law_plus" 2 ["one", "other"] (spD K R_add) f5 fd5) : FnOk P w K mg base CX0 3 f fd ["jar"] (spJ K R_factor) := by
  refine fn_J F sc__law_factor (by decide) (fun js ds d js' h => ?_) (fun cdv A outer s H E hr => ⟨_, (pss_cons (ps_if (pt_cmpR op_gt (pe_cal c__law_next hr (by first | decide | exact Nat.le_refl _ | omega) rfl (pa_cons (pv 0) (pa_cons pe_int pa_nil))) pe_int (nomark _))
        (pss_cons (ps_set (i := 1) sc__law_factor.nd rfl (by first | exact Or.inl rfl | exact Or.inr rfl) (pe_cal c__law_pick hr (by first | decide | exact Nat.le_refl _ | omega) rfl (pa_cons (pv 0) (pa_cons (pe_lst (pa_cons (pe_tup (pa_cons pe_int (pa_cons pe_int pa_nil))) (pa_cons (pe_tup (pa_cons pe_int (pa_cons pe_int pa_nil))) (pa_cons (pe_tup (pa_cons (pe_un un_neg pe_int) (pa_cons pe_int pa_nil))) (pa_cons (pe_tup (pa_cons pe_int (pa_cons pe_int pa_nil))) (pa_cons (pe_tup (pa_cons (pe_un un_neg pe_int) (pa_cons pe_int pa_nil))) (pa_cons (pe_tup (pa_cons pe_int (pa_cons pe_int pa_nil))) (pa_cons (pe_tup (pa_cons pe_int (pa_cons pe_int pa_nil))) (pa_cons (pe_tup (pa_cons (pe_un un_neg pe_int) (pa_cons pe_int pa_nil))) (pa_cons (pe_tup (pa_cons pe_int (pa_cons pe_int pa_nil))) (pa_cons (pe_tup (pa_cons (pe_un un_neg pe_int) (pa_cons pe_int pa_nil))) pa_nil))))))))))) pa_nil))))
      (pss_one (ps_ret (pe_lst (pa_cons (pe_tup (pa_cons (pe_tup (pa_cons (pe_op op_sub pe_int (pe_ix ix_seq (pv 1) pe_int (fun _ _ => rfl))) (pa_cons (pe_ix ix_seq (pv 1) pe_int (fun _ _ => rfl)) pa_nil))) (pa_cons (pe_tup (pa_cons pe_int (pa_cons pe_int pa_nil))) pa_nil))) (pa_cons (pe_cal c__law_inside hr (by first | decide | exact Nat.le_refl _ | omega) rfl (pa_cons (pv 1) pa_nil)) pa_nil))))))
        pss_nil)
      (pss_cons (ps_par (i := 2) (j := 3) rfl sc__law_factor.nd rfl rfl (by decide) rfl rfl (pa_cons (pe_cal c__law_pick hr (by first | decide | exact Nat.le_refl _ | omega) rfl (pa_cons (pv 0) (pa_cons (pe_lst (pa_cons (pe_tup (pa_cons pe_int (pa_cons pe_int pa_nil))) (pa_cons (pe_tup (pa_cons pe_int (pa_cons pe_int pa_nil))) (pa_cons (pe_tup (pa_cons (pe_un un_neg pe_int) (pa_cons pe_int pa_nil))) (pa_cons (pe_tup (pa_cons pe_int (pa_cons pe_int pa_nil))) (pa_cons (pe_tup (pa_cons (pe_un un_neg pe_int) (pa_cons pe_int pa_nil))) (pa_cons (pe_tup (pa_cons pe_int (pa_cons pe_int pa_nil))) pa_nil))))))) pa_nil))) (pa_cons (pe_cal c__law_pick hr (by first | decide | exact Nat.le_refl _ | omega) rfl (pa_cons (pv 0) (pa_cons (pe_lst (pa_cons (pe_tup (pa_cons pe_int (pa_cons pe_int pa_nil))) (pa_cons (pe_tup (pa_cons pe_int (pa_cons pe_int pa_nil))) (pa_cons (pe_tup (pa_cons (pe_un un_neg pe_int) (pa_cons pe_int pa_nil))) (pa_cons (pe_tup (pa_cons pe_int (pa_cons pe_int pa_nil))) (pa_cons (pe_tup (pa_cons pe_int (pa_cons pe_int pa_nil))) (pa_cons (pe_tup (pa_cons pe_int (pa_cons pe_int pa_nil))) pa_nil))))))) pa_nil))) pa_nil)) (by rfl))
      (pss_one (ps_ret (pe_lst (pa_cons (pe_tup (pa_cons (pv 3) (pa_cons (pv 2) (pa_cons (pe_tup (pa_cons pe_int (pa_cons pe_int pa_nil))) pa_nil)))) (pa_cons (pe_and (pe_cal c__law_inside hr (by first | decide | exact Nat.le_refl _ | omega) rfl (pa_cons (pv 3) pa_nil)) (pe_one (pe_cal c__law_less hr (by first | decide | exact Nat.le_refl _ | omega) rfl (pa_cons (pe_tup (pa_cons (pe_callB call_absX rfl T.n_abs (by decide +kernel) (pa_cons (pe_ix ix_seq (pv 2) pe_int (fun _ _ => rfl)) pa_nil)) (pa_cons (pe_ix ix_seq (pv 2) pe_int (fun _ _ => rfl)) pa_nil))) (pa_cons (pe_cal c__law_plus hr (by first | decide | exact Nat.le_refl _ | omega) rfl (pa_cons (pe_tup (pa_cons pe_int (pa_cons pe_int pa_nil))) (pa_cons (pv 3) pa_nil))) pa_nil))))) pa_nil))))))), fun js ds d js' p hR => ?_⟩)
  · obtain ⟨j, _, rfl, _⟩ := h
    rfl
  · obtain ⟨j, rfl, rfl, ok, rfl, rfl⟩ := hR
    walk_at "kk"
    have l3 := nx_ok (j := j) (m := 3) (by decide) ok
    have e3 : EvX K (tCall (spJ K R_nx) [] E0 (tCons (tVar 0) (tCons (tC (V.int 3)) tNil))) [.own false p j.d, .un, .un, .un] (.int (nx j 3).1) [.own false p (nx j 3).2.d, .un, .un, .un] := ev_callJ (n := 0) rfl (ea_cons ev_int ea_nil) rfl ⟨j, 3, rfl, rfl, ok.mono (by decide), by decide, by decide, rfl, rfl⟩
    refine r_seq ?_
    by_cases hx : 0 < (nx j 3).1
    · have e : facF j = ([-(pickQ rootL (nx j 3).2).1, 1], insQ (pickQ rootL (nx j 3).2).1, (pickQ rootL (nx j 3).2).2) := if_pos hx
      rw [e]
      generalize nx j 3 = x at *
      refine r_if (b := true) (eb_is (eb_test (ev_op e3 ev_int rv_gt)) (decide_eq_true hx)) (fun _ => ?_) (fun c => nomatch c)
      refine r_seq (r_asg (ev_callJ (n := 0) rfl (ea_cons (ev_lst (ds := rootL.map dq) (ea_cons (ev_dq rfl rfl) (ea_cons (ev_dq rfl rfl) (ea_cons (ev_dqn rfl rfl) (ea_cons (ev_dq rfl rfl) (ea_cons (ev_dqn rfl rfl) (ea_cons (ev_dq rfl rfl) (ea_cons (ev_dq rfl rfl) (ea_cons (ev_dqn rfl rfl) (ea_cons (ev_dq rfl rfl) (ea_cons (ev_dqn rfl rfl) ea_nil)))))))))) len10) ea_nil) rfl (R_pickQ l3 (by decide) (by decide) (by decide))) ?_)
      generalize pickQ rootL x.2 = y at *
      show RunS K _ [.own false p y.2.d, .dat (dq y.1), .un, .un] _
      refine r_ret (d := .list [dr [-y.1, 1], .bool (insQ y.1)]) (ev_lst (ea_cons (ev_is (d' := dr [-y.1, 1]) (ev_tup (ea_cons (ev_is (d' := dq (-y.1)) (ev_tup (ea_cons (ev_op ev_int (ev_op (ev_var rfl) ev_int (rv_ixT rfl)) rv_sub) (ea_cons (ev_op (ev_var rfl) ev_int (rv_ixT rfl)) ea_nil)) len2) (by rw [dq_neg])) (ea_cons (ev_dq (q := 1) rfl rfl) ea_nil)) len2) rfl) (ea_cons (ev_call (ea_cons (ev_var rfl) ea_nil) ⟨_, rfl, rfl⟩) ea_nil)) len2) ⟨rfl, rfl⟩
    · have e : facF j = ([(pickQ cL (pickQ bL (nx j 3).2).2).1, (pickQ bL (nx j 3).2).1, 1], insQ (pickQ cL (pickQ bL (nx j 3).2).2).1 && decide (absQ (pickQ bL (nx j 3).2).1 < 1 + (pickQ cL (pickQ bL (nx j 3).2).2).1), (pickQ cL (pickQ bL (nx j 3).2).2).2) := if_neg hx
      rw [e]
      generalize nx j 3 = x at *
      refine r_if (b := false) (eb_is (eb_test (ev_op e3 ev_int rv_gt)) (decide_eq_false hx)) (fun c => nomatch c) (fun _ => r_next ?_)
      have b1 : (pickQ bL x.2).1 ∈ bL := pickQ_mem (by decide)
      have l4 := pickQ_ok (l := bL) (by decide) l3
      have e4 : EvX K (tCall (spJ K R_pick) [] E0 (tCons (tVar 0) (tCons (tLst (tCons (tTup (tCons (tC (V.int 0)) (tCons (tC (V.int 1)) tNil))) (tCons (tTup (tCons (tC (V.int 1)) (tCons (tC (V.int 1)) tNil))) (tCons (tTup (tCons (tUn (rU fun i => .int (-i)) (tC (V.int 1))) (tCons (tC (V.int 1)) tNil))) (tCons (tTup (tCons (tC (V.int 1)) (tCons (tC (V.int 2)) tNil))) (tCons (tTup (tCons (tUn (rU fun i => .int (-i)) (tC (V.int 3))) (tCons (tC (V.int 2)) tNil))) (tCons (tTup (tCons (tC (V.int 19)) (tCons (tC (V.int 10)) tNil))) tNil))))))) tNil)))
          [.own false p x.2.d, .un, .un, .un] (dq (pickQ bL x.2).1) [.own false p (pickQ bL x.2).2.d, .un, .un, .un] := ev_callJ (n := 0) rfl (ea_cons (ev_lst (ds := bL.map dq) (ea_cons (ev_dq rfl rfl) (ea_cons (ev_dq rfl rfl) (ea_cons (ev_dqn rfl rfl) (ea_cons (ev_dq rfl rfl) (ea_cons (ev_dqn rfl rfl) (ea_cons (ev_dq rfl rfl) ea_nil)))))) len6) ea_nil) rfl (R_pickQ l3 (by decide) (by decide) (by decide))
      generalize pickQ bL x.2 = y at *
      have c1 : (pickQ cL y.2).1 ∈ cL := pickQ_mem (by decide)
      have e5 : EvX K (tCall (spJ K R_pick) [] E0 (tCons (tVar 0) (tCons (tLst (tCons (tTup (tCons (tC (V.int 1)) (tCons (tC (V.int 2)) tNil))) (tCons (tTup (tCons (tC (V.int 1)) (tCons (tC (V.int 1)) tNil))) (tCons (tTup (tCons (tUn (rU fun i => .int (-i)) (tC (V.int 1))) (tCons (tC (V.int 2)) tNil))) (tCons (tTup (tCons (tC (V.int 2)) (tCons (tC (V.int 1)) tNil))) (tCons (tTup (tCons (tC (V.int 9)) (tCons (tC (V.int 10)) tNil))) (tCons (tTup (tCons (tC (V.int 3)) (tCons (tC (V.int 4)) tNil))) tNil))))))) tNil)))
          [.own false p y.2.d, .un, .un, .un] (dq (pickQ cL y.2).1) [.own false p (pickQ cL y.2).2.d, .un, .un, .un] := ev_callJ (n := 0) rfl (ea_cons (ev_lst (ds := cL.map dq) (ea_cons (ev_dq rfl rfl) (ea_cons (ev_dq rfl rfl) (ea_cons (ev_dqn rfl rfl) (ea_cons (ev_dq rfl rfl) (ea_cons (ev_dq rfl rfl) (ea_cons (ev_dq rfl rfl) ea_nil)))))) len6) ea_nil) rfl (R_pickQ l4 (by decide) (by decide) (by decide))
      generalize pickQ cL y.2 = z at *
      refine r_seq (r_par (ea_cons e4 (ea_cons e5 ea_nil)) ?_)
      show RunS K _ [.own false p z.2.d, .un, .dat (dq y.1), .dat (dq z.1)] _
      obtain ⟨s1, s2⟩ := sz_c _ c1
      have s3 := sz_b _ b1
      refine r_ret (d := .list [dr [z.1, y.1, 1], .bool (insQ z.1 && decide (absQ y.1 < 1 + z.1))]) (ev_lst (ea_cons (ev_is (d' := dr [z.1, y.1, 1]) (ev_tup (ea_cons (ev_var rfl) (ea_cons (ev_var rfl) (ea_cons (ev_dq (q := 1) rfl rfl) ea_nil))) len3) rfl) (ea_cons (ev_and (ev_call (ea_cons (ev_var rfl) ea_nil) ⟨_, rfl, rfl⟩) (fun _ => ev_call (ea_cons (ev_is (d' := dq (absQ y.1)) (ev_tup (ea_cons (ev_cb (ea_cons (ev_op (ev_var rfl) ev_int (rv_ixT rfl)) ea_nil) rc_abs) (ea_cons (ev_op (ev_var rfl) ev_int (rv_ixT rfl)) ea_nil)) len2) (by rw [dq_abs])) (ea_cons (ev_call (ea_cons (ev_dq (q := 1) rfl rfl) (ea_cons (ev_var rfl) ea_nil)) ⟨1, z.1, rfl, okAdd sz_1 s1 (by decide), rfl⟩) ea_nil)) ⟨_, _, rfl, okLess s3 s2 (by decide), rfl⟩)) ea_nil)) len2) ⟨rfl, rfl⟩
/-! ### the rows of the law -/
theorem insQ_eq (a : Rat) : insQ a = (decide (-1 < a) && decide (a < 1)) := by
  unfold insQ
  rw [Bool.eq_iff_iff, Bool.and_eq_true, decide_eq_true_eq, decide_eq_true_eq, decide_eq_true_eq, Rat.lt_iff, Rat.lt_iff]
  have e1 : (-1 : Rat).num = -1 := rfl
  have e2 : (-1 : Rat).den = 1 := rfl
  have e3 : (1 : Rat).num = 1 := rfl
  have e4 : (1 : Rat).den = 1 := rfl
  rw [e1, e2, e3, e4]
  omega
theorem insQ_open (p : List Rat) : insQ (c0 p) = isOpen p := insQ_eq _
theorem monic_div (p : List Rat) : monicQ p = p.map (· / lastQ p) := by
  unfold monicQ
  apply List.map_congr_left
  intro x _
  rw [Rat.div_def, Rat.div_def, Rat.one_mul]
def R_lrows (ds : List PyData) (d : PyData) : Prop := ∃ p, ds = [dr p] ∧ OkPoly p ∧ (∀ x ∈ p, OkOver x (lastQ p)) ∧ d = drs (circleQ p)
theorem nx_parts {r : List Rat} {i : Nat} (hi : 1 + i < r.length) : ((partsQ r).drop 1).getD i 0 = r.getD (1 + i) 0 - c0 r * r.getD (r.length - 1 - (1 + i)) 0 := by
  have h1 : i < ((partsQ r).drop 1).length := by rw [List.length_drop, partsQ_len]; omega
  have h2 : 1 + i < (partsQ r).length := by rw [partsQ_len]; omega
  have h3 : 1 + i < r.reverse.length := by rw [List.length_reverse]; exact hi
  have h4 : r.length - 1 - (1 + i) < r.length := by omega
  rw [List.getD_eq_getElem?_getD, List.getElem?_eq_getElem h1, List.getD_eq_getElem?_getD, List.getElem?_eq_getElem hi, List.getD_eq_getElem?_getD, List.getElem?_eq_getElem h4]
  show ((partsQ r).drop 1)[i] = r[1 + i] - c0 r * r[r.length - 1 - (1 + i)]
  rw [List.getElem_drop]
  show (partsQ r)[1 + i] = _
  simp only [partsQ, List.getElem_map, List.getElem_zip, List.getElem_reverse]
theorem ok_law_rows (T : Tx K mg aN aO) {f f1 f2 f3 f4 : Addr} {fd fd1 fd2 fd3 fd4 : FuncData} (F : Fun K "_law_rows" "_law_rows" s__law_rows f fd) (c__law_frac : Cal P w K mg base "_law_frac" 1 ["top", "bottom"] (spD K R_lowest_in) f1 fd1)
    (c__law_inside : Cal P w K mg base "_law_inside" 1 ["one"] (spD K R_inside) f2 fd2) (c__law_take : Cal P w K mg base "_law_take" 2 ["one", "other"] (spD K R_take) f3 fd3) (c__law_mul : Cal P w K mg base "_law_mul" 2 ["one", "other"] (spD K R_times) f4 fd4) : FnOk P w K mg base CX0 3 f fd ["polynomial"] (spD K R_lrows) := by
  refine fn_D F sc__law_rows (by decide) (fun ds d h => ?_) (fun cdv A outer s H E hr => ⟨_, (pss_cons (ps_set (i := 1) sc__law_rows.nd rfl (by first | exact Or.inl rfl | exact Or.inr rfl) (pe_ix ix_seq (pv 0) (pe_un un_neg pe_int) (fun _ _ => rfl)))
      (pss_cons (ps_set (i := 2) sc__law_rows.nd rfl (by first | exact Or.inl rfl | exact Or.inr rfl) (pe_lst (pa_cons (pe_callTy call_tupX rfl T.n_tuple (by decide +kernel) (pa_cons (pe_lc (own := [("one", 7)]) (g := (gName 7)) (tt := tYes) rfl sc__law_rows.nd (pi_tup (pv 0)) (blkOk_by (own := [("one", 7)]) (N := ["polynomial", "by", "rows", "turn", "own", "below", "parts", "one", "k"]) (sc := defScope s__law_rows) (by decide +kernel)) (fun _ _ _ _ _ => (pg_name (i := 7) sc__law_rows.nd rfl (by first | exact Or.inl rfl | exact Or.inr rfl))) (fun _ _ _ _ _ => pts_nil) (fun _ _ _ _ _ => (pe_cal c__law_frac hr (by first | decide | exact Nat.le_refl _ | omega) rfl (pa_cons (pe_op op_mulX (pe_ix (show IxR _ (rIx K) from ix_seq) (pv 7) pe_int (fun _ _ => rfl)) (pe_ix (show IxR _ (rIx K) from ix_seq) (pv 1) pe_int (fun _ _ => rfl))) (pa_cons (pe_op op_mulX (pe_ix (show IxR _ (rIx K) from ix_seq) (pv 7) pe_int (fun _ _ => rfl)) (pe_ix (show IxR _ (rIx K) from ix_seq) (pv 1) pe_int (fun _ _ => rfl))) pa_nil))))) pa_nil)) pa_nil)))
      (pss_cons (ps_for PassesOwn.never rfl (pi_range1 rfl T.n_range (pa_cons (pe_callB call_lenX rfl T.n_len PySem.boot_len (pa_cons (pv 0) pa_nil)) pa_nil)) (pg_name (i := 3) sc__law_rows.nd rfl (by first | exact Or.inl rfl | exact Or.inr rfl))
        (pss_cons (ps_set (i := 4) sc__law_rows.nd rfl (by first | exact Or.inl rfl | exact Or.inr rfl) (pe_ix ix_seq (pv 2) (pe_un un_neg pe_int) (fun _ _ => rfl)))
      (pss_one (ps_if (PW.pt (pw_and (pt_cmpR op_gt (pe_callB call_lenX rfl T.n_len PySem.boot_len (pa_cons (pv 4) pa_nil)) pe_int (nomark _)) (pw_and1 (pt_val (pe_cal c__law_inside hr (by first | decide | exact Nat.le_refl _ | omega) rfl (pa_cons (pe_ix ix_seq (pv 4) pe_int (fun _ _ => rfl)) pa_nil))))))
        (pss_cons (ps_set (i := 5) sc__law_rows.nd rfl (by first | exact Or.inl rfl | exact Or.inr rfl) (pe_cal c__law_take hr (by first | decide | exact Nat.le_refl _ | omega) rfl (pa_cons (pe_tup (pa_cons pe_int (pa_cons pe_int pa_nil))) (pa_cons (pe_cal c__law_mul hr (by first | decide | exact Nat.le_refl _ | omega) rfl (pa_cons (pe_ix ix_seq (pv 4) pe_int (fun _ _ => rfl)) (pa_cons (pe_ix ix_seq (pv 4) pe_int (fun _ _ => rfl)) pa_nil))) pa_nil))))
      (pss_cons (ps_setLc (i := 6) (own := [("k", 8)]) (g := (gName 8)) (tt := tYes) rfl sc__law_rows.nd rfl rfl (sw_true rfl rfl rfl (by decide +kernel)) (pi_range2 rfl T.n_range (pa_cons pe_int (pa_cons (pe_callB call_lenX rfl T.n_len PySem.boot_len (pa_cons (pv 4) pa_nil)) pa_nil))) (blkOk_by (own := [("k", 8)]) (N := ["polynomial", "by", "rows", "turn", "own", "below", "parts", "one", "k"]) (sc := defScope s__law_rows) (by decide +kernel)) (fun _ _ _ _ _ => (pg_name (i := 8) sc__law_rows.nd rfl (by first | exact Or.inl rfl | exact Or.inr rfl))) (fun _ _ _ _ _ => pts_nil) (fun _ _ _ _ _ => (pe_cal c__law_take hr (by first | decide | exact Nat.le_refl _ | omega) rfl (pa_cons (pe_ix (show IxR _ (rIx K) from ix_seq) (pv 4) (pv 8) (fun _ _ => rfl)) (pa_cons (pe_cal c__law_mul hr (by first | decide | exact Nat.le_refl _ | omega) rfl (pa_cons (pe_ix (show IxR _ (rIx K) from ix_seq) (pv 4) pe_int (fun _ _ => rfl)) (pa_cons (pe_ix (show IxR _ (rIx K) from ix_seq) (pv 4) (pe_op op_sub (pe_op op_sub (pe_callB (show CallR _ _ (rLenX K) from call_lenX) rfl T.n_len PySem.boot_len (pa_cons (pv 4) pa_nil)) pe_int) (pv 8)) (fun _ _ => rfl)) pa_nil))) pa_nil)))))
      (pss_one (ps_expr (pe_bm PySem.F.plainAttrs_list PySem.F.slot_list_append PySem.F.type_list_append mt_append (pv 2) (pa_cons (pe_callTy call_tupX rfl T.n_tuple (by decide +kernel) (pa_cons (pe_lc (own := [("one", 7)]) (g := (gName 7)) (tt := tYes) rfl sc__law_rows.nd (pi_list (pv 6)) (blkOk_by (own := [("one", 7)]) (N := ["polynomial", "by", "rows", "turn", "own", "below", "parts", "one", "k"]) (sc := defScope s__law_rows) (by decide +kernel)) (fun _ _ _ _ _ => (pg_name (i := 7) sc__law_rows.nd rfl (by first | exact Or.inl rfl | exact Or.inr rfl))) (fun _ _ _ _ _ => pts_nil) (fun _ _ _ _ _ => (pe_cal c__law_frac hr (by first | decide | exact Nat.le_refl _ | omega) rfl (pa_cons (pe_op op_mulX (pe_ix (show IxR _ (rIx K) from ix_seq) (pv 7) pe_int (fun _ _ => rfl)) (pe_ix (show IxR _ (rIx K) from ix_seq) (pv 5) pe_int (fun _ _ => rfl))) (pa_cons (pe_op op_mulX (pe_ix (show IxR _ (rIx K) from ix_seq) (pv 7) pe_int (fun _ _ => rfl)) (pe_ix (show IxR _ (rIx K) from ix_seq) (pv 5) pe_int (fun _ _ => rfl))) pa_nil))))) pa_nil)) pa_nil))))))
        (pss_one ps_break)))))
      (pss_one (ps_ret (pv 2)))))), fun ds d hR => ?_⟩)
  · obtain ⟨p, rfl, _⟩ := h
    rfl
  · obtain ⟨p, rfl, ok, hov, rfl⟩ := hR
    walk_at "kk"
    have hpl : p.length ≤ 100000 := Nat.le_trans ok.len (by decide)
    have hdiv : ∀ (l : List Rat) (b : Rat) (Γ : List Slot) (u v : Nat) (x : Rat), Γ[u]? = some (.dat (dq x)) → Γ[v]? = some (.dat (dq b)) → OkOver x b → EvX K (tCall (spD K R_lowest_in) [] E0 (tCons (tOp rMulX (tOp (rIx K) (tVar u) (tC (V.int 0))) (tOp (rIx K) (tVar v) (tC (V.int 1)))) (tCons (tOp rMulX (tOp (rIx K) (tVar u) (tC (V.int 1))) (tOp (rIx K) (tVar v) (tC (V.int 0)))) tNil))) Γ (dq (x / b)) Γ := fun l b Γ u v x hu hv ⟨h0, h1, h2, h3⟩ =>
      ev_call (ea_cons (ev_op (ev_op (ev_var hu) ev_int (rv_ixT rfl)) (ev_op (ev_var hv) ev_int (rv_ixT rfl)) (rv_mul h1)) (ea_cons (ev_op (ev_op (ev_var hu) ev_int (rv_ixT rfl)) (ev_op (ev_var hv) ev_int (rv_ixT rfl)) (rv_mul h2)) ea_nil)) (rt_low (Int.mul_ne_zero den_ne (num_ne h0)) h3 (low_div x b))
    refine r_seq (r_asg (ev_op (ev_var rfl) (ev_neg ev_int) (rv_ixT (atI_lastQ ok.ne))) ?_)
    show RunS K _ [.dat (dr p), .dat (dq (lastQ p)), .un, .un, .un, .un, .un, .un, .un] _
    refine r_seq (r_asgN (ds := [dr (monicQ p)]) (en_lst (ea_cons (ev_cb (ea_cons (ev_lc1 ((monicQ p).map dq) (ei_T (ev_var rfl)) (by rw [List.length_map]; exact hpl) (by rw [List.length_map, List.length_map, monicQ_len]) (fun _ _ _ e => nomatch e) (fun i hi => ?_)) ea_nil) rc_tupL) ea_nil) len1) (fun a => ?_))
    · rw [List.length_map] at hi
      have hi2 : i < (monicQ p).length := by rw [monicQ_len]; exact hi
      have e : (monicQ p)[i] = p[i] / lastQ p := by
        simp only [monic_div, List.getElem_map]
      rw [nthD_map hi, nthD_map hi2, e]
      exact hdiv [] _ _ _ _ _ rfl rfl (hov _ (List.getElem_mem hi))
    show RunS K _ [.dat (dr p), .dat (dq (lastQ p)), .own true a [dr (monicQ p)], .un, .un, .un, .un, .un, .un] _
    refine r_seq (r_for (js := [3]) (fun i Γ' => ∃ fs r s3 s4 s5 s6, Γ' = [.dat (dr p), .dat (dq (lastQ p)), .own true a ((fs ++ [r]).map dr), s3, s4, s5, s6, .un, .un] ∧ fs ++ rowsF (p.length - i) r = circleQ p ∧ OkRows (p.length - i) r ∧ 0 < r.length ∧ fs.length + r.length ≤ p.length)
      (ei_R1 (n := p.length) (ea_cons (ev_is (ev_cb (ea_cons (ev_var rfl) ea_nil) rc_lenT) (by rw [List.length_map])) ea_nil) (by have := ok.len; omega)) ⟨[], monicQ p, _, _, _, _, rfl, by show rowsF (p.length - 0) (monicQ p) = rowsF (monicQ p).length (monicQ p); rw [monicQ_len, Nat.sub_zero], by rw [Nat.sub_zero]; exact ok.rows, by rw [monicQ_len]; exact List.length_pos_iff.mpr ok.ne, by rw [monicQ_len]; simp⟩ ?_ ?_)
    · rintro i Γ' hi ⟨fs, r, s3, s4, s5, s6, rfl, hrows, hok, hpos, hsum⟩
      obtain ⟨m, hm⟩ : ∃ m, p.length - i = m + 1 := ⟨p.length - i - 1, by omega⟩
      have hm' : p.length - (i + 1) = m := by omega
      rw [hm] at hok hrows
      obtain ⟨ho, hnx⟩ := hok
      have hr0 : r ≠ [] := List.length_pos_iff.mp hpos
      have hlen : ((fs ++ [r]).map dr).length < 100000 := by
        rw [List.length_map, List.length_append, List.length_singleton]
        have := ok.len
        omega
      have hrl : r.length ≤ 100000 := by omega
      refine ⟨_, eg_name, ?_⟩
      refine r_seq (r_asg (ev_ixO rfl (ev_neg ev_int) rfl atI_drs_last) ?_)
      show RunS K _ [.dat (dr p), .dat (dq (lastQ p)), .own true a ((fs ++ [r]).map dr), .dat (.int (i : Nat)), .dat (dr r), s5, s6, .un, .un] _
      refine r_if (b := decide (1 < (((r.map dq).length : Nat) : Int)) && isOpen r) (eb_and (eb_test (ev_op (ev_cb (ea_cons (ev_var rfl) ea_nil) rc_lenT) ev_int rv_gt)) (fun _ => eb_is (eb_val (ev_call (ea_cons (ev_op (ev_var rfl) ev_int (rv_ixT (atI_c0 hr0))) ea_nil) ⟨_, rfl, rfl⟩)) (insQ_open r))) (fun c => ?_) (fun c => ?_)
      · rw [Bool.and_eq_true, decide_eq_true_eq, List.length_map] at c
        have c1 : 1 < r.length := by omega
        obtain ⟨⟨h1, h2, h3, h4⟩, hk⟩ := hnx ⟨c1, c.2⟩
        refine r_seq (r_asg (ev_call (ea_cons (ev_dq (q := 1) rfl rfl) (ea_cons (ev_call (ea_cons (ev_op (ev_var rfl) ev_int (rv_ixT (atI_c0 hr0))) (ea_cons (ev_op (ev_var rfl) ev_int (rv_ixT (atI_c0 hr0))) ea_nil)) ⟨_, _, rfl, h1, rfl⟩) ea_nil)) ⟨1, _, rfl, h2, rfl⟩) ?_)
        show RunS K _ [.dat (dr p), .dat (dq (lastQ p)), .own true a ((fs ++ [r]).map dr), .dat (.int (i : Nat)), .dat (dr r), .dat (dq (belowQ r)), s6, .un, .un] _
        have hpn : (((partsQ r).drop 1).map dq).length = (((r.map dq).length : Nat) - (1 : Int)).toNat := by
          rw [List.length_map, List.length_map, List.length_drop, partsQ_len]
          omega
        refine r_seq (r_asg (ev_lc1 (((partsQ r).drop 1).map dq) (ei_R2 (lo := 1) (hi := ((r.map dq).length : Nat)) (ea_cons ev_int (ea_cons (ev_cb (ea_cons (ev_var rfl) ea_nil) rc_lenT) ea_nil)) (by decide) (by rw [List.length_map]; omega)) (by rw [List.length_map]; omega) hpn (fun _ _ _ e => nomatch e) (fun k hk => ?_)) ?_)
        · rw [List.length_map] at hk
          have hk2 : 1 + k < r.length := by omega
          have hk3 : k < ((partsQ r).drop 1).length := by rw [List.length_drop, partsQ_len]; omega
          have hk4 : r.length - 1 - (1 + k) < r.length := by omega
          have hz : (r[1 + k], r[r.length - 1 - (1 + k)]) ∈ r.zip r.reverse := by
            have hzl : 1 + k < (r.zip r.reverse).length := by rw [List.length_zip, List.length_reverse]; omega
            have := List.getElem_mem hzl
            rw [List.getElem_zip, List.getElem_reverse] at this
            exact this
          obtain ⟨k1, k2⟩ := h3 _ hz
          have g1 : r.getD (1 + k) 0 = r[1 + k] := by rw [List.getD_eq_getElem?_getD, List.getElem?_eq_getElem hk2]; rfl
          have g2 : r.getD (r.length - 1 - (1 + k)) 0 = r[r.length - 1 - (1 + k)] := by rw [List.getD_eq_getElem?_getD, List.getElem?_eq_getElem hk4]; rfl
          rw [nthD_mapQ hk3, nx_parts hk2]
          have at1 : atI (r.map dq) (1 + ((k : Nat) : Int)) = some (dq (r.getD (1 + k) 0)) := by
            have := atI_rat hk2
            rw [Int.natCast_add] at this
            exact this
          have at2 : atI (r.map dq) ((((r.map dq).length : Nat) : Int) - 1 - (1 + ((k : Nat) : Int))) = some (dq (r.getD (r.length - 1 - (1 + k)) 0)) := by
            have := atI_rat hk4
            rw [show (((r.map dq).length : Nat) : Int) - 1 - (1 + ((k : Nat) : Int)) = ((r.length - 1 - (1 + k) : Nat) : Int) by rw [List.length_map]; omega]
            exact this
          refine ev_call (ea_cons (ev_op (ev_var rfl) (ev_var rfl) (rv_ixT at1)) (ea_cons (ev_call (ea_cons (ev_op (ev_var rfl) ev_int (rv_ixT (atI_c0 hr0))) (ea_cons (ev_op (ev_var rfl) (ev_op (ev_op (ev_cb (ea_cons (ev_var rfl) ea_nil) rc_lenT) ev_int rv_sub) (ev_var rfl) rv_sub) (rv_ixT at2)) ea_nil)) ⟨_, _, rfl, ?_, rfl⟩) ea_nil)) ⟨_, _, rfl, ?_, rfl⟩
          · rw [g2]
            exact k1
          · rw [g1, g2]
            exact k2
        show RunS K _ [.dat (dr p), .dat (dq (lastQ p)), .own true a ((fs ++ [r]).map dr), .dat (.int (i : Nat)), .dat (dr r), .dat (dq (belowQ r)), .dat (.list (((partsQ r).drop 1).map dq)), .un, .un] _
        refine r_app rfl (ev_cb (ea_cons (ev_lc1 ((nextQ r).map dq) (ei_L (ev_var rfl)) (by rw [List.length_map, List.length_drop, partsQ_len]; omega) (by rw [List.length_map, List.length_map, nextQ_len, List.length_drop, partsQ_len]) (fun _ _ _ e => nomatch e) (fun k hk => ?_)) ea_nil) rc_tupL) rfl hlen ?_
        · rw [List.length_map] at hk
          have hk2 : k < (nextQ r).length := by
            rw [nextQ_len]
            rw [List.length_drop, partsQ_len] at hk
            exact hk
          have e : (nextQ r)[k] = ((partsQ r).drop 1)[k] / belowQ r := by
            simp only [nextQ, List.getElem_map]
          rw [nthD_map hk, nthD_map hk2, e]
          exact hdiv [] _ _ _ _ _ rfl rfl (h4 _ (List.getElem_mem hk))
        · refine ⟨fs ++ [r], nextQ r, .dat (.int (i : Nat)), .dat (dr r), .dat (dq (belowQ r)), .dat (.list (((partsQ r).drop 1).map dq)), ?_, ?_, by rw [hm']; exact hk, by rw [nextQ_len]; omega, by rw [nextQ_len, List.length_append, List.length_singleton]; omega⟩
          · show [Slot.dat (dr p), .dat (dq (lastQ p)), Slot.own true a ((fs ++ [r]).map dr ++ [dr (nextQ r)]), _, _, _, _, _, _] = _
            rw [List.map_append (l₁ := fs ++ [r])]
            rfl
          · rw [← hrows, hm']
            show fs ++ [r] ++ rowsF m (nextQ r) = fs ++ (r :: (if 1 < r.length ∧ isOpen r = true then rowsF m (nextQ r) else []))
            rw [if_pos ⟨c1, c.2⟩, List.append_assoc]
            rfl
      · refine r_break ?_
        refine r_freeze (n := 2) rfl ?_
        refine r_ret (ev_var rfl) ?_
        show PyData.list ((fs ++ [r]).map dr) = drs (circleQ p)
        rw [← hrows]
        have hn : ¬ (1 < r.length ∧ isOpen r = true) := fun z => by
          have c' : (decide (1 < (((r.map dq).length : Nat) : Int)) && isOpen r) = true := by
            rw [Bool.and_eq_true, decide_eq_true_eq, List.length_map]
            exact ⟨by omega, z.2⟩
          rw [c'] at c
          cases c
        show PyData.list ((fs ++ [r]).map dr) = PyData.list ((fs ++ (r :: (if 1 < r.length ∧ isOpen r = true then rowsF m (nextQ r) else []))).map dr)
        rw [if_neg hn]
    · rintro Γ' ⟨fs, r, s3, s4, s5, s6, rfl, hrows, hok, hpos, hsum⟩
      refine r_freeze (n := 2) rfl ?_
      refine r_ret (ev_var rfl) ?_
      show PyData.list ((fs ++ [r]).map dr) = drs (circleQ p)
      rw [← hrows, Nat.sub_self]
      rfl
end
end C56
end Part17

section Part18
set_option Elab.async false
set_option linter.all false
set_option maxRecDepth 100000
set_option maxHeartbeats 4000000
open PySem PySem.Spec PyProof.Rows L2 DL
open Evl (Ex)
/-! ### my words for the walk: expressions, arguments, operators, tests -/
local macro_rules | `(tactic| walk_at "len") => `(tactic| first
  | exact DL.len0
  | exact DL.len1
  | exact DL.len2
  | exact DL.len3
  | exact DL.len4
  | exact DL.len5
  | exact DL.len6
  | exact DL.len7
  | exact DL.len8
  | exact DL.len9
  | exact DL.len10
  | exact DL.len11
  | exact DL.len12
  | exact DL.len13
  | exact DL.len14
  | exact DL.len15
  | exact DL.len16
  | exact DL.len17
  | exact DL.len18
  | exact DL.len19
  | exact DL.len20)
local macro_rules | `(tactic| walk_at "sh") => `(tactic| first
  | exact DL.sh_int
  | exact DL.sh_none
  | exact DL.sh_bool
  | exact DL.sh_dq
  | exact DL.sh_dr
  | exact DL.sh_nil
  | assumption
  | rfl)
local macro_rules | `(tactic| walk_at "sc") => `(tactic| first
  | fail "side")
local macro_rules | `(tactic| walk_at "side") => `(tactic| first
  | assumption
  | rfl
  | (walk_at "sc"; done)
  | (trace "SIDE"; trace_state; fail "side"))
local macro_rules | `(tactic| walk_at "at") => `(tactic| first
  | exact rfl
  | (walk_at "side"))
local macro_rules | `(tactic| walk_at "rv") => `(tactic| first
  | (with_reducible exact rv_add)
  | (with_reducible exact rv_sub)
  | (with_reducible exact rv_lt)
  | (with_reducible exact rv_le)
  | (with_reducible exact rv_gt)
  | (with_reducible exact rv_ge)
  | (with_reducible exact rv_isN)
  | (with_reducible exact rv_notN)
  | (with_reducible exact rv_isB)
  | (with_reducible exact rv_notB)
  | ((with_reducible refine' rv_ixT ?x1); (case' x1 => walk_at "at"))
  | ((with_reducible refine' rv_ixL ?x1); (case' x1 => walk_at "at"))
  | ((with_reducible refine' rv_mul ?x1); (case' x1 => walk_at "side"))
  | ((with_reducible refine' rv_fd ?x1); (case' x1 => walk_at "side"))
  | ((with_reducible refine' rv_mod ?x1); (case' x1 => first | assumption | decide | omega))
  | ((with_reducible refine' rv_pow ?x1); (case' x1 => first | decide | walk_at "side"))
  | ((with_reducible refine' rv_shl ?x1); (case' x1 => first | decide | walk_at "side"))
  | ((with_reducible refine' rv_eq ?x1 ?x2); (case' x1 => walk_at "sh"); (case' x2 => walk_at "sh"))
  | ((with_reducible refine' rv_ne ?x1 ?x2); (case' x1 => walk_at "sh"); (case' x2 => walk_at "sh"))
  | ((with_reducible refine' rv_catT ?x1); (case' x1 => walk_at "side"))
  | ((with_reducible refine' rv_catL ?x1); (case' x1 => walk_at "side"))
  | ((with_reducible refine' rv_rep ?x1 ?x2); (case' x1 => walk_at "side"); (case' x2 => walk_at "side"))
  | (trace "RV"; trace_state; fail "rv"))
local macro_rules | `(tactic| walk_at "rc") => `(tactic| first
  | (with_reducible exact rc_lenT)
  | (with_reducible exact rc_lenL)
  | (with_reducible exact rc_gcd)
  | (with_reducible exact rc_abs)
  | (with_reducible exact rc_min)
  | (with_reducible exact rc_max)
  | (with_reducible exact rc_intI)
  | (with_reducible exact rc_intB)
  | (with_reducible exact rc_tupL)
  | (with_reducible exact rc_tupT)
  | (with_reducible exact rc_lstT)
  | (with_reducible exact rc_lstL)
  | (with_reducible exact rc_all)
  | (with_reducible exact rc_any))
local macro_rules | `(tactic| walk_at "rt") => `(tactic| first
  | fail "no promise")
local macro_rules | `(tactic| walk_at "ea") => `(tactic| first
  | exact ea_nil
  | exact ea_cons (by walk_at "ev") (by walk_at "ea"))
local macro_rules | `(tactic| walk_at "ev") => `(tactic| first
  | exact ev_var rfl
  | exact ev_int
  | exact ev_bl
  | exact ev_non
  | exact ev_str
  | exact ev_lenO rfl
  | exact ev_tupO rfl
  | ((with_reducible refine' ev_ixO ?x0 ?x1 ?x2 ?x3); (case' x0 => exact rfl); (case' x1 => walk_at "ev"); (case' x2 => exact rfl); (case' x3 => walk_at "at"))
  | ((with_reducible refine' ev_op ?x1 ?x2 ?x3); (case' x1 => walk_at "ev"); (case' x2 => walk_at "ev"); (case' x3 => walk_at "rv"))
  | ((with_reducible refine' ev_call ?x1 ?x2); (case' x1 => walk_at "ea"); (case' x2 => walk_at "rt"))
  | ((with_reducible refine' ev_isiInt ?x1); (case' x1 => walk_at "ev"))
  | ((with_reducible refine' ev_isiBool ?x1); (case' x1 => walk_at "ev"))
  | ((with_reducible refine' ev_isiTup ?x1); (case' x1 => walk_at "ev"))
  | ((with_reducible refine' ev_isiLst ?x1); (case' x1 => walk_at "ev"))
  | ((with_reducible refine' ev_isiStr ?x1); (case' x1 => walk_at "ev"))
  | ((with_reducible refine' ev_neg ?x1); (case' x1 => walk_at "ev"))
  | ((with_reducible refine' ev_not ?x1); (case' x1 => walk_at "ev"))
  | ((with_reducible refine' ev_revT ?x1); (case' x1 => walk_at "ev"))
  | ((with_reducible refine' ev_revL ?x1); (case' x1 => walk_at "ev"))
  | ((with_reducible refine' ev_cb ?x1 ?x2); (case' x1 => walk_at "ea"); (case' x2 => walk_at "rc"))
  | ((with_reducible refine' ev_tup ?x1 ?x2); (case' x1 => walk_at "ea"); (case' x2 => walk_at "len"))
  | ((with_reducible refine' ev_lst ?x1 ?x2); (case' x1 => walk_at "ea"); (case' x2 => walk_at "len"))
  | ((with_reducible refine' ev_and ?x1 ?x2); (case' x1 => walk_at "ev"); (case' x2 => (intro _; walk_at "ev")))
  | ((with_reducible refine' ev_or ?x1 ?x2); (case' x1 => walk_at "ev"); (case' x2 => (intro _; walk_at "ev")))
  | ((with_reducible refine' ev_slT ?x1 ?x2 ?x3); (case' x1 => walk_at "ev"); (case' x2 => walk_at "eo"); (case' x3 => walk_at "eo"))
  | ((with_reducible refine' ev_slL ?x1 ?x2 ?x3); (case' x1 => walk_at "ev"); (case' x2 => walk_at "eo"); (case' x3 => walk_at "eo"))
  | (trace "EV"; trace_state; fail "ev"))
local macro_rules | `(tactic| walk_at "eo") => `(tactic| first
  | exact eo_none
  | exact eo_some (by walk_at "ev"))
local macro_rules | `(tactic| walk_at "eb") => `(tactic| first
  | ((with_reducible refine' eb_and ?x1 ?x2); (case' x1 => walk_at "eb"); (case' x2 => (intro _; walk_at "eb")))
  | ((with_reducible refine' eb_or ?x1 ?x2); (case' x1 => walk_at "eb"); (case' x2 => (intro _; walk_at "eb")))
  | ((with_reducible refine' eb_not ?x1); (case' x1 => walk_at "eb"))
  | ((with_reducible refine' eb_val ?x1); (case' x1 => walk_at "ev"))
  | ((with_reducible refine' eb_test ?x1); (case' x1 => walk_at "ev")))
local macro_rules | `(tactic| walk_at "ret") => `(tactic| (refine' r_ret ?y1 ?y2; (case' y1 => walk_at "ev"); (case' y2 => try (first | rfl | skip))))
local macro_rules | `(tactic| walk_at "asg") => `(tactic| (refine' r_asg ?y1 ?y2; (case' y1 => walk_at "ev")))
local macro_rules | `(tactic| walk_at "if") => `(tactic| (refine' r_if ?y1 ?y2 ?y3; (case' y1 => walk_at "eb")))
local macro_rules | `(tactic| walk_at "par") => `(tactic| (refine' r_par ?y1 ?y2; (case' y1 => walk_at "ea")))
local macro_rules | `(tactic| walk_at "kk") => `(tactic| dsimp only [cxOf, Cx.nox, Cx.wish, Cx.blk, slots, List.map, List.length, List.replicate, List.append, Nat.sub, Nat.add, List.cons_append, List.nil_append, Nat.reduceAdd, Nat.reduceSub, List.replicate_succ, List.replicate_zero])

namespace C56
section
variable {P : Program} {w : World} {K : PySem.W.Frag} {mg : Str → Option Value} {base : Heap} {aN aO : Addr}
/-! ### values made of the rows -/
structure BendX where
  k : Int
  j : Int
  n : Rat
  row : List Rat
  lst : List Rat
def midL (rs : List PyData) (k : Int) (x : PyData) : PyData := .list (sliceD rs none (some k) ++ [x] ++ sliceD rs (some (k + 1)) none)
def midT (ms : List PyData) (j : Int) (x : PyData) : PyData := .tuple (sliceD ms none (some j) ++ [x] ++ sliceD ms (some (j + 1)) none)
def endL (rs : List PyData) (x : PyData) : PyData := .list (sliceD rs none (some (-1)) ++ [x])
def endT (ms : List PyData) (x : PyData) : PyData := .tuple (sliceD ms none (some (-1)) ++ [x])
def bendL (R : List (List Rat)) (X : BendX) : List PyData :=
  [.tuple (R.map dr), .list (sliceD (R.map dr) none (some (-1))), .list (R.map dr ++ [dr [1]]), .list (R.map dr).reverse, midL (R.map dr) X.k (midT (X.row.map dq) X.j (dq X.n)), midL (R.map dr) X.k (.list (X.row.map dq))]
  ++ [midL (R.map dr) X.k (midT (X.row.map dq) X.j (.int 1)), midL (R.map dr) X.k .none, .list [], .none]
  ++ [endL (R.map dr) (endT (X.lst.map dq) (.tuple [.bool true, .int 1])), endL (R.map dr) (endT (X.lst.map dq) (.tuple [.int 1, .bool true])), endL (R.map dr) (endT (X.lst.map dq) (.tuple [.int 2, .int 2]))]
def bendX (j : J) (R : List (List Rat)) : BendX × J :=
  let a := nx j (R.length : Nat)
  let row := R.getD a.1.toNat []
  let b := nx a.2 (row.length : Nat)
  (⟨a.1, b.1, (numF b.2).1, row, R.getLastD []⟩, (numF b.2).2)
def R_bends (js ds : List PyData) (d : PyData) (js' : List PyData) : Prop := ∃ j R, js = j.d ∧ ds = [drs R] ∧ OkJ 80000 j ∧ R ≠ [] ∧ R.length ≤ 100 ∧ (∀ r ∈ R, r ≠ [] ∧ r.length ≤ 100) ∧ d = .list (bendL R (bendX j R).1) ∧ js' = (bendX j R).2.d
theorem sliceD_len {ds : List PyData} {lo hi : Option Int} {n : Nat} (h : ds.length ≤ n) : (sliceD ds lo hi).length ≤ n := by
  unfold sliceD
  rw [List.length_take, List.length_drop]
  omega
theorem len_app {xs ys : List PyData} {n m : Nat} (h1 : xs.length ≤ n) (h2 : ys.length ≤ m) : (xs ++ ys).length ≤ n + m := by
  rw [List.length_append]
  omega
section
variable {Γ : List Slot} {rs ms : List PyData} {x : PyData} {te tm tk : TE} {k : Int}
theorem ev_midL {i u : Nat} (hr : rs.length ≤ 100) (h1 : Γ[i]? = some (.dat (.list rs))) (h2 : Γ[u]? = some (.dat (.int k))) (hx : EvX K te Γ x Γ) :
    EvX K (tOp (rPlus K) (tOp (rPlus K) (tSl (rSl K) (tVar i) tNoPart (tPart (tVar u))) (tLst (tCons te tNil))) (tSl (rSl K) (tVar i) (tPart (tOp (rPlus K) (tVar u) (tC (V.int 1)))) tNoPart)) Γ (midL rs k x) Γ := by
  have e1 : (sliceD rs none (some k)).length ≤ 100 := sliceD_len hr
  have e2 : (sliceD rs (some (k + 1)) none).length ≤ 100 := sliceD_len hr
  have e3 := len_app e1 (len1 (a0 := x))
  refine ev_op (ev_op (ev_slL (ev_var h1) eo_none (eo_some (ev_var h2))) (ev_lst (ea_cons hx ea_nil) len1) (rv_catL ?_)) (ev_slL (ev_var h1) (eo_some (ev_op (ev_var h2) ev_int rv_add)) eo_none) (rv_catL ?_)
  · rw [List.length_singleton]
    omega
  · rw [List.length_append, List.length_singleton]
    omega
theorem ev_midT {u : Nat} {j : Int} (hr : ms.length ≤ 100) (h1 : EvX K tm Γ (.tuple ms) Γ) (h2 : Γ[u]? = some (.dat (.int j))) (hx : EvX K te Γ x Γ) :
    EvX K (tOp (rPlus K) (tOp (rPlus K) (tSl (rSl K) tm tNoPart (tPart (tVar u))) (tTup (tCons te tNil))) (tSl (rSl K) tm (tPart (tOp (rPlus K) (tVar u) (tC (V.int 1)))) tNoPart)) Γ (midT ms j x) Γ := by
  have e1 : (sliceD ms none (some j)).length ≤ 100 := sliceD_len hr
  have e2 : (sliceD ms (some (j + 1)) none).length ≤ 100 := sliceD_len hr
  refine ev_op (ev_op (ev_slT h1 eo_none (eo_some (ev_var h2))) (ev_tup (ea_cons hx ea_nil) len1) (rv_catT ?_)) (ev_slT h1 (eo_some (ev_op (ev_var h2) ev_int rv_add)) eo_none) (rv_catT ?_)
  · rw [List.length_singleton]
    omega
  · rw [List.length_append, List.length_singleton]
    omega
theorem ev_in {i : Nat} (h1 : Γ[i]? = some (.dat (.list rs))) : EvX K (tSl (rSl K) (tVar i) tNoPart (tPart (tUn (rU fun i => .int (-i)) (tC (V.int 1))))) Γ (.list (sliceD rs none (some (-1)))) Γ := ev_slL (ev_var h1) eo_none (eo_some (ev_neg ev_int))
theorem ev_endL {i : Nat} (hr : rs.length ≤ 100) (h1 : Γ[i]? = some (.dat (.list rs))) (hx : EvX K te Γ x Γ) :
    EvX K (tOp (rPlus K) (tSl (rSl K) (tVar i) tNoPart (tPart (tUn (rU fun i => .int (-i)) (tC (V.int 1))))) (tLst (tCons te tNil))) Γ (endL rs x) Γ := by
  have e1 : (sliceD rs none (some (-1))).length ≤ 100 := sliceD_len hr
  refine ev_op (ev_in h1) (ev_lst (ea_cons hx ea_nil) len1) (rv_catL ?_)
  rw [List.length_singleton]
  omega
theorem ev_endT (hr : ms.length ≤ 100) (h1 : EvX K tm Γ (.tuple ms) Γ) (hx : EvX K te Γ x Γ) :
    EvX K (tOp (rPlus K) (tSl (rSl K) tm tNoPart (tPart (tUn (rU fun i => .int (-i)) (tC (V.int 1))))) (tTup (tCons te tNil))) Γ (endT ms x) Γ := by
  have e1 : (sliceD ms none (some (-1))).length ≤ 100 := sliceD_len hr
  refine ev_op (ev_slT h1 eo_none (eo_some (ev_neg ev_int))) (ev_tup (ea_cons hx ea_nil) len1) (rv_catT ?_)
  rw [List.length_singleton]
  omega
end
theorem ok_law_bends (T : Tx K mg aN aO) {f f1 f2 : Addr} {fd fd1 fd2 : FuncData} (F : Fun K "_law_bends" "_law_bends" s__law_bends f fd) (c__law_next : Cal P w K mg base "_law_next" 1 ["jar", "many"] (spJ K R_nx) f1 fd1) (c__law_number : Cal P w K mg base "_law_number" 3 ["jar"] (spJ K R_number) f2 fd2) : FnOk P w K mg base CX0 4 f fd ["jar", "rows"] (spJ K R_bends) := by
  refine fn_J F sc__law_bends (by decide) (fun js ds d js' h => ?_) (fun cdv A outer s H E hr => ⟨_, (pss_cons (ps_set (i := 2) sc__law_bends.nd rfl (by first | exact Or.inl rfl | exact Or.inr rfl) (pe_cal c__law_next hr (by first | decide | exact Nat.le_refl _ | omega) rfl (pa_cons (pv 0) (pa_cons (pe_callB call_lenX rfl T.n_len PySem.boot_len (pa_cons (pv 1) pa_nil)) pa_nil))))
      (pss_cons (ps_par (i := 3) (j := 4) rfl sc__law_bends.nd rfl rfl (by decide) rfl rfl (pa_cons (pe_cal c__law_next hr (by first | decide | exact Nat.le_refl _ | omega) rfl (pa_cons (pv 0) (pa_cons (pe_callB call_lenX rfl T.n_len PySem.boot_len (pa_cons (pe_ix ix_seq (pv 1) (pv 2) (fun _ _ => rfl)) pa_nil)) pa_nil))) (pa_cons (pe_cal c__law_number hr (by first | decide | exact Nat.le_refl _ | omega) rfl (pa_cons (pv 0) pa_nil)) pa_nil)) (by rfl))
      (pss_cons (ps_set (i := 5) sc__law_bends.nd rfl (by first | exact Or.inl rfl | exact Or.inr rfl) (pe_op op_plus (pe_op op_plus (pe_slice sl_any (pe_ix ix_seq (pv 1) (pv 2) (fun _ _ => rfl)) po_none (po_some (pv 3))) (pe_tup (pa_cons (pv 4) pa_nil))) (pe_slice sl_any (pe_ix ix_seq (pv 1) (pv 2) (fun _ _ => rfl)) (po_some (pe_op op_plus (pv 3) pe_int)) po_none)))
      (pss_cons (ps_set (i := 6) sc__law_bends.nd rfl (by first | exact Or.inl rfl | exact Or.inr rfl) (pe_lst (pa_cons (pe_callTy call_tupX rfl T.n_tuple (by decide +kernel) (pa_cons (pv 1) pa_nil)) (pa_cons (pe_slice sl_any (pv 1) po_none (po_some (pe_un un_neg pe_int))) (pa_cons (pe_op op_plus (pv 1) (pe_lst (pa_cons (pe_tup (pa_cons (pe_tup (pa_cons pe_int (pa_cons pe_int pa_nil))) pa_nil)) pa_nil))) (pa_cons (pe_rev (pv 1)) (pa_cons (pe_op op_plus (pe_op op_plus (pe_slice sl_any (pv 1) po_none (po_some (pv 2))) (pe_lst (pa_cons (pv 5) pa_nil))) (pe_slice sl_any (pv 1) (po_some (pe_op op_plus (pv 2) pe_int)) po_none)) (pa_cons (pe_op op_plus (pe_op op_plus (pe_slice sl_any (pv 1) po_none (po_some (pv 2))) (pe_lst (pa_cons (pe_callTy call_lstX rfl T.n_list (by decide +kernel) (pa_cons (pe_ix ix_seq (pv 1) (pv 2) (fun _ _ => rfl)) pa_nil)) pa_nil))) (pe_slice sl_any (pv 1) (po_some (pe_op op_plus (pv 2) pe_int)) po_none)) pa_nil))))))))
      (pss_cons (ps_set (i := 6) sc__law_bends.nd rfl (by first | exact Or.inl rfl | exact Or.inr rfl) (pe_op op_plus (pv 6) (pe_lst (pa_cons (pe_op op_plus (pe_op op_plus (pe_slice sl_any (pv 1) po_none (po_some (pv 2))) (pe_lst (pa_cons (pe_op op_plus (pe_op op_plus (pe_slice sl_any (pe_ix ix_seq (pv 1) (pv 2) (fun _ _ => rfl)) po_none (po_some (pv 3))) (pe_tup (pa_cons pe_int pa_nil))) (pe_slice sl_any (pe_ix ix_seq (pv 1) (pv 2) (fun _ _ => rfl)) (po_some (pe_op op_plus (pv 3) pe_int)) po_none)) pa_nil))) (pe_slice sl_any (pv 1) (po_some (pe_op op_plus (pv 2) pe_int)) po_none)) (pa_cons (pe_op op_plus (pe_op op_plus (pe_slice sl_any (pv 1) po_none (po_some (pv 2))) (pe_lst (pa_cons pe_non pa_nil))) (pe_slice sl_any (pv 1) (po_some (pe_op op_plus (pv 2) pe_int)) po_none)) (pa_cons (pe_lst pa_nil) (pa_cons pe_non pa_nil)))))))
      (pss_one (ps_ret (pe_op op_plus (pv 6) (pe_lst (pa_cons (pe_op op_plus (pe_slice sl_any (pv 1) po_none (po_some (pe_un un_neg pe_int))) (pe_lst (pa_cons (pe_op op_plus (pe_slice sl_any (pe_ix ix_seq (pv 1) (pe_un un_neg pe_int) (fun _ _ => rfl)) po_none (po_some (pe_un un_neg pe_int))) (pe_tup (pa_cons (pe_tup (pa_cons pe_bl (pa_cons pe_int pa_nil))) pa_nil))) pa_nil))) (pa_cons (pe_op op_plus (pe_slice sl_any (pv 1) po_none (po_some (pe_un un_neg pe_int))) (pe_lst (pa_cons (pe_op op_plus (pe_slice sl_any (pe_ix ix_seq (pv 1) (pe_un un_neg pe_int) (fun _ _ => rfl)) po_none (po_some (pe_un un_neg pe_int))) (pe_tup (pa_cons (pe_tup (pa_cons pe_int (pa_cons pe_bl pa_nil))) pa_nil))) pa_nil))) (pa_cons (pe_op op_plus (pe_slice sl_any (pv 1) po_none (po_some (pe_un un_neg pe_int))) (pe_lst (pa_cons (pe_op op_plus (pe_slice sl_any (pe_ix ix_seq (pv 1) (pe_un un_neg pe_int) (fun _ _ => rfl)) po_none (po_some (pe_un un_neg pe_int))) (pe_tup (pa_cons (pe_tup (pa_cons pe_int (pa_cons pe_int pa_nil))) pa_nil))) pa_nil))) pa_nil)))))))))))), fun js ds d js' p hR => ?_⟩)
  · obtain ⟨j, R, _, rfl, _⟩ := h
    rfl
  · obtain ⟨j0, R, rfl, rfl, ok, hne, hlen, hrow, rfl, rfl⟩ := hR
    walk_at "kk"
    have hR0 := List.length_pos_iff.mpr hne
    have hrs : (R.map dr).length ≤ 100 := by rw [List.length_map]; exact hlen
    have la := nx_lt (j := j0) (m := (R.length : Nat)) (by omega)
    have oka := nx_ok (j := j0) (m := (R.length : Nat)) (by omega) ok
    have hki : (nx j0 (R.length : Nat)).1.toNat < R.length := by omega
    have hatk : atI (R.map dr) (nx j0 (R.length : Nat)).1 = some (dr (R.getD (nx j0 (R.length : Nat)).1.toNat [])) := by
      have e := atI_nth (xs := R.map dr) la.1 (by rw [List.length_map]; exact la.2)
      rw [e, nthD_map hki, List.getD_eq_getElem?_getD, List.getElem?_eq_getElem hki]
      rfl
    obtain ⟨hr1, hr2⟩ := hrow (R.getD (nx j0 (R.length : Nat)).1.toNat []) (by rw [List.getD_eq_getElem?_getD, List.getElem?_eq_getElem hki]; exact List.getElem_mem hki)
    have eX : bendX j0 R = (⟨(nx j0 (R.length : Nat)).1, (nx (nx j0 (R.length : Nat)).2 ((R.getD (nx j0 (R.length : Nat)).1.toNat []).length : Nat)).1, (numF (nx (nx j0 (R.length : Nat)).2 ((R.getD (nx j0 (R.length : Nat)).1.toNat []).length : Nat)).2).1, R.getD (nx j0 (R.length : Nat)).1.toNat [], R.getLastD []⟩, (numF (nx (nx j0 (R.length : Nat)).2 ((R.getD (nx j0 (R.length : Nat)).1.toNat []).length : Nat)).2).2) := rfl
    rw [eX]
    have e1 : ∀ s2 s3 s4 s5 s6 : Slot, EvX K (tCall (spJ K R_nx) [] E0 (tCons (tVar 0) (tCons (tCB (rLenX K) (tCons (tVar 1) tNil)) tNil))) [.own false p j0.d, .dat (drs R), s2, s3, s4, s5, s6] (.int (nx j0 (R.length : Nat)).1) [.own false p (nx j0 (R.length : Nat)).2.d, .dat (drs R), s2, s3, s4, s5, s6] := fun s2 s3 s4 s5 s6 =>
      ev_callJ (n := 0) rfl (ea_cons (ev_is (ev_cb (ea_cons (ev_var rfl) ea_nil) rc_lenL) (by rw [List.length_map])) ea_nil) rfl ⟨j0, (R.length : Nat), rfl, rfl, ok.mono (by decide), by omega, by omega, rfl, rfl⟩
    generalize nx j0 (R.length : Nat) = a at *
    generalize R.getD a.1.toNat [] = row at *
    have hms : (row.map dq).length ≤ 100 := by rw [List.length_map]; exact hr2
    have hr0 := List.length_pos_iff.mpr hr1
    have e2 : ∀ s3 s4 s5 s6 : Slot, EvX K (tCall (spJ K R_nx) [] E0 (tCons (tVar 0) (tCons (tCB (rLenX K) (tCons (tOp (rIx K) (tVar 1) (tVar 2)) tNil)) tNil))) [.own false p a.2.d, .dat (drs R), .dat (.int a.1), s3, s4, s5, s6] (.int (nx a.2 (row.length : Nat)).1) [.own false p (nx a.2 (row.length : Nat)).2.d, .dat (drs R), .dat (.int a.1), s3, s4, s5, s6] := fun s3 s4 s5 s6 =>
      ev_callJ (n := 0) rfl (ea_cons (ev_is (ev_cb (ea_cons (ev_op (ev_var rfl) (ev_var rfl) (rv_ixL hatk)) ea_nil) rc_lenT) (by rw [List.length_map])) ea_nil) rfl ⟨a.2, (row.length : Nat), rfl, rfl, oka.mono (by decide), by omega, by omega, rfl, rfl⟩
    have okb := nx_ok (j := a.2) (m := (row.length : Nat)) (by omega) oka
    generalize nx a.2 (row.length : Nat) = b at *
    have e3 : ∀ s3 s4 s5 s6 : Slot, EvX K (tCall (spJ K R_number) [] E0 (tCons (tVar 0) tNil)) [.own false p b.2.d, .dat (drs R), .dat (.int a.1), s3, s4, s5, s6] (dq (numF b.2).1) [.own false p (numF b.2).2.d, .dat (drs R), .dat (.int a.1), s3, s4, s5, s6] := fun s3 s4 s5 s6 =>
      ev_callJ (n := 0) rfl ea_nil rfl ⟨b.2, rfl, rfl, okb.mono (by decide), rfl, rfl⟩
    generalize numF b.2 = n at *
    dsimp only
    refine r_seq (r_asg (e1 _ _ _ _ _) ?_)
    refine r_seq (r_par (ea_cons (e2 _ _ _ _) (ea_cons (e3 _ _ _ _) ea_nil)) ?_)
    show RunS K _ [.own false p n.2.d, .dat (drs R), .dat (.int a.1), .dat (.int b.1), .dat (dq n.1), .un, .un] _
    have eR : ∀ s5 s6, EvX K (tOp (rIx K) (tVar 1) (tVar 2)) [.own false p n.2.d, .dat (drs R), .dat (.int a.1), .dat (.int b.1), .dat (dq n.1), s5, s6] (.tuple (row.map dq)) [.own false p n.2.d, .dat (drs R), .dat (.int a.1), .dat (.int b.1), .dat (dq n.1), s5, s6] := fun s5 s6 => ev_op (ev_var rfl) (ev_var rfl) (rv_ixL hatk)
    refine r_seq (r_asg (ev_midT hms (eR _ _) rfl (ev_var rfl)) ?_)
    show RunS K _ [.own false p n.2.d, .dat (drs R), .dat (.int a.1), .dat (.int b.1), .dat (dq n.1), .dat (midT (row.map dq) b.1 (dq n.1)), .un] _
    refine r_seq (r_asg (ev_lst (ea_cons (ev_cb (ea_cons (ev_var rfl) ea_nil) rc_tupL) (ea_cons (ev_in rfl) (ea_cons (ev_op (ev_var rfl) (ev_lst (ea_cons (ev_is (d' := dr [1]) (ev_tup (ea_cons (ev_dq (q := 1) rfl rfl) ea_nil) len1) rfl) ea_nil) len1) (rv_catL (by rw [List.length_singleton]; omega))) (ea_cons (ev_revL (ev_var rfl)) (ea_cons (ev_midL hrs rfl rfl (ev_var rfl)) (ea_cons (ev_midL hrs rfl rfl (ev_cb (ea_cons (eR _ _) ea_nil) rc_lstT)) ea_nil)))))) len6) ?_)
    show RunS K _ [.own false p n.2.d, .dat (drs R), .dat (.int a.1), .dat (.int b.1), .dat (dq n.1), .dat (midT (row.map dq) b.1 (dq n.1)), .dat (.list [.tuple (R.map dr), .list (sliceD (R.map dr) none (some (-1))), .list (R.map dr ++ [dr [1]]), .list (R.map dr).reverse, midL (R.map dr) a.1 (midT (row.map dq) b.1 (dq n.1)), midL (R.map dr) a.1 (.list (row.map dq))])] _
    refine r_seq (r_asg (ev_op (ev_var rfl) (ev_lst (ea_cons (ev_midL hrs rfl rfl (ev_midT hms (eR _ _) rfl ev_int)) (ea_cons (ev_midL hrs rfl rfl ev_non) (ea_cons (ev_lst ea_nil len0) (ea_cons ev_non ea_nil)))) len4) (rv_catL (by simp))) ?_)
    have hlr : (R.getLastD []) ∈ R := by
      rw [List.getLastD_eq_getLast?, List.getLast?_eq_some_getLast hne]
      exact List.getLast_mem hne
    have hls : ((R.getLastD []).map dq).length ≤ 100 := by rw [List.length_map]; exact (hrow _ hlr).2
    have eL : ∀ s2 s3 s4 s5 s6, EvX K (tOp (rIx K) (tVar 1) (tUn (rU fun i => .int (-i)) (tC (V.int 1)))) [.own false p n.2.d, .dat (drs R), s2, s3, s4, s5, s6] (.tuple ((R.getLastD []).map dq)) [.own false p n.2.d, .dat (drs R), s2, s3, s4, s5, s6] := fun s2 s3 s4 s5 s6 => ev_op (ev_var rfl) (ev_neg ev_int) (rv_ixL (atI_lastRow hne))
    exact r_ret (ev_op (ev_var rfl) (ev_lst (ea_cons (ev_endL hrs rfl (ev_endT hls (eL _ _ _ _ _) (ev_tup (ea_cons ev_bl (ea_cons ev_int ea_nil)) len2))) (ea_cons (ev_endL hrs rfl (ev_endT hls (eL _ _ _ _ _) (ev_tup (ea_cons ev_int (ea_cons ev_bl ea_nil)) len2))) (ea_cons (ev_endL hrs rfl (ev_endT hls (eL _ _ _ _ _) (ev_tup (ea_cons ev_int (ea_cons ev_int ea_nil)) len2))) ea_nil))) len3) (rv_catL (by simp))) ⟨rfl, rfl⟩
end
end C56
end Part18

section Part19
set_option Elab.async false
set_option linter.all false
set_option maxRecDepth 100000
set_option maxHeartbeats 4000000
open PySem PySem.Spec PyProof.Rows L2 DL
open Evl (Ex)
/-! ### my words for the walk: expressions, arguments, operators, tests -/
local macro_rules | `(tactic| walk_at "len") => `(tactic| first
  | exact DL.len0
  | exact DL.len1
  | exact DL.len2
  | exact DL.len3
  | exact DL.len4
  | exact DL.len5
  | exact DL.len6
  | exact DL.len7
  | exact DL.len8
  | exact DL.len9
  | exact DL.len10
  | exact DL.len11
  | exact DL.len12
  | exact DL.len13
  | exact DL.len14
  | exact DL.len15
  | exact DL.len16
  | exact DL.len17
  | exact DL.len18
  | exact DL.len19
  | exact DL.len20)
local macro_rules | `(tactic| walk_at "sh") => `(tactic| first
  | exact DL.sh_int
  | exact DL.sh_none
  | exact DL.sh_bool
  | exact DL.sh_dq
  | exact DL.sh_dr
  | exact DL.sh_nil
  | assumption
  | rfl)
local macro_rules | `(tactic| walk_at "sc") => `(tactic| first
  | fail "side")
local macro_rules | `(tactic| walk_at "side") => `(tactic| first
  | assumption
  | rfl
  | (walk_at "sc"; done)
  | (trace "SIDE"; trace_state; fail "side"))
local macro_rules | `(tactic| walk_at "at") => `(tactic| first
  | exact rfl
  | (walk_at "side"))
local macro_rules | `(tactic| walk_at "rv") => `(tactic| first
  | (with_reducible exact rv_add)
  | (with_reducible exact rv_sub)
  | (with_reducible exact rv_lt)
  | (with_reducible exact rv_le)
  | (with_reducible exact rv_gt)
  | (with_reducible exact rv_ge)
  | (with_reducible exact rv_isN)
  | (with_reducible exact rv_notN)
  | (with_reducible exact rv_isB)
  | (with_reducible exact rv_notB)
  | ((with_reducible refine' rv_ixT ?x1); (case' x1 => walk_at "at"))
  | ((with_reducible refine' rv_ixL ?x1); (case' x1 => walk_at "at"))
  | ((with_reducible refine' rv_mul ?x1); (case' x1 => walk_at "side"))
  | ((with_reducible refine' rv_fd ?x1); (case' x1 => walk_at "side"))
  | ((with_reducible refine' rv_mod ?x1); (case' x1 => first | assumption | decide | omega))
  | ((with_reducible refine' rv_pow ?x1); (case' x1 => first | decide | walk_at "side"))
  | ((with_reducible refine' rv_shl ?x1); (case' x1 => first | decide | walk_at "side"))
  | ((with_reducible refine' rv_eq ?x1 ?x2); (case' x1 => walk_at "sh"); (case' x2 => walk_at "sh"))
  | ((with_reducible refine' rv_ne ?x1 ?x2); (case' x1 => walk_at "sh"); (case' x2 => walk_at "sh"))
  | ((with_reducible refine' rv_catT ?x1); (case' x1 => walk_at "side"))
  | ((with_reducible refine' rv_catL ?x1); (case' x1 => walk_at "side"))
  | ((with_reducible refine' rv_rep ?x1 ?x2); (case' x1 => walk_at "side"); (case' x2 => walk_at "side"))
  | (trace "RV"; trace_state; fail "rv"))
local macro_rules | `(tactic| walk_at "rc") => `(tactic| first
  | (with_reducible exact rc_lenT)
  | (with_reducible exact rc_lenL)
  | (with_reducible exact rc_gcd)
  | (with_reducible exact rc_abs)
  | (with_reducible exact rc_min)
  | (with_reducible exact rc_max)
  | (with_reducible exact rc_intI)
  | (with_reducible exact rc_intB)
  | (with_reducible exact rc_tupL)
  | (with_reducible exact rc_tupT)
  | (with_reducible exact rc_lstT)
  | (with_reducible exact rc_lstL)
  | (with_reducible exact rc_all)
  | (with_reducible exact rc_any))
local macro_rules | `(tactic| walk_at "rt") => `(tactic| first
  | fail "no promise")
local macro_rules | `(tactic| walk_at "ea") => `(tactic| first
  | exact ea_nil
  | exact ea_cons (by walk_at "ev") (by walk_at "ea"))
local macro_rules | `(tactic| walk_at "ev") => `(tactic| first
  | exact ev_var rfl
  | exact ev_int
  | exact ev_bl
  | exact ev_non
  | exact ev_str
  | exact ev_lenO rfl
  | exact ev_tupO rfl
  | ((with_reducible refine' ev_ixO ?x0 ?x1 ?x2 ?x3); (case' x0 => exact rfl); (case' x1 => walk_at "ev"); (case' x2 => exact rfl); (case' x3 => walk_at "at"))
  | ((with_reducible refine' ev_op ?x1 ?x2 ?x3); (case' x1 => walk_at "ev"); (case' x2 => walk_at "ev"); (case' x3 => walk_at "rv"))
  | ((with_reducible refine' ev_call ?x1 ?x2); (case' x1 => walk_at "ea"); (case' x2 => walk_at "rt"))
  | ((with_reducible refine' ev_isiInt ?x1); (case' x1 => walk_at "ev"))
  | ((with_reducible refine' ev_isiBool ?x1); (case' x1 => walk_at "ev"))
  | ((with_reducible refine' ev_isiTup ?x1); (case' x1 => walk_at "ev"))
  | ((with_reducible refine' ev_isiLst ?x1); (case' x1 => walk_at "ev"))
  | ((with_reducible refine' ev_isiStr ?x1); (case' x1 => walk_at "ev"))
  | ((with_reducible refine' ev_neg ?x1); (case' x1 => walk_at "ev"))
  | ((with_reducible refine' ev_not ?x1); (case' x1 => walk_at "ev"))
  | ((with_reducible refine' ev_revT ?x1); (case' x1 => walk_at "ev"))
  | ((with_reducible refine' ev_revL ?x1); (case' x1 => walk_at "ev"))
  | ((with_reducible refine' ev_cb ?x1 ?x2); (case' x1 => walk_at "ea"); (case' x2 => walk_at "rc"))
  | ((with_reducible refine' ev_tup ?x1 ?x2); (case' x1 => walk_at "ea"); (case' x2 => walk_at "len"))
  | ((with_reducible refine' ev_lst ?x1 ?x2); (case' x1 => walk_at "ea"); (case' x2 => walk_at "len"))
  | ((with_reducible refine' ev_and ?x1 ?x2); (case' x1 => walk_at "ev"); (case' x2 => (intro _; walk_at "ev")))
  | ((with_reducible refine' ev_or ?x1 ?x2); (case' x1 => walk_at "ev"); (case' x2 => (intro _; walk_at "ev")))
  | ((with_reducible refine' ev_slT ?x1 ?x2 ?x3); (case' x1 => walk_at "ev"); (case' x2 => walk_at "eo"); (case' x3 => walk_at "eo"))
  | ((with_reducible refine' ev_slL ?x1 ?x2 ?x3); (case' x1 => walk_at "ev"); (case' x2 => walk_at "eo"); (case' x3 => walk_at "eo"))
  | (trace "EV"; trace_state; fail "ev"))
local macro_rules | `(tactic| walk_at "eo") => `(tactic| first
  | exact eo_none
  | exact eo_some (by walk_at "ev"))
local macro_rules | `(tactic| walk_at "eb") => `(tactic| first
  | ((with_reducible refine' eb_and ?x1 ?x2); (case' x1 => walk_at "eb"); (case' x2 => (intro _; walk_at "eb")))
  | ((with_reducible refine' eb_or ?x1 ?x2); (case' x1 => walk_at "eb"); (case' x2 => (intro _; walk_at "eb")))
  | ((with_reducible refine' eb_not ?x1); (case' x1 => walk_at "eb"))
  | ((with_reducible refine' eb_val ?x1); (case' x1 => walk_at "ev"))
  | ((with_reducible refine' eb_test ?x1); (case' x1 => walk_at "ev")))
local macro_rules | `(tactic| walk_at "ret") => `(tactic| (refine' r_ret ?y1 ?y2; (case' y1 => walk_at "ev"); (case' y2 => try (first | rfl | skip))))
local macro_rules | `(tactic| walk_at "asg") => `(tactic| (refine' r_asg ?y1 ?y2; (case' y1 => walk_at "ev")))
local macro_rules | `(tactic| walk_at "if") => `(tactic| (refine' r_if ?y1 ?y2 ?y3; (case' y1 => walk_at "eb")))
local macro_rules | `(tactic| walk_at "par") => `(tactic| (refine' r_par ?y1 ?y2; (case' y1 => walk_at "ea")))
local macro_rules | `(tactic| walk_at "kk") => `(tactic| dsimp only [cxOf, Cx.nox, Cx.wish, Cx.blk, slots, List.map, List.length, List.replicate, List.append, Nat.sub, Nat.add, List.cons_append, List.nil_append, Nat.reduceAdd, Nat.reduceSub, List.replicate_succ, List.replicate_zero])

--@list law: _law_factor(jar)
--@list law: _law_bends(jar, rows) + [rows, _law_odd(jar)]
namespace C56
section
variable {P : Program} {w : World} {K : PySem.W.Frag} {mg : Str → Option Value} {base : Heap} {aN aO : Addr}
/-! ### what the law needs to be true of numbers alone -/
def IsFac (f : List Rat) (g : Bool) : Prop := (∃ r ∈ rootL, f = [-r, 1] ∧ g = insQ r) ∨ (∃ b ∈ bL, ∃ c ∈ cL, f = [c, b, 1] ∧ g = (insQ c && decide (absQ b < 1 + c)))
inductive Pr : Nat → List Rat → Bool → Prop
  | one : Pr 0 [1] true
  | mul {n : Nat} {p f : List Rat} {w g : Bool} : Pr n p w → IsFac f g → Pr (n + 1) (tmQ p f) (w && g)
def manyF (n : Rat) : Rat := if n = 0 then fq 7 3 else n
def scaleQ (p : List Rat) (m : Rat) : List Rat := p.map (· * m)
def pw2 (k : Nat) : Rat := { num := 2 ^ k, den := 1, den_nz := by decide, reduced := Nat.coprime_one_right _ }
def turnQ (p : List Rat) : List Rat := (List.range p.length).map fun k => if k % 2 = 0 then p.getD k 0 else -(p.getD k 0)
def smallQ (p : List Rat) : List Rat := (List.range p.length).map fun k => p.getD k 0 * pw2 k
structure Facts : Prop where
  len : ∀ {n p w}, Pr n p w → p ≠ [] ∧ p.length ≤ 2 * n + 1
  tm : ∀ {n p w f g}, n < 4 → Pr n p w → IsFac f g → OkTm p f
  poly : ∀ {n p w}, n ≤ 4 → Pr n p w → OkPoly p ∧ withinQ p = w
  many : ∀ j : J, manyF (numF j).1 ≠ 0 ∧ Sz 20 (manyF (numF j).1)
  told : ∀ {n p w} (m : Rat), n ≤ 4 → Pr n p w → m ≠ 0 → Sz 20 m → (∀ x ∈ p, OkTimes x m) ∧ OkPoly (scaleQ p m) ∧ (∀ x ∈ scaleQ p m, OkOver x (lastQ (scaleQ p m))) ∧ circleQ (scaleQ p m) = circleQ p
  turned : ∀ {n p w}, n ≤ 4 → Pr n p w → OkPoly (turnQ p) ∧ withinQ (turnQ p) = w
  small : ∀ {n p w}, n ≤ 4 → Pr n p w → (∀ x ∈ p, ∀ k, k ≤ 8 → OkTimes x (pw2 k)) ∧ (w = true → OkPoly (smallQ p) ∧ withinQ (smallQ p) = true)
  rows : ∀ p, p ≠ [] → p.length ≤ 9 → (circleQ p).length ≤ 100 ∧ ∀ r ∈ circleQ p, r ≠ [] ∧ r.length ≤ 100
  bend : ∀ (R : List (List Rat)) (X : BendX) (i : Nat), R.length ≤ 100 → (∀ r ∈ R, r ≠ [] ∧ r.length ≤ 100) → X.row.length ≤ 100 → X.lst.length ≤ 100 → ∀ v ∈ bendL R X ++ [drs R, nthD oddL i], ValOk v ∧ PyData.canLay0 v = true
  same : ∀ p v, PyData.canLay0 v = true → isRowsD p v = eqS v (drs (circleQ p))
theorem eqS_dq (q : Rat) : eqS (dq q) (dq q) = true := by
  show (decide (q.num = q.num) && (decide ((q.den : Int) = (q.den : Int)) && true)) = true
  simp
theorem eqSAll_map {α : Type} {f : α → PyData} (h : ∀ a, eqS (f a) (f a) = true) : ∀ l : List α, eqSAll (l.map f) (l.map f) = true
  | [] => rfl
  | a :: l => by
    show (eqS (f a) (f a) && eqSAll (l.map f) (l.map f)) = true
    rw [h a, eqSAll_map h l]
    rfl
theorem eqS_dr (r : List Rat) : eqS (dr r) (dr r) = true := eqSAll_map eqS_dq r
theorem eqS_drs (r : List (List Rat)) : eqS (drs r) (drs r) = true := eqSAll_map eqS_dr r
theorem eqOk_dq (n : Nat) (q : Rat) : EqOk (n + 2) (dq q) := by
  refine ⟨by show 2 ≤ 1000; decide, fun x hx => ?_⟩
  rcases List.mem_cons.mp hx with rfl | hx
  · exact True.intro
  · rcases List.mem_cons.mp hx with rfl | hx
    · exact True.intro
    · cases hx
theorem eqOk_dr (n : Nat) (r : List Rat) (h : r.length ≤ 1000) : EqOk (n + 3) (dr r) := by
  refine ⟨by rw [List.length_map]; exact h, fun x hx => ?_⟩
  obtain ⟨q, _, rfl⟩ := List.mem_map.mp hx
  exact eqOk_dq n q
theorem eqOk_drs (n : Nat) (R : List (List Rat)) (h : R.length ≤ 1000) (h2 : ∀ r ∈ R, r.length ≤ 1000) : EqOk (n + 4) (drs R) := by
  refine ⟨by rw [List.length_map]; exact h, fun x hx => ?_⟩
  obtain ⟨q, hq, rfl⟩ := List.mem_map.mp hx
  exact eqOk_dr n q (h2 q hq)
theorem lay_drs (R : List (List Rat)) : PyData.canLay0 (drs R) = true := by
  have h := (lay_rowss R).1
  simpa [PyData.canLay0] using h
theorem facF_is (j : J) : IsFac (facF j).1 (facF j).2.1 := by
  unfold facF
  split
  · exact .inl ⟨_, pickQ_mem (by decide), rfl, rfl⟩
  · exact .inr ⟨_, pickQ_mem (by decide), _, pickQ_mem (by decide), rfl, rfl⟩
theorem facF_ok {j : J} {n : Nat} (h : OkJ n j) : OkJ (n + 3) (facF j).2.2 := by
  have h3 := nx_ok (j := j) (m := 3) (by decide) h
  unfold facF
  split
  · exact (pickQ_ok (l := rootL) (by decide) h3).mono (by omega)
  · exact pickQ_ok (l := cL) (by decide) (pickQ_ok (l := bL) (by decide) h3)
theorem numF_ok {j : J} {n : Nat} (h : OkJ n j) : OkJ (n + 3) (numF j).2 := by
  have h3 := nx_ok (j := j) (m := 13) (by decide) h
  unfold numF
  split
  · split
    · have h4 : OkJ (n + 1) ⟨(nx j 13).2.c, (nx j 13).2.f, (nx j 13).2.k, (nx j 13).2.t - 1⟩ := ⟨h3.c0, h3.c1, h3.k0, h3.k1⟩
      exact nx_ok (by decide) (nx_ok (by decide) h4)
    · exact (pickQ_ok (l := numL) (by decide) h3).mono (by omega)
  · exact (pickQ_ok (l := numL) (by decide) h).mono (by omega)
theorem isFac_ne {f : List Rat} {g : Bool} (h : IsFac f g) : f ≠ [] ∧ f.length ≤ 3 := by
  rcases h with ⟨r, _, rfl, _⟩ | ⟨b, _, c, _, rfl, _⟩
  · exact ⟨(fun z => nomatch z), by show 2 ≤ 3; decide⟩
  · exact ⟨(fun z => nomatch z), by show 3 ≤ 3; decide⟩
theorem eqS3 (w : Bool) : eqS (.list [.bool w, .bool w, .bool w]) (.list [.bool w, .bool w, .bool w]) = true := by cases w <;> rfl
theorem eqS2 (w : Bool) : eqS (.list [.bool w, .bool w]) (.list [.bool w, .bool w]) = true := by cases w <;> rfl
def R_law (ds : List PyData) (d : PyData) : Prop := ∃ xs : List Int, ds = [scrD (xs.map PyData.int)] ∧ xs.length ≤ 1000 ∧ d = .bool true
theorem ok_law (T : Tx K mg aN aO) (X : Facts) {f f1 f2 f3 f4 f5 f6 f7 f8 f9 f10 f11 f12 f13 : Addr} {fd fd1 fd2 fd3 fd4 fd5 fd6 fd7 fd8 fd9 fd10 fd11 fd12 fd13 : FuncData} (F : Fun K "law" "law" s_law f fd) (c__law_jar : Cal P w K mg base "_law_jar" 1 ["script", "at"] (spN K R_jar) f1 fd1)
    (c__law_next : Cal P w K mg base "_law_next" 1 ["jar", "many"] (spJ K R_nx) f2 fd2) (c__law_factor : Cal P w K mg base "_law_factor" 3 ["jar"] (spJ K R_factor) f3 fd3) (c__law_times : Cal P w K mg base "_law_times" 3 ["one", "other"] (spD K R_tm) f4 fd4)
    (c__law_number : Cal P w K mg base "_law_number" 3 ["jar"] (spJ K R_number) f5 fd5) (c__law_mul : Cal P w K mg base "_law_mul" 2 ["one", "other"] (spD K R_times) f6 fd6) (c__law_rows : Cal P w K mg base "_law_rows" 3 ["polynomial"] (spD K R_lrows) f7 fd7)
    (c__law_equal : Cal P w K mg base "_law_equal" 5 ["found", "due"] (spD K (R_equal 5)) f8 fd8) (c_is_within : Cal P w K mg base "is_within" 7 ["polynomial"] (spD K R_within) f9 fd9) (c_circle_rows : Cal P w K mg base "circle_rows" 6 ["polynomial"] (spD K R_circle) f10 fd10)
    (c_is_circle_rows : Cal P w K mg base "is_circle_rows" 6 ["polynomial", "value"] (spD K R_isrows) f11 fd11) (c__law_bends : Cal P w K mg base "_law_bends" 4 ["jar", "rows"] (spJ K R_bends) f12 fd12) (c__law_odd : Cal P w K mg base "_law_odd" 3 ["jar"] (spJ K R_odd) f13 fd13)
    (kb_is_within : KBn K fd9 ["polynomial"] 0 ["polynomial"] (fun _ ws => ws) (fun _ ws => ws)) (kb_circle_rows : KBn K fd10 ["polynomial"] 0 ["polynomial"] (fun _ ws => ws) (fun _ ws => ws)) (kb_is_circle_rows : KBn K fd11 ["polynomial", "value"] 0 ["value", "polynomial"] swap2 swap2) :
    FnOk P w K mg base CX0 8 f fd ["script"] (spD K R_law) := by
  refine fn_D F sc_law (by decide) (fun ds d h => ?_) (fun cdv A outer s H E hr => ⟨_, (pss_cons (ps_for PassesOwn.never rfl (pi_range1 rfl T.n_range (pa_cons (pe_callB (call_maxX rfl) rfl T.n_max (by decide +kernel) (pa_cons pe_int (pa_cons (pe_callB (call_minX rfl) rfl T.n_min (by decide +kernel) (pa_cons (pe_callB call_lenX rfl T.n_len PySem.boot_len (pa_cons (pv 0) pa_nil)) (pa_cons pe_int pa_nil))) pa_nil))) pa_nil)) (pg_name (i := 1) sc_law.nd rfl (by first | exact Or.inl rfl | exact Or.inr rfl))
        (pss_cons (ps_set (i := 2) sc_law.nd rfl (by first | exact Or.inl rfl | exact Or.inr rfl) (pe_cal c__law_jar hr (by first | decide | exact Nat.le_refl _ | omega) rfl (pa_cons (pv 0) (pa_cons (pv 1) pa_nil))))
      (pss_cons (ps_asg (pe_tup (pa_cons (pe_tup (pa_cons (pe_tup (pa_cons pe_int (pa_cons pe_int pa_nil))) pa_nil)) (pa_cons pe_bl pa_nil))) (pg_tup rfl (pgs_cons (pg_name (i := 3) sc_law.nd rfl (by first | exact Or.inl rfl | exact Or.inr rfl)) (pgs_cons (pg_name (i := 4) sc_law.nd rfl (by first | exact Or.inl rfl | exact Or.inr rfl)) pgs_nil))))
      (pss_cons (ps_for PassesOwn.never rfl (pi_range1 rfl T.n_range (pa_cons (pe_cal c__law_next hr (by first | decide | exact Nat.le_refl _ | omega) rfl (pa_cons (pv 2) (pa_cons pe_int pa_nil))) pa_nil)) (pg_name (i := 5) sc_law.nd rfl (by first | exact Or.inl rfl | exact Or.inr rfl))
        (pss_cons (ps_asg (pe_cal c__law_factor hr (by first | decide | exact Nat.le_refl _ | omega) rfl (pa_cons (pv 2) pa_nil)) (pg_unl rfl (pgs_cons (pg_name (i := 6) sc_law.nd rfl (by first | exact Or.inl rfl | exact Or.inr rfl)) (pgs_cons (pg_name (i := 7) sc_law.nd rfl (by first | exact Or.inl rfl | exact Or.inr rfl)) pgs_nil))))
      (pss_one (ps_asg (pe_tup (pa_cons (pe_cal c__law_times hr (by first | decide | exact Nat.le_refl _ | omega) rfl (pa_cons (pv 3) (pa_cons (pv 6) pa_nil))) (pa_cons (pe_and (pv 4) (pe_one (pv 7))) pa_nil))) (pg_tup rfl (pgs_cons (pg_name (i := 3) sc_law.nd rfl (by first | exact Or.inl rfl | exact Or.inr rfl)) (pgs_cons (pg_name (i := 4) sc_law.nd rfl (by first | exact Or.inl rfl | exact Or.inr rfl)) pgs_nil)))))))
      (pss_cons (ps_set (i := 8) sc_law.nd rfl (by first | exact Or.inl rfl | exact Or.inr rfl) (pe_cal c__law_number hr (by first | decide | exact Nat.le_refl _ | omega) rfl (pa_cons (pv 2) pa_nil)))
      (pss_cons (ps_set (i := 9) sc_law.nd rfl (by first | exact Or.inl rfl | exact Or.inr rfl) (pe_ifExp (pt_cmpR (op_neD hr.units) (pv 8) (pe_tup (pa_cons pe_int (pa_cons pe_int pa_nil))) (nomark _)) (pv 8) (pe_tup (pa_cons pe_int (pa_cons pe_int pa_nil)))))
      (pss_cons (ps_set (i := 10) sc_law.nd rfl (by first | exact Or.inl rfl | exact Or.inr rfl) (pe_callTy call_tupX rfl T.n_tuple (by decide +kernel) (pa_cons (pe_lc (own := [("one", 16)]) (g := (gName 16)) (tt := tYes) rfl sc_law.nd (pi_tup (pv 3)) (blkOk_by (own := [("one", 16)]) (N := ["script", "at", "jar", "polynomial", "within", "turn", "factor", "good", "number", "many", "told", "rows", "turned", "smaller", "value", "due", "one", "k"]) (sc := defScope s_law) (by decide +kernel)) (fun _ _ _ _ _ => (pg_name (i := 16) sc_law.nd rfl (by first | exact Or.inl rfl | exact Or.inr rfl))) (fun _ _ _ _ _ => pts_nil) (fun _ _ _ _ _ => (pe_cal c__law_mul hr (by first | decide | exact Nat.le_refl _ | omega) rfl (pa_cons (pv 16) (pa_cons (pv 9) pa_nil))))) pa_nil)))
      (pss_cons (ps_set (i := 11) sc_law.nd rfl (by first | exact Or.inl rfl | exact Or.inr rfl) (pe_cal c__law_rows hr (by first | decide | exact Nat.le_refl _ | omega) rfl (pa_cons (pv 10) pa_nil)))
      (pss_cons (ps_if (pt_not (pt_val (pe_cal c__law_equal hr (by first | decide | exact Nat.le_refl _ | omega) rfl (pa_cons (pe_lst (pa_cons (pe_cal c_is_within hr (by first | decide | exact Nat.le_refl _ | omega) rfl (pa_cons (pv 10) pa_nil)) (pa_cons (pe_kw0 c_is_within hr (by first | decide | exact Nat.le_refl _ | omega) rfl kb_is_within (pk_cons (pv 10) pk_nil)) (pa_cons (pe_cal c_is_within hr (by first | decide | exact Nat.le_refl _ | omega) rfl (pa_cons (pv 3) pa_nil)) pa_nil)))) (pa_cons (pe_op op_mulX (pe_lst (pa_cons (pv 4) pa_nil)) pe_int) pa_nil)))))
        (pss_one (ps_ret pe_bl))
        pss_nil)
      (pss_cons (ps_if (PW.pt (pw_or (pt_not (pt_val (pe_cal c__law_equal hr (by first | decide | exact Nat.le_refl _ | omega) rfl (pa_cons (pe_lst (pa_cons (pe_cal c_circle_rows hr (by first | decide | exact Nat.le_refl _ | omega) rfl (pa_cons (pv 10) pa_nil)) (pa_cons (pe_kw0 c_circle_rows hr (by first | decide | exact Nat.le_refl _ | omega) rfl kb_circle_rows (pk_cons (pv 3) pk_nil)) pa_nil))) (pa_cons (pe_lst (pa_cons (pv 11) (pa_cons (pv 11) pa_nil))) pa_nil))))) (pw_or1 (pt_cmpR (op_neD hr.units) (pe_cmpR (op_eqD hr.units) (pe_callB call_lenX rfl T.n_len PySem.boot_len (pa_cons (pe_ix ix_seq (pv 11) (pe_un un_neg pe_int) (fun _ _ => rfl)) pa_nil)) pe_int (nomark _)) (pv 4) (nomark _)))))
        (pss_one (ps_ret pe_bl))
        pss_nil)
      (pss_cons (ps_set (i := 12) sc_law.nd rfl (by first | exact Or.inl rfl | exact Or.inr rfl) (pe_callTy call_tupX rfl T.n_tuple (by decide +kernel) (pa_cons (pe_lc (own := [("k", 17)]) (g := (gName 17)) (tt := tYes) rfl sc_law.nd (pi_range1 rfl T.n_range (pa_cons (pe_callB call_lenX rfl T.n_len PySem.boot_len (pa_cons (pv 3) pa_nil)) pa_nil)) (blkOk_by (own := [("k", 17)]) (N := ["script", "at", "jar", "polynomial", "within", "turn", "factor", "good", "number", "many", "told", "rows", "turned", "smaller", "value", "due", "one", "k"]) (sc := defScope s_law) (by decide +kernel)) (fun _ _ _ _ _ => (pg_name (i := 17) sc_law.nd rfl (by first | exact Or.inl rfl | exact Or.inr rfl))) (fun _ _ _ _ _ => pts_nil) (fun _ _ _ _ _ => (pe_ifExp (pt_cmpR (show OpR _ _ (rEqD K) from op_eqD hr.units) (pe_op op_modN (pe_callTy call_intX rfl T.n_int (by decide +kernel) (pa_cons (pv 17) pa_nil)) pe_int) pe_int (nomark _)) (pe_ix (show IxR _ (rIx K) from ix_seq) (pv 3) (pv 17) (fun _ _ => rfl)) (pe_tup (pa_cons (pe_op op_sub pe_int (pe_ix (show IxR _ (rIx K) from ix_seq) (pe_ix (show IxR _ (rIx K) from ix_seq) (pv 3) (pv 17) (fun _ _ => rfl)) pe_int (fun _ _ => rfl))) (pa_cons (pe_ix (show IxR _ (rIx K) from ix_seq) (pe_ix (show IxR _ (rIx K) from ix_seq) (pv 3) (pv 17) (fun _ _ => rfl)) pe_int (fun _ _ => rfl)) pa_nil)))))) pa_nil)))
      (pss_cons (ps_set (i := 13) sc_law.nd rfl (by first | exact Or.inl rfl | exact Or.inr rfl) (pe_callTy call_tupX rfl T.n_tuple (by decide +kernel) (pa_cons (pe_lc (own := [("k", 17)]) (g := (gName 17)) (tt := tYes) rfl sc_law.nd (pi_range1 rfl T.n_range (pa_cons (pe_callB call_lenX rfl T.n_len PySem.boot_len (pa_cons (pv 3) pa_nil)) pa_nil)) (blkOk_by (own := [("k", 17)]) (N := ["script", "at", "jar", "polynomial", "within", "turn", "factor", "good", "number", "many", "told", "rows", "turned", "smaller", "value", "due", "one", "k"]) (sc := defScope s_law) (by decide +kernel)) (fun _ _ _ _ _ => (pg_name (i := 17) sc_law.nd rfl (by first | exact Or.inl rfl | exact Or.inr rfl))) (fun _ _ _ _ _ => pts_nil) (fun _ _ _ _ _ => (pe_cal c__law_mul hr (by first | decide | exact Nat.le_refl _ | omega) rfl (pa_cons (pe_ix (show IxR _ (rIx K) from ix_seq) (pv 3) (pv 17) (fun _ _ => rfl)) (pa_cons (pe_tup (pa_cons (pe_op op_shl pe_int (pv 17)) (pa_cons pe_int pa_nil))) pa_nil))))) pa_nil)))
      (pss_cons (ps_if (PW.pt (pw_or (pt_not (pt_val (pe_cal c__law_equal hr (by first | decide | exact Nat.le_refl _ | omega) rfl (pa_cons (pe_cal c_is_within hr (by first | decide | exact Nat.le_refl _ | omega) rfl (pa_cons (pv 12) pa_nil)) (pa_cons (pv 4) pa_nil))))) (pw_or1 (PW.pt (pw_and (pt_val (pv 4)) (pw_and1 (pt_cmpR op_notBl (pe_cal c_is_within hr (by first | decide | exact Nat.le_refl _ | omega) rfl (pa_cons (pv 13) pa_nil)) pe_bl (nomark _))))))))
        (pss_one (ps_ret pe_bl))
        pss_nil)
      (pss_one (ps_for PassesOwn.never rfl (pi_list (pe_op op_plus (pe_cal c__law_bends hr (by first | decide | exact Nat.le_refl _ | omega) rfl (pa_cons (pv 2) (pa_cons (pv 11) pa_nil))) (pe_lst (pa_cons (pv 11) (pa_cons (pe_cal c__law_odd hr (by first | decide | exact Nat.le_refl _ | omega) rfl (pa_cons (pv 2) pa_nil)) pa_nil))))) (pg_name (i := 14) sc_law.nd rfl (by first | exact Or.inl rfl | exact Or.inr rfl))
        (pss_cons (ps_set (i := 15) sc_law.nd rfl (by first | exact Or.inl rfl | exact Or.inr rfl) (pe_cal c__law_equal hr (by first | decide | exact Nat.le_refl _ | omega) rfl (pa_cons (pv 14) (pa_cons (pv 11) pa_nil))))
      (pss_one (ps_if (pt_not (pt_val (pe_cal c__law_equal hr (by first | decide | exact Nat.le_refl _ | omega) rfl (pa_cons (pe_lst (pa_cons (pe_cal c_is_circle_rows hr (by first | decide | exact Nat.le_refl _ | omega) rfl (pa_cons (pv 10) (pa_cons (pv 14) pa_nil))) (pa_cons (pe_kw0 c_is_circle_rows hr (by first | decide | exact Nat.le_refl _ | omega) rfl kb_is_circle_rows (pk_cons (pv 14) (pk_cons (pv 10) pk_nil))) pa_nil))) (pa_cons (pe_lst (pa_cons (pv 15) (pa_cons (pv 15) pa_nil))) pa_nil)))))
        (pss_one (ps_ret pe_bl))
        pss_nil))))))))))))))))))
      (pss_one (ps_ret pe_bl))), fun ds d hR => ?_⟩)
  · obtain ⟨xs, rfl, _⟩ := h
    rfl
  · obtain ⟨xs, rfl, hxl, rfl⟩ := hR
    walk_at "kk"
    have en : max (3 : Int) (min ((xs.map PyData.int).length : Int) 10) = ((max 3 (min xs.length 10) : Nat) : Int) := by rw [List.length_map]; omega
    refine r_seq (r_for (js := [1]) (fun i Γ' => ∃ s1 s2 s3 s4 s5 s6 s7 s8 s9 s10 s11 s12 s13 s14 s15, Γ' = [.dat (scrD (xs.map PyData.int)), s1, s2, s3, s4, s5, s6, s7, s8, s9, s10, s11, s12, s13, s14, s15, .un, .un])
      (ei_R1 (n := max 3 (min xs.length 10)) (ea_cons (ev_is (ev_cb (ea_cons ev_int (ea_cons (ev_cb (ea_cons (ev_cb (ea_cons (ev_var rfl) ea_nil) rc_lenS) (ea_cons ev_int ea_nil)) rc_min) ea_nil)) rc_max) (by rw [en])) ea_nil) (by omega)) ⟨_, _, _, _, _, _, _, _, _, _, _, _, _, _, _, rfl⟩ ?_ ?_)
    · rintro i Γ' hi ⟨s1, s2, s3, s4, s5, s6, s7, s8, s9, s10, s11, s12, s13, s14, s15, rfl⟩
      have hi10 : i ≤ 10 := by omega
      refine ⟨_, eg_name, ?_⟩
      refine r_seq (r_asgN (en_call (ea_cons (ev_var rfl) (ea_cons (ev_var rfl) ea_nil)) ⟨xs, i, rfl, by omega, rfl⟩) (fun p => ?_))
      have ok0 := jarF_ok (xs := xs) (a := i) (by omega)
      generalize jarF xs i = j0 at *
      show RunS K _ [.dat (scrD (xs.map PyData.int)), .dat (.int (i : Nat)), .own true p j0.d, s3, s4, s5, s6, s7, s8, s9, s10, s11, s12, s13, s14, s15, .un, .un] _
      refine r_seq (r_asgG (ev_tup (ea_cons (ev_is (d' := dr [1]) (ev_tup (ea_cons (ev_dq (q := 1) rfl rfl) ea_nil) len1) rfl) (ea_cons ev_bl ea_nil)) len2) eg_pair ?_)
      show RunS K _ [.dat (scrD (xs.map PyData.int)), .dat (.int (i : Nat)), .own true p j0.d, .dat (dr [1]), .dat (.bool true), s5, s6, s7, s8, s9, s10, s11, s12, s13, s14, s15, .un, .un] _
      have l5 := nx_lt (j := j0) (m := 5) (by decide)
      have ok1 := nx_ok (j := j0) (m := 5) (by decide) ok0
      refine r_seq (r_for (js := [5]) (fun m Γ' => ∃ pol wi j s5 s6 s7, Γ' = [.dat (scrD (xs.map PyData.int)), .dat (.int (i : Nat)), .own true p (J.d j), .dat (dr pol), .dat (.bool wi), s5, s6, s7, s8, s9, s10, s11, s12, s13, s14, s15, .un, .un] ∧ Pr m pol wi ∧ OkJ (8000 + 3 * m) j)
        (ei_R1 (n := (nx j0 5).1.toNat) (ea_cons (ev_is (ev_callJ (n := 2) (js' := (nx j0 5).2.d) rfl (ea_cons ev_int ea_nil) rfl ⟨j0, 5, rfl, rfl, ok0.mono (by decide), by decide, by decide, rfl, rfl⟩) (by rw [Int.toNat_of_nonneg l5.1])) ea_nil) (by omega)) ⟨[1], true, (nx j0 5).2, _, _, _, rfl, .one, ok1.mono (by decide)⟩ ?_ ?_)
      · rintro m Γ' hm ⟨pol, wi, j, s5, s6, s7, rfl, hPr, okj⟩
        have hm4 : m < 4 := by omega
        refine ⟨_, eg_name, ?_⟩
        have hf := facF_is j
        have okf := facF_ok okj
        have ef : ∀ s5 s6 s7 : Slot, EvX K (tCall (spJ K R_factor) [] E0 (tCons (tVar 2) tNil)) [.dat (scrD (xs.map PyData.int)), .dat (.int (i : Nat)), .own true p (J.d j), .dat (dr pol), .dat (.bool wi), s5, s6, s7, s8, s9, s10, s11, s12, s13, s14, s15, .un, .un] (.list [dr (facF j).1, .bool (facF j).2.1])
          [.dat (scrD (xs.map PyData.int)), .dat (.int (i : Nat)), .own true p (J.d (facF j).2.2), .dat (dr pol), .dat (.bool wi), s5, s6, s7, s8, s9, s10, s11, s12, s13, s14, s15, .un, .un] := fun s5 s6 s7 => ev_callJ (n := 2) rfl ea_nil rfl ⟨j, rfl, rfl, okj.mono (by omega), rfl, rfl⟩
        generalize facF j = fj at *
        refine r_seq (r_asgG (ef _ _ _) eg_pairL ?_)
        show RunS K _ [.dat (scrD (xs.map PyData.int)), .dat (.int (i : Nat)), .own true p fj.2.2.d, .dat (dr pol), .dat (.bool wi), .dat (.int (m : Nat)), .dat (dr fj.1), .dat (.bool fj.2.1), s8, s9, s10, s11, s12, s13, s14, s15, .un, .un] _
        obtain ⟨hp1, hp2⟩ := X.len hPr
        obtain ⟨hf1, hf2⟩ := isFac_ne hf
        refine r_asgG (ev_tup (ea_cons (ev_call (ea_cons (ev_var rfl) (ea_cons (ev_var rfl) ea_nil)) ⟨pol, fj.1, rfl, hp1, hf1, by omega, by omega, X.tm hm4 hPr hf, rfl⟩) (ea_cons (ev_and (ev_var rfl) (fun _ => ev_var rfl)) ea_nil)) len2) eg_pair ?_
        exact ⟨tmQ pol fj.1, wi && fj.2.1, fj.2.2, _, _, _, rfl, .mul hPr hf, okf.mono (by omega)⟩
      · rintro Γ' ⟨pol, wi, j, s5, s6, s7, rfl, hPr, okj⟩
        have hn4 : (nx j0 5).1.toNat ≤ 4 := by omega
        generalize (nx j0 5).1.toNat = n at *
        have okn := numF_ok okj
        obtain ⟨hm0, hmz⟩ := X.many j
        have ev1 : EvX K (tCall (spJ K R_number) [] E0 (tCons (tVar 2) tNil)) [.dat (scrD (xs.map PyData.int)), .dat (.int (i : Nat)), .own true p (J.d j), .dat (dr pol), .dat (.bool wi), s5, s6, s7, s8, s9, s10, s11, s12, s13, s14, s15, .un, .un] (dq (numF j).1)
          [.dat (scrD (xs.map PyData.int)), .dat (.int (i : Nat)), .own true p (J.d (numF j).2), .dat (dr pol), .dat (.bool wi), s5, s6, s7, s8, s9, s10, s11, s12, s13, s14, s15, .un, .un] := ev_callJ (n := 2) rfl ea_nil rfl ⟨j, rfl, rfl, okj.mono (by omega), rfl, rfl⟩
        generalize numF j = nu at *
        refine r_seq (r_asg ev1 ?_)
        show RunS K _ [.dat (scrD (xs.map PyData.int)), .dat (.int (i : Nat)), .own true p nu.2.d, .dat (dr pol), .dat (.bool wi), s5, s6, s7, .dat (dq nu.1), s9, s10, s11, s12, s13, s14, s15, .un, .un] _
        refine r_seq (r_asg (d := dq (manyF nu.1)) (Γ1 := [.dat (scrD (xs.map PyData.int)), .dat (.int (i : Nat)), .own true p nu.2.d, .dat (dr pol), .dat (.bool wi), s5, s6, s7, .dat (dq nu.1), s9, s10, s11, s12, s13, s14, s15, .un, .un]) (ev_if (b := !decide (nu.1 = 0)) (eb_is (eb_test (ev_op (ev_var rfl) (ev_dq (q := 0) rfl rfl) (rv_ne sh_dq sh_dq))) (by rw [eqv_dq])) (fun c => ?_) (fun c => ?_)) ?_)
        · have c' : ¬ nu.1 = 0 := by simpa using c
          unfold manyF
          rw [if_neg c']
          exact ev_var rfl
        · have c' : nu.1 = 0 := by simpa using c
          unfold manyF
          rw [if_pos c']
          exact ev_dq rfl rfl
        generalize manyF nu.1 = mm at *
        show RunS K _ [.dat (scrD (xs.map PyData.int)), .dat (.int (i : Nat)), .own true p nu.2.d, .dat (dr pol), .dat (.bool wi), s5, s6, s7, .dat (dq nu.1), .dat (dq mm), s10, s11, s12, s13, s14, s15, .un, .un] _
        obtain ⟨hlne, hllen⟩ := X.len hPr
        have hl9 : pol.length ≤ 9 := by omega
        obtain ⟨okp, hwp⟩ := X.poly hn4 hPr
        obtain ⟨ht1, okt, ht3, hcir⟩ := X.told mm hn4 hPr hm0 hmz
        have hwt : withinQ (scaleQ pol mm) = wi := by
          rw [← hwp]
          unfold withinQ
          rw [hcir]
        have htl : (scaleQ pol mm).length = pol.length := by unfold scaleQ; rw [List.length_map]
        refine r_seq (r_asg (ev_cb (ea_cons (ev_lc1 ((scaleQ pol mm).map dq) (ei_T (ev_var rfl)) (by rw [List.length_map]; omega) (by rw [List.length_map, List.length_map, htl]) (fun _ _ _ e => nomatch e) (fun k hk => ?_)) ea_nil) rc_tupL) ?_)
        · rw [List.length_map] at hk
          have hk2 : k < (scaleQ pol mm).length := by omega
          have e : (scaleQ pol mm)[k] = pol[k] * mm := by simp only [scaleQ, List.getElem_map]
          rw [nthD_map hk, nthD_map hk2, e]
          exact ev_call (ea_cons (ev_var rfl) (ea_cons (ev_var rfl) ea_nil)) ⟨_, mm, rfl, ht1 _ (List.getElem_mem hk), rfl⟩
        show RunS K _ [.dat (scrD (xs.map PyData.int)), .dat (.int (i : Nat)), .own true p nu.2.d, .dat (dr pol), .dat (.bool wi), s5, s6, s7, .dat (dq nu.1), .dat (dq mm), .dat (dr (scaleQ pol mm)), s11, s12, s13, s14, s15, .un, .un] _
        obtain ⟨hRl, hRr⟩ := X.rows pol hlne hl9
        have hRne : circleQ pol ≠ [] := rowsF_ne _ _
        have hsame := X.same (scaleQ pol mm)
        rw [hcir] at hsame
        generalize scaleQ pol mm = told at *
        refine r_seq (r_asg (ev_call (ea_cons (ev_var rfl) ea_nil) ⟨told, rfl, okt, ht3, rfl⟩) ?_)
        rw [hcir]
        have hdec : decide (((circleQ pol).getLastD []).length = 1) = wi := hwp
        generalize hR : circleQ pol = R at *
        show RunS K _ [.dat (scrD (xs.map PyData.int)), .dat (.int (i : Nat)), .own true p nu.2.d, .dat (dr pol), .dat (.bool wi), s5, s6, s7, .dat (dq nu.1), .dat (dq mm), .dat (dr told), .dat (drs R), s12, s13, s14, s15, .un, .un] _
        have hR4 : EqOk 4 (drs R) := eqOk_drs 0 R (by omega) (fun r hr => by have := (hRr r hr).2; omega)
        have hb4 : EqOk 5 (.list [.bool wi, .bool wi, .bool wi]) := ⟨by show 3 ≤ 1000; decide, fun x hx => by
          rcases List.mem_cons.mp hx with rfl | hx
          · exact True.intro
          · rcases List.mem_cons.mp hx with rfl | hx
            · exact True.intro
            · rcases List.mem_cons.mp hx with rfl | hx
              · exact True.intro
              · cases hx⟩
        refine r_seq (r_if (b := false) (eb_is (eb_not (eb_val (ev_call (ea_cons (ev_lst (ea_cons (ev_call (ea_cons (ev_var rfl) ea_nil) ⟨told, rfl, okt, rfl⟩) (ea_cons (ev_callW (ea_cons (ev_var rfl) ea_nil) rfl (fun B ws h => h) ⟨told, rfl, okt, rfl⟩) (ea_cons (ev_call (ea_cons (ev_var rfl) ea_nil) ⟨pol, rfl, okp, rfl⟩) ea_nil))) len3) (ea_cons (ev_op (ev_lst (ea_cons (ev_var rfl) ea_nil) len1) ev_int (rv_rep (by decide) (by show 1 * 3 ≤ 100000; decide))) ea_nil)) ⟨_, .list [.bool wi, .bool wi, .bool wi], rfl, hb4, rfl, rfl⟩))) (by rw [hwt, hwp, eqS3]; rfl)) (fun c => nomatch c) (fun _ => r_next ?_))
        have hrr : EqOk 5 (.list [drs R, drs R]) := ⟨by show 2 ≤ 1000; decide, fun x hx => by
          rcases List.mem_cons.mp hx with rfl | hx
          · exact hR4
          · rcases List.mem_cons.mp hx with rfl | hx
            · exact hR4
            · cases hx⟩
        have hlr := lay_drs R
        have hq2 : eqS (.list [drs R, drs R]) (.list [drs R, drs R]) = true := by
          show (eqS (drs R) (drs R) && (eqS (drs R) (drs R) && true)) = true
          rw [eqS_drs]
          rfl
        have hl2 : PyData.canLay0 (.list [drs R, drs R]) = true := by
          have h : PyData.canLayAll0 [drs R, drs R] = true := by
            simp only [PyData.canLayAll0, hlr, Bool.and_self]
          simpa [PyData.canLay0] using h
        refine r_seq (r_if (b := false) (eb_orF (eb_is (eb_not (eb_val (ev_call (ea_cons (ev_lst (ea_cons (ev_is (d' := drs R) (ev_call (ea_cons (ev_var rfl) ea_nil) ⟨told, rfl, okt, rfl⟩) (by rw [hcir])) (ea_cons (ev_is (d' := drs R) (ev_callW (ea_cons (ev_var rfl) ea_nil) rfl (fun B ws h => h) ⟨pol, rfl, okp, rfl⟩) (by rw [hR])) ea_nil)) len2) (ea_cons (ev_lst (ea_cons (ev_var rfl) (ea_cons (ev_var rfl) ea_nil)) len2) ea_nil)) ⟨_, _, rfl, hrr, hl2, rfl⟩))) (by rw [hq2]; rfl))
          (eb_is (eb_test (ev_op (ev_op (ev_cb (ea_cons (ev_op (ev_var rfl) (ev_neg ev_int) (rv_ixL (atI_lastRow hRne))) ea_nil) rc_lenT) ev_int (rv_eq sh_int sh_int)) (ev_var rfl) (rv_ne sh_bool sh_bool))) (by
            rw [eqv_int, List.length_map, ← hdec]
            have e : decide ((((R.getLastD []).length : Nat) : Int) = 1) = decide ((R.getLastD []).length = 1) := decide_eq_decide.mpr (by omega)
            rw [e]
            cases decide ((R.getLastD []).length = 1) <;> rfl))) (fun c => nomatch c) (fun _ => r_next ?_))
        have htul : (turnQ pol).length = pol.length := by unfold turnQ; rw [List.length_map, List.length_range]
        have hsml : (smallQ pol).length = pol.length := by unfold smallQ; rw [List.length_map, List.length_range]
        obtain ⟨okq, hwq⟩ := X.turned hn4 hPr
        obtain ⟨hs1, hs2⟩ := X.small hn4 hPr
        have eln : ∀ Γ : List Slot, Γ[3]? = some (.dat (dr pol)) → EvX K (tCB (rLenX K) (tCons (tVar 3) tNil)) Γ (.int (pol.length : Nat)) Γ := fun Γ h => ev_is (ev_cb (ea_cons (ev_var h) ea_nil) rc_lenT) (by rw [List.length_map])
        refine r_seq (r_asg (ev_cb (ea_cons (ev_lc1 ((turnQ pol).map dq) (ei_R1 (n := pol.length) (ea_cons (eln _ rfl) ea_nil) (by omega)) (by omega) (by rw [List.length_map, htul]) (fun _ _ _ e => nomatch e) (fun k hk => ?_)) ea_nil) rc_tupL) ?_)
        · have hk2 : k < (turnQ pol).length := by omega
          have hk3 : pol.getD k 0 = pol[k] := by rw [List.getD_eq_getElem?_getD, List.getElem?_eq_getElem hk]; rfl
          have e : (turnQ pol)[k] = if k % 2 = 0 then pol.getD k 0 else -(pol.getD k 0) := by simp only [turnQ, List.getElem_map, List.getElem_range]
          rw [nthD_map hk2, e]
          refine ev_if (b := decide (k % 2 = 0)) (eb_is (eb_test (ev_op (ev_op (ev_cb (ea_cons (ev_var rfl) ea_nil) rc_intI) ev_int (rv_mod (by decide))) ev_int (rv_eq sh_int sh_int))) (by
            rw [eqv_int]
            refine decide_eq_decide.mpr ?_
            rw [Int.fmod_eq_emod_of_nonneg _ (by decide)]
            omega)) (fun c => ?_) (fun c => ?_)
          · rw [decide_eq_true_eq] at c
            rw [if_pos c]
            exact ev_op (ev_var rfl) (ev_var rfl) (rv_ixT (atI_rat hk))
          · rw [decide_eq_false_iff_not] at c
            rw [if_neg c, dq_neg]
            exact ev_tup (ea_cons (ev_op ev_int (ev_op (ev_op (ev_var rfl) (ev_var rfl) (rv_ixT (atI_rat hk))) ev_int (rv_ixT rfl)) rv_sub) (ea_cons (ev_op (ev_op (ev_var rfl) (ev_var rfl) (rv_ixT (atI_rat hk))) ev_int (rv_ixT rfl)) ea_nil)) len2
        show RunS K _ [.dat (scrD (xs.map PyData.int)), .dat (.int (i : Nat)), .own true p nu.2.d, .dat (dr pol), .dat (.bool wi), s5, s6, s7, .dat (dq nu.1), .dat (dq mm), .dat (dr told), .dat (drs R), .dat (dr (turnQ pol)), s13, s14, s15, .un, .un] _
        refine r_seq (r_asg (ev_cb (ea_cons (ev_lc1 ((smallQ pol).map dq) (ei_R1 (n := pol.length) (ea_cons (eln _ rfl) ea_nil) (by omega)) (by omega) (by rw [List.length_map, hsml]) (fun _ _ _ e => nomatch e) (fun k hk => ?_)) ea_nil) rc_tupL) ?_)
        · have hk2 : k < (smallQ pol).length := by omega
          have hk3 : pol.getD k 0 = pol[k] := by rw [List.getD_eq_getElem?_getD, List.getElem?_eq_getElem hk]; rfl
          have e : (smallQ pol)[k] = pol.getD k 0 * pw2 k := by simp only [smallQ, List.getElem_map, List.getElem_range]
          rw [nthD_map hk2, e]
          have p1 : CPow 1 ((k : Nat) : Int) := ⟨by omega, by omega, by decide⟩
          refine ev_call (ea_cons (ev_op (ev_var rfl) (ev_var rfl) (rv_ixT (atI_rat hk))) (ea_cons (ev_is (d' := dq (pw2 k)) (ev_tup (ea_cons (ev_op ev_int (ev_var rfl) (rv_shl p1)) (ea_cons ev_int ea_nil)) len2) ?_) ea_nil)) ⟨_, _, rfl, ?_, rfl⟩
          · show PyData.tuple [.int (1 * 2 ^ (((k : Nat) : Int)).toNat), .int 1] = PyData.tuple [.int (2 ^ k), .int ((1 : Nat) : Int)]
            rw [Int.toNat_natCast, Int.one_mul]
            rfl
          · rw [hk3]
            exact hs1 _ (List.getElem_mem hk) k (by omega)
        show RunS K _ [.dat (scrD (xs.map PyData.int)), .dat (.int (i : Nat)), .own true p nu.2.d, .dat (dr pol), .dat (.bool wi), s5, s6, s7, .dat (dq nu.1), .dat (dq mm), .dat (dr told), .dat (drs R), .dat (dr (turnQ pol)), .dat (dr (smallQ pol)), s14, s15, .un, .un] _
        have hb1 : EqOk 5 (.bool wi) := True.intro
        refine r_seq (r_if (b := false) (Γ1 := [.dat (scrD (xs.map PyData.int)), .dat (.int (i : Nat)), .own true p nu.2.d, .dat (dr pol), .dat (.bool wi), s5, s6, s7, .dat (dq nu.1), .dat (dq mm), .dat (dr told), .dat (drs R), .dat (dr (turnQ pol)), .dat (dr (smallQ pol)), s14, s15, .un, .un]) (eb_orF (eb_is (eb_not (eb_val (ev_call (ea_cons (ev_call (ea_cons (ev_var rfl) ea_nil) ⟨turnQ pol, rfl, okq, rfl⟩) (ea_cons (ev_var rfl) ea_nil)) ⟨_, _, rfl, hb1, rfl, rfl⟩))) (by rw [hwq]; cases wi <;> rfl)) (by
          cases hw : wi with
          | true =>
            obtain ⟨ok3, hw3⟩ := hs2 hw
            exact eb_andT (eb_val (ev_var rfl)) (eb_is (eb_test (ev_op (ev_call (ea_cons (ev_var rfl) ea_nil) ⟨smallQ pol, rfl, ok3, rfl⟩) ev_bl rv_notB)) (by rw [hw3]; rfl))
          | false => exact eb_andF (eb_val (ev_var rfl)))) (fun c => nomatch c) (fun _ => r_next ?_))
        have okb : OkJ 80000 nu.2 := okn.mono (by omega)
        have hXr : (bendX nu.2 R).1.row.length ≤ 100 ∧ (bendX nu.2 R).1.lst.length ≤ 100 := by
          have hR0 := List.length_pos_iff.mpr hRne
          have la := nx_lt (j := nu.2) (m := (R.length : Nat)) (by omega)
          have hki : (nx nu.2 (R.length : Nat)).1.toNat < R.length := by omega
          constructor
          · show (R.getD (nx nu.2 (R.length : Nat)).1.toNat []).length ≤ 100
            rw [List.getD_eq_getElem?_getD, List.getElem?_eq_getElem hki]
            exact (hRr _ (List.getElem_mem hki)).2
          · show (R.getLastD []).length ≤ 100
            rw [List.getLastD_eq_getLast?, List.getLast?_eq_some_getLast hRne]
            exact (hRr _ (List.getLast_mem hRne)).2
        have okx : OkJ 90000 (bendX nu.2 R).2 := by
          have hR0 := List.length_pos_iff.mpr hRne
          have la := nx_lt (j := nu.2) (m := (R.length : Nat)) (by omega)
          have hki : (nx nu.2 (R.length : Nat)).1.toNat < R.length := by omega
          have h1 := nx_ok (j := nu.2) (m := (R.length : Nat)) (by omega) okb
          have hr0 : 0 < (R.getD (nx nu.2 (R.length : Nat)).1.toNat []).length := by
            rw [List.getD_eq_getElem?_getD, List.getElem?_eq_getElem hki]
            exact List.length_pos_iff.mpr (hRr _ (List.getElem_mem hki)).1
          have h2 := nx_ok (j := (nx nu.2 (R.length : Nat)).2) (m := ((R.getD (nx nu.2 (R.length : Nat)).1.toNat []).length : Nat)) (by omega) h1
          exact (numF_ok h2).mono (by omega)
        have ebn : ∀ s14 s15 : Slot, EvX K (tCall (spJ K R_bends) [] E0 (tCons (tVar 2) (tCons (tVar 11) tNil))) [.dat (scrD (xs.map PyData.int)), .dat (.int (i : Nat)), .own true p nu.2.d, .dat (dr pol), .dat (.bool wi), s5, s6, s7, .dat (dq nu.1), .dat (dq mm), .dat (dr told), .dat (drs R), .dat (dr (turnQ pol)), .dat (dr (smallQ pol)), s14, s15, .un, .un] (.list (bendL R (bendX nu.2 R).1))
          [.dat (scrD (xs.map PyData.int)), .dat (.int (i : Nat)), .own true p (bendX nu.2 R).2.d, .dat (dr pol), .dat (.bool wi), s5, s6, s7, .dat (dq nu.1), .dat (dq mm), .dat (dr told), .dat (drs R), .dat (dr (turnQ pol)), .dat (dr (smallQ pol)), s14, s15, .un, .un] := fun s14 s15 => ev_callJ (n := 2) rfl (ea_cons (ev_var rfl) ea_nil) rfl ⟨nu.2, R, rfl, rfl, okb, hRne, by omega, hRr, rfl, rfl⟩
        have hbd := fun i => X.bend R (bendX nu.2 R).1 i hRl hRr hXr.1 hXr.2
        generalize bendX nu.2 R = bx at *
        have hbl : (bendL R bx.1 ++ [drs R, nthD oddL (nx bx.2 17).1.toNat]).length = 15 := rfl
        refine r_for (js := [14]) (fun m Γ' => ∃ s14 s15, Γ' = [.dat (scrD (xs.map PyData.int)), .dat (.int (i : Nat)), .own true p (nx bx.2 17).2.d, .dat (dr pol), .dat (.bool wi), s5, s6, s7, .dat (dq nu.1), .dat (dq mm), .dat (dr told), .dat (drs R), .dat (dr (turnQ pol)), .dat (dr (smallQ pol)), s14, s15, .un, .un])
          (ei_L (ds := bendL R bx.1 ++ [drs R, nthD oddL (nx bx.2 17).1.toNat]) (ev_op (ebn _ _) (ev_lst (ea_cons (ev_var rfl) (ea_cons (ev_callJ (n := 2) (js' := (nx bx.2 17).2.d) rfl ea_nil rfl ⟨bx.2, rfl, rfl, okx.mono (by decide), rfl, rfl⟩) ea_nil)) len2) (rv_catL (by show 13 + 2 ≤ 100000; decide)))) ⟨_, _, rfl⟩ ?_ ?_
        · rintro m Γ' hm ⟨s14, s15, rfl⟩
          refine ⟨_, eg_name, ?_⟩
          obtain ⟨hv1, hv2⟩ := hbd _ (nthD (bendL R bx.1 ++ [drs R, nthD oddL (nx bx.2 17).1.toNat]) m) (nthD_in hm)
          generalize nthD (bendL R bx.1 ++ [drs R, nthD oddL (nx bx.2 17).1.toNat]) m = v at *
          have hsv := hsame v hv2
          refine r_seq (r_asg (ev_call (ea_cons (ev_var rfl) (ea_cons (ev_var rfl) ea_nil)) ⟨v, drs R, rfl, eqOk_drs 1 R (by omega) (fun r hr => by have := (hRr r hr).2; omega), hv2, rfl⟩) ?_)
          generalize eqS v (drs R) = du at *
          show RunS K _ [.dat (scrD (xs.map PyData.int)), .dat (.int (i : Nat)), .own true p (nx bx.2 17).2.d, .dat (dr pol), .dat (.bool wi), s5, s6, s7, .dat (dq nu.1), .dat (dq mm), .dat (dr told), .dat (drs R), .dat (dr (turnQ pol)), .dat (dr (smallQ pol)), .dat v, .dat (.bool du), .un, .un] _
          have hdd : EqOk 5 (.list [.bool du, .bool du]) := ⟨by show 2 ≤ 1000; decide, fun x hx => by
            rcases List.mem_cons.mp hx with rfl | hx
            · exact True.intro
            · rcases List.mem_cons.mp hx with rfl | hx
              · exact True.intro
              · cases hx⟩
          refine r_if (b := false) (eb_is (eb_not (eb_val (ev_call (ea_cons (ev_lst (ea_cons (ev_call (ea_cons (ev_var rfl) (ea_cons (ev_var rfl) ea_nil)) ⟨told, v, rfl, okt, hv1, rfl⟩) (ea_cons (ev_callW (ds := [dr told, v]) (ea_cons (ev_var rfl) (ea_cons (ev_var rfl) ea_nil)) rfl (fun B ws h => swap2_dq h) ⟨told, v, rfl, okt, hv1, rfl⟩) ea_nil)) len2) (ea_cons (ev_lst (ea_cons (ev_var rfl) (ea_cons (ev_var rfl) ea_nil)) len2) ea_nil)) ⟨_, _, rfl, hdd, rfl, rfl⟩))) (by rw [hsv, eqS2]; rfl)) (fun c => nomatch c) (fun _ => r_next ?_)
          exact ⟨_, _, rfl⟩
        · rintro Γ' ⟨s14, s15, rfl⟩
          exact ⟨_, _, _, _, _, _, _, _, _, _, _, _, _, _, _, rfl⟩
    · rintro Γ' _
      exact r_ret ev_bl rfl
end
end C56
end Part19

section Part20
set_option Elab.async false
set_option linter.all false
/-! The circle rows, in plain numbers: sequences, the shift, norms. -/
namespace C56
/-- a polynomial in the shift, at a sequence -/
def ap : List Rat → (Nat → Rat) → Nat → Rat
  | [], _, _ => 0
  | a :: p, u, k => a * u k + ap p u (k + 1)
theorem ap_lin (p : List Rat) (u v : Nat → Rat) (c : Rat) (k : Nat) : ap p (fun i => u i + c * v i) k = ap p u k + c * ap p v k := by
  induction p generalizing k with
  | nil => simp only [ap]; grind
  | cons a p ih => simp only [ap, ih]; grind
theorem ap_smul (p : List Rat) (u : Nat → Rat) (c : Rat) (k : Nat) : ap p (fun i => c * u i) k = c * ap p u k := by
  induction p generalizing k with
  | nil => simp only [ap]; grind
  | cons a p ih => simp only [ap, ih]; grind
theorem ap_shift (p : List Rat) (u : Nat → Rat) (s k : Nat) : ap p (fun i => u (i + s)) k = ap p u (k + s) := by
  induction p generalizing k with
  | nil => rfl
  | cons a p ih =>
    simp only [ap, ih]
    rw [show k + 1 + s = k + s + 1 by omega]
theorem ap_comm (p q : List Rat) (u : Nat → Rat) (k : Nat) : ap p (ap q u) k = ap q (ap p u) k := by
  induction p generalizing k with
  | nil =>
    have h := ap_smul q u 0 k
    have e : (fun i => (0 : Rat) * u i) = ap [] u := funext fun i => by simp only [ap]; grind
    rw [e] at h
    rw [h]
    simp only [ap]
    grind
  | cons a p ih =>
    have e : ap (a :: p) u = fun i => ap p u (i + 1) + a * u i := funext fun i => by simp only [ap]; grind
    rw [e, ap_lin, ap_shift, ← ih]
    simp only [ap]
    grind
theorem ap_congr (p : List Rat) {u v : Nat → Rat} (k : Nat) (h : ∀ j, j < p.length → u (k + j) = v (k + j)) : ap p u k = ap p v k := by
  induction p generalizing k with
  | nil => rfl
  | cons a p ih =>
    simp only [ap]
    rw [ih (k + 1) (fun j hj => by have := h (j + 1) (by simp; omega); rw [show k + 1 + j = k + (j + 1) by omega]; exact this), show u k = v k from h 0 (by simp)]
theorem ap_app (p q : List Rat) (u : Nat → Rat) (k : Nat) : ap (p ++ q) u k = ap p u k + ap q u (k + p.length) := by
  induction p generalizing k with
  | nil => simp only [ap, List.nil_append, List.length_nil, Nat.add_zero]; grind
  | cons a p ih =>
    simp only [List.cons_append, ap, ih, List.length_cons]
    rw [show k + 1 + p.length = k + (p.length + 1) by omega]
    grind
theorem ap_map_div (p : List Rat) (b : Rat) (u : Nat → Rat) (k : Nat) : ap (p.map (· / b)) u k = ap p u k / b := by
  induction p generalizing k with
  | nil => simp only [List.map_nil, ap]; grind
  | cons a p ih => simp only [List.map_cons, ap, ih]; grind
theorem ap_zip (p q : List Rat) (c : Rat) (u : Nat → Rat) (k : Nat) (h : p.length = q.length) : ap ((p.zip q).map fun x => x.1 - c * x.2) u k = ap p u k - c * ap q u k := by
  induction p generalizing q k with
  | nil =>
    cases q with
    | nil => simp only [List.zip_nil_left, List.map_nil, ap]; grind
    | cons b q => simp at h
  | cons a p ih =>
    cases q with
    | nil => simp at h
    | cons b q =>
      simp only [List.zip_cons_cons, List.map_cons, ap]
      rw [ih q (k + 1) (by simpa using h)]
      grind
/-! ### sums -/
def sumTo : Nat → (Nat → Rat) → Rat
  | 0, _ => 0
  | n + 1, f => sumTo n f + f n
theorem sum_lin (L : Nat) (f g : Nat → Rat) (c : Rat) : sumTo L (fun i => f i + c * g i) = sumTo L f + c * sumTo L g := by
  induction L with
  | zero => simp only [sumTo]; grind
  | succ n ih => simp only [sumTo, ih]; grind
theorem sum_congr (L : Nat) {f g : Nat → Rat} (h : ∀ i, i < L → f i = g i) : sumTo L f = sumTo L g := by
  induction L with
  | zero => rfl
  | succ n ih =>
    simp only [sumTo]
    rw [ih fun i hi => h i (by omega), h n (by omega)]
theorem sum_front (L : Nat) (f : Nat → Rat) : sumTo (L + 1) f = f 0 + sumTo L (fun i => f (i + 1)) := by
  induction L with
  | zero => simp only [sumTo]; grind
  | succ n ih =>
    rw [sumTo, ih]
    simp only [sumTo]
    grind
theorem sum_zero (L : Nat) {f : Nat → Rat} (h : ∀ i, i < L → f i = 0) : sumTo L f = 0 := by
  induction L with
  | zero => rfl
  | succ n ih =>
    simp only [sumTo]
    rw [ih fun i hi => h i (by omega), h n (by omega)]
    grind
theorem sum_more (L m : Nat) {f : Nat → Rat} (h : ∀ i, L ≤ i → f i = 0) : sumTo (L + m) f = sumTo L f := by
  induction m with
  | zero => rfl
  | succ n ih =>
    rw [show L + (n + 1) = (L + n) + 1 by omega, sumTo, ih, h _ (by omega)]
    grind
def Zr (L : Nat) (u : Nat → Rat) : Prop := ∀ i, L ≤ i → u i = 0
theorem Zr.ap {L : Nat} {u : Nat → Rat} (h : Zr L u) (p : List Rat) : Zr L (ap p u) := by
  intro i hi
  induction p generalizing i with
  | nil => rfl
  | cons a p ih =>
    simp only [C56.ap]
    rw [ih (i + 1) (by omega), h i hi]
    grind
theorem Zr.mono {L M : Nat} {u : Nat → Rat} (h : Zr L u) (hM : L ≤ M) : Zr M u := fun i hi => h i (by omega)
theorem Zr.sh {L : Nat} {u : Nat → Rat} (h : Zr L u) (s : Nat) : Zr L (fun i => u (i + s)) := fun i hi => h (i + s) (by omega)
def In (L : Nat) (u v : Nat → Rat) : Rat := sumTo L fun k => u k * v k
theorem In_lin (L : Nat) (x u v : Nat → Rat) (c : Rat) : In L x (fun i => u i + c * v i) = In L x u + c * In L x v := by
  unfold In
  rw [← sum_lin]
  exact sum_congr L fun i _ => by grind
theorem In_symm (L : Nat) (u v : Nat → Rat) : In L u v = In L v u := sum_congr L fun i _ => by grind
theorem In_linL (L : Nat) (x u v : Nat → Rat) (c : Rat) : In L (fun i => u i + c * v i) x = In L u x + c * In L v x := by
  rw [In_symm, In_lin, In_symm L x u, In_symm L x v]
/-- the square of a sum -/
theorem In_sq (L : Nat) (u v : Nat → Rat) (c : Rat) : In L (fun i => u i + c * v i) (fun i => u i + c * v i) = In L u u + 2 * c * In L u v + c * c * In L v v := by
  rw [In_lin, In_linL, In_linL, In_symm L v u]
  grind
theorem In_sh {L : Nat} {u v : Nat → Rat} (h : Zr L u) : In L (fun i => u (i + 1)) (fun i => v (i + 1)) = In L u v - u 0 * v 0 := by
  have h1 : sumTo (L + 1) (fun k => u k * v k) = u 0 * v 0 + In L (fun i => u (i + 1)) (fun i => v (i + 1)) := sum_front L _
  have h2 : sumTo (L + 1) (fun k => u k * v k) = In L u v + u L * v L := rfl
  have h3 : u L = 0 := h L (Nat.le_refl _)
  rw [h3] at h2
  grind
theorem In_shs {L : Nat} {x e : Nat → Rat} (hx : Zr L x) (m : Nat) (h : ∀ i, i < m → e i = 0) : In L (fun i => x (i + m)) (fun i => e (i + m)) = In L x e := by
  induction m with
  | zero => rfl
  | succ m ih =>
    rw [← ih fun i hi => h i (by omega)]
    have h1 := In_sh (u := fun i => x (i + m)) (v := fun i => e (i + m)) (hx.sh m)
    have h2 : e (0 + m) = 0 := h _ (by omega)
    simp only [h2] at h1
    have e1 : (fun i => x (i + 1 + m)) = fun i => x (i + (m + 1)) := funext fun i => by rw [show i + 1 + m = i + (m + 1) by omega]
    have e2 : (fun i => e (i + 1 + m)) = fun i => e (i + (m + 1)) := funext fun i => by rw [show i + 1 + m = i + (m + 1) by omega]
    rw [e1, e2] at h1
    rw [h1]
    grind
/-- the reflection -/
theorem refl {L : Nat} {x : Nat → Rat} (hx : Zr L x) : ∀ (g : List Rat) (e : Nat → Rat), (∀ i, i + 1 < g.length → e i = 0) → In L x (ap g e) = In L (ap g.reverse x) (fun k => e (k + (g.length - 1)))
  | [], e, _ => by
    have h1 : In L x (ap [] e) = 0 := sum_zero L fun i _ => by show x i * 0 = 0; grind
    have h2 : In L (ap [] x) (fun k => e (k + (([] : List Rat).length - 1))) = 0 := sum_zero L fun i _ => by show 0 * _ = (0 : Rat); grind
    rw [h1]
    exact h2.symm
  | a :: g, e, h => by
    have e1 : ap (a :: g) e = fun i => ap g (fun j => e (j + 1)) i + a * e i := funext fun i => by
      rw [ap_shift]
      simp only [ap]
      grind
    rw [e1, In_lin]
    have hr : ap (a :: g).reverse x = fun k => ap g.reverse x k + a * x (k + g.length) := funext fun k => by
      rw [List.reverse_cons, ap_app, List.length_reverse]
      simp only [ap]
      grind
    rw [hr, In_linL]
    have i2 : In L x e = In L (fun k => x (k + g.length)) (fun k => e (k + ((a :: g).length - 1))) := by
      have := In_shs hx g.length (e := e) fun i hi => h i (by simp; omega)
      rw [← this]
      rfl
    rw [i2]
    cases g with
    | nil =>
      have h1 : In L x (ap [] (fun j => e (j + 1))) = 0 := sum_zero L fun i _ => by show x i * 0 = 0; grind
      have h2 : In L (ap [].reverse x) (fun k => e (k + ([a].length - 1))) = 0 := sum_zero L fun i _ => by show 0 * _ = (0 : Rat); grind
      rw [h1, h2]
    | cons b g =>
      rw [refl hx (b :: g) (fun j => e (j + 1)) fun i hi => h (i + 1) (by simp at hi ⊢; omega)]
      have e3 : (fun k => e (k + ((b :: g).length - 1) + 1)) = fun k => e (k + ((a :: b :: g).length - 1)) := funext fun k => by
        simp only [List.length_cons]
        rw [show k + (g.length + 1 - 1) + 1 = k + (g.length + 1 + 1 - 1) by omega]
      rw [e3]
/-- the form of a polynomial -/
def Bf (L : Nat) (p : List Rat) (u : Nat → Rat) : Rat := In L (ap p.reverse u) (ap p.reverse u) - In L (ap p u) (ap p u)
theorem Bf_low {L : Nat} {g : List Rat} {u e : Nat → Rat} (hu : Zr L u) (he : Zr L e) (h : ∀ i, i + 1 < g.length → e i = 0) (c : Rat) : Bf L g (fun i => u i + c * e i) = Bf L g u := by
  have e1 : ap g (fun i => u i + c * e i) = fun k => ap g u k + c * ap g e k := funext fun k => ap_lin ..
  have e2 : ap g.reverse (fun i => u i + c * e i) = fun k => ap g.reverse u k + c * ap g.reverse e k := funext fun k => ap_lin ..
  have key : ∀ x : Nat → Rat, Zr L x → In L (ap g.reverse x) (ap g.reverse e) = In L (ap g x) (ap g e) := fun x hx => by
    rw [refl (hx.ap g) g e h, refl (hx.ap g.reverse) g.reverse e (by rw [List.length_reverse]; exact h), List.reverse_reverse, List.length_reverse]
    exact sum_congr L fun i _ => by rw [ap_comm]
  unfold Bf
  rw [e1, e2, In_sq, In_sq, key u hu, key e he]
  grind
theorem Bf_zero {L : Nat} {g : List Rat} {e : Nat → Rat} (he : Zr L e) (h : ∀ i, i + 1 < g.length → e i = 0) : Bf L g e = 0 := by
  have h1 := Bf_low (L := L) (g := g) (u := fun _ => 0) (fun _ _ => rfl) he h 1
  have e1 : (fun i => (0 : Rat) + 1 * e i) = e := funext fun i => by grind
  rw [e1] at h1
  rw [h1]
  have z : ∀ p : List Rat, ap p (fun _ => 0) = fun _ => 0 := fun p => funext fun k => by
    induction p generalizing k with
    | nil => rfl
    | cons a p ih => simp only [ap, ih]; grind
  unfold Bf
  rw [z, z]
  grind
theorem Bf_more {L m : Nat} {g : List Rat} {u : Nat → Rat} (hu : Zr L u) : Bf (L + m) g u = Bf L g u := by
  unfold Bf In
  rw [sum_more L m (fun i hi => by rw [hu.ap g.reverse i hi]; grind), sum_more L m (fun i hi => by rw [hu.ap g i hi]; grind)]
end C56
end Part20

section Part21
set_option Elab.async false
set_option linter.all false
/-! The rows end at degree 0 exactly if the form is positive. -/
namespace C56
theorem sq_nn (a : Rat) : 0 ≤ a * a := by
  by_cases h : 0 ≤ a
  · exact Rat.mul_nonneg h h
  · have h2 : 0 ≤ -a := by grind
    have h3 := Rat.mul_nonneg h2 h2
    grind
theorem sq_pos {a : Rat} (h : a ≠ 0) : 0 < a * a := by
  have h1 := sq_nn a
  have h2 : a * a ≠ 0 := by
    intro z
    rcases Rat.mul_eq_zero.mp z with z | z <;> exact h z
  grind
theorem open_iff (p : List Rat) : isOpen p = true ↔ 0 < 1 - c0 p * c0 p := by
  unfold isOpen
  rw [Bool.and_eq_true, decide_eq_true_eq, decide_eq_true_eq]
  generalize c0 p = c
  constructor
  · rintro ⟨h1, h2⟩
    have h3 : 0 < (1 - c) * (1 + c) := Rat.mul_pos (by grind) (by grind)
    grind
  · intro h
    constructor
    · apply Rat.not_le.mp
      intro z
      have h3 : 0 ≤ (-1 - c) * (1 - c) := Rat.mul_nonneg (by grind) (by grind)
      grind
    · apply Rat.not_le.mp
      intro z
      have h3 : 0 ≤ (c - 1) * (c + 1) := Rat.mul_nonneg (by grind) (by grind)
      grind
theorem last_cons {a : Rat} {r : List Rat} (h : r ≠ []) : lastQ (a :: r) = lastQ r := by
  unfold lastQ
  cases r with
  | nil => exact absurd rfl h
  | cons b r => rfl
theorem ap_low : ∀ (q : List Rat) (u : Nat → Rat) (k : Nat), q ≠ [] → (∀ i, i + 1 < q.length → u (k + i) = 0) → ap q u k = lastQ q * u (k + (q.length - 1))
  | [], _, _, h, _ => absurd rfl h
  | [a], u, k, _, _ => by
    simp only [ap, lastQ]
    show a * u k + 0 = a * u (k + 0)
    rw [Nat.add_zero]
    grind
  | a :: b :: q, u, k, _, h => by
    have h0 : u k = 0 := h 0 (by simp)
    show a * u k + ap (b :: q) u (k + 1) = _
    rw [ap_low (b :: q) u (k + 1) (by simp) fun i hi => by
      have := h (i + 1) (by simp at hi ⊢; omega)
      rw [show k + 1 + i = k + (i + 1) by omega]
      exact this, h0, last_cons (a := a) (r := b :: q) (by simp)]
    simp only [List.length_cons]
    rw [show k + 1 + (q.length + 1 - 1) = k + (q.length + 1 + 1 - 1) by omega]
    grind
theorem parts_split {p : List Rat} (h : 1 < p.length) (hl : lastQ p = 1) : partsQ p = 0 :: (partsQ p).drop 1 := by
  have hp : p ≠ [] := by intro z; rw [z] at h; simp at h
  have h0 : 0 < (partsQ p).length := by rw [partsQ_len]; omega
  have e : (partsQ p)[0] = 0 := by
    have h1 : 0 < p.length := by omega
    have h2 : p.length - 1 < p.length := by omega
    have e1 : (partsQ p)[0] = p[0] - c0 p * p[p.length - 1 - 0] := by simp only [partsQ, List.getElem_map, List.getElem_zip, List.getElem_reverse]
    have e2 : p[p.length - 1 - 0] = lastQ p := by
      rw [lastQ_eq hp, List.getLast_eq_getElem]
      rfl
    have e3 : p[0] = c0 p := by
      cases p with
      | nil => exact absurd rfl hp
      | cons a r => rfl
    rw [e1, e2, e3, hl]
    grind
  cases hx : partsQ p with
  | nil =>
    rw [hx] at h0
    simp at h0
  | cons a r =>
    simp only [hx, List.getElem_cons_zero] at e
    rw [e]
    rfl
theorem parts_rev (p : List Rat) : (partsQ p).reverse = (p.reverse.zip p).map fun x => x.1 - c0 p * x.2 := by
  apply List.ext_getElem
  · rw [List.length_reverse, partsQ_len, List.length_map, List.length_zip, List.length_reverse, Nat.min_self]
  · intro i h1 h2
    rw [List.length_reverse, partsQ_len] at h1
    simp only [partsQ, List.getElem_reverse, List.getElem_map, List.getElem_zip, List.length_map, List.length_zip, List.length_reverse, Nat.min_self]
    congr 2
    congr 1
    omega
section
variable {p : List Rat} (h : 1 < p.length) (hl : lastQ p = 1) (hb : belowQ p ≠ 0)
include h hl hb
theorem next_ap (u : Nat → Rat) (k : Nat) : belowQ p * ap (nextQ p) u (k + 1) = ap p u k - c0 p * ap p.reverse u k := by
  have e := ap_zip p p.reverse (c0 p) u k (by rw [List.length_reverse])
  have e2 : ap (partsQ p) u k = ap ((partsQ p).drop 1) u (k + 1) := by
    rw [parts_split h hl]
    simp only [ap, List.drop_one, List.tail_cons]
    grind
  unfold nextQ
  rw [ap_map_div, ← e2]
  show belowQ p * (ap ((p.zip p.reverse).map fun x => x.1 - c0 p * x.2) u k / belowQ p) = _
  rw [e]
  grind
theorem next_apr (u : Nat → Rat) (k : Nat) : belowQ p * ap (nextQ p).reverse u k = ap p.reverse u k - c0 p * ap p u k := by
  have e := ap_zip p.reverse p (c0 p) u k (by rw [List.length_reverse])
  have e2 : ap (partsQ p).reverse u k = ap ((partsQ p).drop 1).reverse u k := by
    rw [parts_split h hl, List.reverse_cons, ap_app]
    simp only [ap, List.drop_one, List.tail_cons]
    grind
  unfold nextQ
  rw [← List.map_reverse, ap_map_div, ← e2, parts_rev, e]
  grind
theorem next_last : lastQ (nextQ p) = 1 := by
  have hp : p ≠ [] := by intro z; rw [z] at h; simp at h
  have hn : nextQ p ≠ [] := by
    intro z
    have := nextQ_len p
    rw [z] at this
    simp at this
    omega
  have h1 : p.length - 1 < p.length := by omega
  have h2 : (nextQ p).length - 1 < (nextQ p).length := by rw [nextQ_len]; omega
  have h3 : p.length - 2 < ((partsQ p).drop 1).length := by rw [List.length_drop, partsQ_len]; omega
  have h4 : 1 + (p.length - 2) < (partsQ p).length := by rw [partsQ_len]; omega
  have e1 : p[p.length - 1] = 1 := by rw [← hl, lastQ_eq hp, List.getLast_eq_getElem]
  have e0 : p[0] = c0 p := by
    cases p with
    | nil => exact absurd rfl hp
    | cons a r => rfl
  have e2 : (partsQ p)[1 + (p.length - 2)] = p[1 + (p.length - 2)] - c0 p * p[p.length - 1 - (1 + (p.length - 2))] := by simp only [partsQ, List.getElem_map, List.getElem_zip, List.getElem_reverse]
  have e3 : p[1 + (p.length - 2)] = 1 := by rw [← e1]; congr 1; omega
  have e4 : p[p.length - 1 - (1 + (p.length - 2))] = c0 p := by rw [← e0]; congr 1; omega
  rw [lastQ_eq hn, List.getLast_eq_getElem]
  have e5 : (nextQ p)[(nextQ p).length - 1] = ((partsQ p).drop 1)[(nextQ p).length - 1]'(by rw [List.length_drop, partsQ_len, nextQ_len]; omega) / belowQ p := by simp only [nextQ, List.getElem_map]
  have e6 : ((partsQ p).drop 1)[(nextQ p).length - 1]'(by rw [List.length_drop, partsQ_len, nextQ_len]; omega) = (partsQ p)[1 + (p.length - 2)] := by
    rw [List.getElem_drop]
    congr 1
    rw [nextQ_len]
    omega
  rw [e5, e6, e2, e3, e4]
  have e7 : belowQ p = 1 - c0 p * c0 p := rfl
  rw [← e7]
  grind
theorem Bf_next {L : Nat} {u : Nat → Rat} (hu : Zr L u) : Bf L p u = belowQ p * (Bf L (nextQ p) u + ap (nextQ p) u 0 * ap (nextQ p) u 0) := by
  have e7 : belowQ p = 1 - c0 p * c0 p := rfl
  have a1 : ap p u = fun k => ap (nextQ p) u (k + 1) + c0 p * ap (nextQ p).reverse u k := funext fun k => by
    have h1 := next_ap h hl hb u k
    have h2 := next_apr h hl hb u k
    grind
  have a2 : ap p.reverse u = fun k => ap (nextQ p).reverse u k + c0 p * ap (nextQ p) u (k + 1) := funext fun k => by
    have h1 := next_ap h hl hb u k
    have h2 := next_apr h hl hb u k
    grind
  have i1 := In_sh (u := ap (nextQ p) u) (v := ap (nextQ p) u) (hu.ap _)
  unfold Bf
  rw [a1, a2, In_sq, In_sq, i1, In_symm L (fun k => ap (nextQ p) u (k + 1)) (ap (nextQ p).reverse u), e7]
  grind
end
inductive G : List Rat → Prop
  | one {p : List Rat} : p.length = 1 → G p
  | step {p : List Rat} : 1 < p.length → isOpen p = true → G (nextQ p) → G p
theorem G_rows : ∀ (n : Nat) (p : List Rat), p ≠ [] → p.length ≤ n + 1 → (((rowsF n p).getLastD []).length = 1 ↔ G p)
  | 0, p, hp, hl => by
    have h1 := List.length_pos_iff.mpr hp
    show p.length = 1 ↔ G p
    exact ⟨.one, fun _ => by omega⟩
  | n + 1, p, hp, hl => by
    have h1 := List.length_pos_iff.mpr hp
    show (((p :: (if 1 < p.length ∧ isOpen p = true then rowsF n (nextQ p) else [])).getLastD []).length = 1 ↔ G p)
    by_cases hc : 1 < p.length ∧ isOpen p = true
    · rw [if_pos hc]
      have hn : nextQ p ≠ [] := by
        intro z
        have := nextQ_len p
        rw [z] at this
        simp at this
        omega
      have ih := G_rows n (nextQ p) hn (by rw [nextQ_len]; omega)
      have hr : rowsF n (nextQ p) ≠ [] := by
        cases n <;> (unfold rowsF; intro z; cases z)
      have e : (p :: rowsF n (nextQ p)).getLastD [] = (rowsF n (nextQ p)).getLastD [] := by
        cases hx : rowsF n (nextQ p) with
        | nil => exact absurd hx hr
        | cons a r => rfl
      rw [e, ih]
      exact ⟨.step hc.1 hc.2, fun z => by
        cases z with
        | one z => omega
        | step _ _ z => exact z⟩
    · rw [if_neg hc]
      show p.length = 1 ↔ G p
      exact ⟨.one, fun z => by
        cases z with
        | one z => exact z
        | step z1 z2 _ => exact absurd ⟨z1, z2⟩ hc⟩
theorem within_G {p : List Rat} (hp : p ≠ []) : withinQ p = true ↔ G (monicQ p) := by
  unfold withinQ circleQ rowsQ
  rw [decide_eq_true_eq]
  refine G_rows _ _ ?_ (by omega)
  intro z
  have := monicQ_len p
  rw [z] at this
  exact hp (List.length_eq_zero_iff.mp this.symm)
def PD (p : List Rat) : Prop := ∀ (L : Nat) (u : Nat → Rat), Zr L u → (∃ i, i + 1 < p.length ∧ u i ≠ 0) → 0 < Bf L p u
theorem PD.nn {p : List Rat} (h : PD p) {L : Nat} {u : Nat → Rat} (hu : Zr L u) : 0 ≤ Bf L p u := by
  by_cases hx : ∃ i, i + 1 < p.length ∧ u i ≠ 0
  · exact Rat.le_of_lt (h L u hu hx)
  · rw [Bf_zero hu fun i hi => Classical.byContradiction fun z => hx ⟨i, hi, z⟩]
    exact Rat.le_refl
theorem G_PD {p : List Rat} (h : G p) : lastQ p = 1 → PD p := by
  induction h with
  | one h1 =>
    rintro hl L u hu ⟨i, hi, _⟩
    omega
  | @step p h1 ho hg ih =>
    rintro hl L u hu ⟨i, hi, hne⟩
    have hb : 0 < belowQ p := (open_iff p).mp ho
    have hb0 : belowQ p ≠ 0 := by grind
    have hq := ih (next_last h1 hl hb0)
    have hnq := hq.nn hu
    have hs := sq_nn (ap (nextQ p) u 0)
    rw [Bf_next h1 hl hb0 hu]
    apply Rat.mul_pos hb
    by_cases hx : ∃ i, i + 1 < (nextQ p).length ∧ u i ≠ 0
    · have := hq L u hu hx
      grind
    · have hz : ∀ i, i + 1 < (nextQ p).length → u (0 + i) = 0 := fun i hi => by
        rw [Nat.zero_add]
        exact Classical.byContradiction fun z => hx ⟨i, hi, z⟩
      have hn : nextQ p ≠ [] := by
        intro z
        have := nextQ_len p
        rw [z] at this
        simp at this
        omega
      have e := ap_low (nextQ p) u 0 hn hz
      rw [next_last h1 hl hb0, nextQ_len] at e
      have hi2 : i = 0 + (p.length - 1 - 1) := by
        apply Classical.byContradiction
        intro z
        have := hz i (by rw [nextQ_len]; omega)
        rw [Nat.zero_add] at this
        exact hne this
      rw [hi2] at hne
      have := sq_pos (a := ap (nextQ p) u 0) (by rw [e]; grind)
      grind
/-- 1 at one place -/
def dl (m : Nat) : Nat → Rat := fun i => if i = m then 1 else 0
theorem PD_G : ∀ (n : Nat) (p : List Rat), p.length = n + 1 → lastQ p = 1 → PD p → G p
  | 0, p, hn, _, _ => .one hn
  | n + 1, p, hn, hl, h => by
    have h1 : 1 < p.length := by omega
    have hp : p ≠ [] := by intro z; rw [z] at h1; simp at h1
    have z0 : Zr 1 (dl 0) := fun i hi => by
      unfold dl
      rw [if_neg (by omega)]
    have b0 := h 1 (dl 0) z0 ⟨0, by omega, by unfold dl; simp⟩
    have hd : ∀ (a : Rat) (r : List Rat), ap (a :: r) (dl 0) 0 = a := fun a r => by
      show a * dl 0 0 + ap r (dl 0) 1 = a
      have : ap r (dl 0) 1 = 0 := z0.ap r 1 (Nat.le_refl _)
      rw [this]
      unfold dl
      simp
      grind
    have e1 : ap p (dl 0) 0 = c0 p := by
      cases p with
      | nil => exact absurd rfl hp
      | cons a r => exact hd a r
    have e2 : ap p.reverse (dl 0) 0 = 1 := by
      cases hx : p.reverse with
      | nil =>
        have := List.reverse_eq_nil_iff.mp hx
        exact absurd this hp
      | cons a r =>
        rw [hd a r, ← hl, lastQ_eq hp]
        have : p = r.reverse ++ [a] := by
          have := congrArg List.reverse hx
          rw [List.reverse_reverse, List.reverse_cons] at this
          exact this
        simp only [this, List.getLast_concat]
    have hb : 0 < belowQ p := by
      have e : Bf 1 p (dl 0) = 1 - c0 p * c0 p := by
        unfold Bf In
        simp only [sumTo, e1, e2]
        grind
      rw [e] at b0
      exact b0
    have hb0 : belowQ p ≠ 0 := by grind
    have hnl := next_last h1 hl hb0
    have hnn : nextQ p ≠ [] := by
      intro z
      have := nextQ_len p
      rw [z] at this
      simp at this
      omega
    refine .step h1 ((open_iff p).mpr hb) (PD_G n (nextQ p) (by rw [nextQ_len]; omega) hnl ?_)
    rintro L u hu ⟨i, hi, hne⟩
    have hql : (nextQ p).length = n + 1 := by rw [nextQ_len]; omega
    have hu2 : Zr (L + (n + 1)) u := hu.mono (by omega)
    have zd : Zr (L + (n + 1)) (dl n) := fun i hi => by
      unfold dl
      rw [if_neg (by omega)]
    have hlow : ∀ i, i + 1 < (nextQ p).length → dl n i = 0 := fun i hi => by
      unfold dl
      rw [if_neg (by omega)]
    have hz' : Zr (L + (n + 1)) (fun i => u i + (-(ap (nextQ p) u 0)) * dl n i) := fun i hi => by
      show u i + _ * dl n i = 0
      rw [hu2 i hi, zd i hi]
      grind
    have hpd := h (L + (n + 1)) _ hz' ⟨i, by omega, by
      show u i + _ * dl n i ≠ 0
      rw [hlow i hi]
      grind⟩
    rw [Bf_next h1 hl hb0 hz', Bf_low hu2 zd hlow, Bf_more hu] at hpd
    have e : ap (nextQ p) (fun i => u i + (-(ap (nextQ p) u 0)) * dl n i) 0 = 0 := by
      rw [ap_lin]
      have e3 := ap_low (nextQ p) (dl n) 0 hnn (fun i hi => by rw [Nat.zero_add]; exact hlow i hi)
      rw [hnl, hql] at e3
      have e4 : dl n (0 + (n + 1 - 1)) = 1 := by
        unfold dl
        rw [if_pos (by omega)]
      rw [e4] at e3
      rw [e3]
      grind
    rw [e] at hpd
    apply Rat.not_le.mp
    intro z
    have : belowQ p * Bf L (nextQ p) u ≤ 0 := by
      have := Rat.mul_nonneg (Rat.le_of_lt hb) (show 0 ≤ -(Bf L (nextQ p) u) by grind)
      grind
    grind
end C56
end Part21

section Part22
set_option Elab.async false
set_option linter.all false
/-! Products of factors. -/
namespace C56
structure FQ (d : Nat) (f : List Rat) (Q : (Nat → Rat) → Rat) : Prop where
  len : f.length = d + 1
  last : lastQ f = 1
  pol : ∀ (c : Rat) (a b : Nat → Rat), Q (fun i => a i + c * b i) - Q (fun i => b i + c * a i) = (1 - c * c) * (Q a - Q b)
  nn : ∀ a, 0 ≤ Q a
  zero : ∀ a, Q a ≤ 0 → ∀ i, i < d → a i = 0
  zz : ∀ a, (∀ i, i < d → a i = 0) → Q a = 0
  ctr : ∀ z, (∀ k, ap f z k = 0) → Q (fun i => z (i + 1)) ≤ Q z
  nrm : ∀ (L : Nat) (w : Nat → Rat), Zr L w → Bf L f w = Q w
  ext : ∀ u : Nat → Rat, ∃ y : Nat → Rat, (∀ k, ap f y k = 0) ∧ ∀ i, i < d → y i = u i
structure FO (d : Nat) (f : List Rat) (Q : (Nat → Rat) → Rat) : Prop where
  len : f.length = d + 1
  last : lastQ f = 1
  nrm : ∀ (L : Nat) (w : Nat → Rat), Zr L w → Bf L f w = Q w
  cong : ∀ a b : Nat → Rat, (∀ i, i < d → a i = b i) → Q a = Q b
  out : ∀ g : List Rat, ∃ y : Nat → Rat, (∀ k, ap f y k = 0) ∧ (∃ i, i < d ∧ y i ≠ 0) ∧ Q (ap g y) ≤ 0
structure Mul (P f g : List Rat) : Prop where
  a : ∀ u k, ap P u k = ap f (ap g u) k
  r : ∀ u k, ap P.reverse u k = ap f.reverse (ap g.reverse u) k
  len : P.length + 1 = f.length + g.length
theorem Bf_mul {P f g : List Rat} (M : Mul P f g) {L : Nat} {u : Nat → Rat} : Bf L P u = Bf L f (ap g.reverse u) + Bf L g (ap f u) := by
  have e1 : ap P u = ap f (ap g u) := funext fun k => M.a u k
  have e2 : ap P.reverse u = ap f.reverse (ap g.reverse u) := funext fun k => M.r u k
  have e3 : ap f (ap g.reverse u) = ap g.reverse (ap f u) := funext fun k => ap_comm ..
  have e4 : ap f (ap g u) = ap g (ap f u) := funext fun k => ap_comm ..
  unfold Bf
  rw [e1, e2, e3, e4]
  grind
theorem ap_zero (p : List Rat) (k : Nat) : ap p (fun _ => 0) k = 0 := by
  induction p generalizing k with
  | nil => rfl
  | cons a p ih => simp only [ap, ih]; grind
theorem inj {d : Nat} {f : List Rat} {Q : (Nat → Rat) → Rat} (F : FQ d f Q) {g : List Rat} (hg : G g) : lastQ g = 1 → ∀ y : Nat → Rat, (∀ k, ap f y k = 0) → Q (ap g y) ≤ Q (ap g.reverse y) ∧ ((∀ i, i < d → ap g.reverse y i = 0) → ∀ i, i < d → y i = 0) := by
  induction hg with
  | @one g h1 =>
    intro hl y hy
    have e : g = [1] := by
      match g, h1, hl with
      | [a], _, hl =>
        have : a = 1 := hl
        rw [this]
    subst e
    have e2 : ap [1] y = y := funext fun k => by simp only [ap]; grind
    have e3 : ap [1].reverse y = y := e2
    rw [e2, e3]
    exact ⟨Rat.le_refl, fun h => h⟩
  | @step g h1 ho hg ih =>
    intro hl y hy
    have hb : 0 < belowQ g := (open_iff g).mp ho
    have hb0 : belowQ g ≠ 0 := by grind
    have e7 : belowQ g = 1 - c0 g * c0 g := rfl
    obtain ⟨i1, i2⟩ := ih (next_last h1 hl hb0) y hy
    have a1 : ap g y = fun k => ap (nextQ g) y (k + 1) + c0 g * ap (nextQ g).reverse y k := funext fun k => by
      have k1 := next_ap h1 hl hb0 y k
      have k2 := next_apr h1 hl hb0 y k
      grind
    have a2 : ap g.reverse y = fun k => ap (nextQ g).reverse y k + c0 g * ap (nextQ g) y (k + 1) := funext fun k => by
      have k1 := next_ap h1 hl hb0 y k
      have k2 := next_apr h1 hl hb0 y k
      grind
    have hz : ∀ k, ap f (ap (nextQ g) y) k = 0 := fun k => by
      rw [ap_comm]
      have : ap f y = fun _ => 0 := funext hy
      rw [this, ap_zero]
    have h3 := F.ctr _ hz
    have h4 := F.pol (c0 g) (ap (nextQ g).reverse y) (fun k => ap (nextQ g) y (k + 1))
    have h5 : 0 ≤ belowQ g * (Q (ap (nextQ g).reverse y) - Q (fun k => ap (nextQ g) y (k + 1))) := Rat.mul_nonneg (Rat.le_of_lt hb) (by grind)
    rw [← e7] at h4
    rw [← h4] at h5
    have hle : Q (ap g y) ≤ Q (ap g.reverse y) := by
      rw [a1, a2]
      generalize (Q fun k => ap (nextQ g) y (k + 1) + c0 g * ap (nextQ g).reverse y k) = A at *
      generalize (Q fun k => ap (nextQ g).reverse y k + c0 g * ap (nextQ g) y (k + 1)) = B at *
      clear ih i2
      grind
    refine ⟨hle, fun h => i2 fun i hi => ?_⟩
    have z1 := F.zz _ h
    rw [z1] at hle
    have z2 := F.zero _ hle i hi
    have z3 := h i hi
    have h6 := next_apr h1 hl hb0 y i
    rw [z2, z3] at h6
    have h7 : belowQ g * ap (nextQ g).reverse y i = 0 := by grind
    rcases Rat.mul_eq_zero.mp h7 with z | z
    · exact absurd z hb0
    · exact z
/-- what a recurrence goes on with -/
theorem rec_on {d : Nat} {f : List Rat} (hl : f.length = d + 1) (h1 : lastQ f = 1) (v : Nat → Rat) (m : Nat) (h0 : ∀ i, i < d → v i = 0) (h : ∀ i, i < m → ap f v i = 0) : ∀ n, ∀ i, i < n → i < d + m → v i = 0
  | 0, i, hi, _ => absurd hi (Nat.not_lt_zero i)
  | n + 1, i, hi, hm => by
    by_cases hd : i < d
    · exact h0 i hd
    · have hf : f ≠ [] := by intro z; rw [z] at hl; simp at hl
      have ih := rec_on hl h1 v m h0 h n
      have e := ap_low f v (i - d) hf fun j hj => ih (i - d + j) (by omega) (by omega)
      rw [h (i - d) (by omega), h1, hl] at e
      rw [show i - d + (d + 1 - 1) = i by omega] at e
      grind
theorem PD_mul {d : Nat} {f : List Rat} {Q : (Nat → Rat) → Rat} (F : FQ d f Q) {P g : List Rat} (M : Mul P f g) (hg : G g) (hl : lastQ g = 1) (hd : 0 < d) : PD P := by
  rintro L u hu ⟨i, hi, hne⟩
  have hpd := G_PD hg hl
  rw [Bf_mul M, F.nrm L _ (hu.ap _)]
  have n1 := F.nn (ap g.reverse u)
  have n2 := hpd.nn (hu.ap f)
  apply Rat.not_le.mp
  intro hle
  have q1 : Q (ap g.reverse u) ≤ 0 := by grind
  have q2 : Bf L g (ap f u) ≤ 0 := by grind
  have z1 := F.zero _ q1
  have z2 : ∀ i, i + 1 < g.length → ap f u i = 0 := fun i hi => Classical.byContradiction fun z => by
    have := hpd L (ap f u) (hu.ap f) ⟨i, hi, z⟩
    grind
  obtain ⟨y, hy, hyu⟩ := F.ext u
  have hlen := M.len
  have hfl := F.len
  have hag : ∀ i, i < d + (g.length - 1) → y i = u i := fun i hi => by
    have := rec_on F.len F.last (fun i => u i + (-1) * y i) (g.length - 1) (fun i hi => by rw [hyu i hi]; grind) (fun i hi => by rw [ap_lin, hy, z2 i (by omega)]; grind) (i + 1) i (by omega) hi
    grind
  have hy0 := (inj F hg hl y hy).2 fun i hi => by
    rw [← z1 i hi]
    exact ap_congr _ i fun j hj => hag (i + j) (by rw [List.length_reverse] at hj; omega)
  have := rec_on F.len F.last y (g.length - 1) hy0 (fun i _ => hy i) (i + 1) i (by omega) (by omega)
  rw [hag i (by omega)] at this
  exact hne this
theorem not_PD {d : Nat} {f : List Rat} {Q : (Nat → Rat) → Rat} (F : FO d f Q) {P g : List Rat} (M : Mul P f g) (hg : g ≠ []) : ¬ PD P := by
  intro h
  obtain ⟨y, hy, ⟨i, hi, hne⟩, hQ⟩ := F.out g.reverse
  have hlen := M.len
  have hfl := F.len
  have hg0 := List.length_pos_iff.mpr hg
  have hz : Zr (d + (g.length - 1)) (fun i => if i < d + (g.length - 1) then y i else 0) := fun i hi => if_neg (by omega)
  have hp := h _ _ hz ⟨i, by omega, by
    show (if i < d + (g.length - 1) then y i else 0) ≠ 0
    rw [if_pos (by omega)]
    exact hne⟩
  rw [Bf_mul M, F.nrm _ _ (hz.ap _), Bf_zero (hz.ap f) (fun i hi => by
    rw [ap_congr f (v := y) i fun j hj => if_pos (by omega)]
    exact hy i), F.cong _ (ap g.reverse y) (fun i hi => ap_congr _ i fun j hj => if_pos (by rw [List.length_reverse] at hj; omega))] at hp
  grind
/-! ### x - r -/
def QL (r : Rat) (a : Nat → Rat) : Rat := (1 - r * r) * (a 0 * a 0)
theorem nrmL (r : Rat) (L : Nat) (w : Nat → Rat) (hw : Zr L w) : Bf L [-r, 1] w = QL r w := by
  have e1 : ap [-r, 1] w = fun i => w (i + 1) + (-r) * w i := funext fun k => by simp only [ap]; grind
  have e2 : ap [-r, 1].reverse w = fun i => w i + (-r) * w (i + 1) := funext fun k => by
    show ap [1, -r] w k = _
    simp only [ap]
    grind
  have i1 := In_sh (u := w) (v := w) hw
  unfold Bf QL
  rw [e1, e2, In_sq, In_sq, i1, In_symm L (fun i => w (i + 1)) w]
  grind
theorem apL (r : Rat) (y : Nat → Rat) (k : Nat) : ap [-r, 1] y k = y (k + 1) - r * y k := by
  simp only [ap]
  grind
def powR (r : Rat) : Nat → Rat
  | 0 => 1
  | n + 1 => powR r n * r
theorem powR_ap (r t : Rat) (k : Nat) : ap [-r, 1] (fun i => powR r i * t) k = 0 := by
  rw [apL]
  show powR r k * r * t - r * (powR r k * t) = 0
  grind
theorem fqL {r : Rat} (h : r * r < 1) : FQ 1 [-r, 1] (QL r) where
  len := rfl
  last := rfl
  pol := fun c a b => by
    unfold QL
    grind
  nn := fun a => Rat.mul_nonneg (by grind) (sq_nn _)
  zero := fun a ha i hi => by
    have e : i = 0 := by omega
    subst e
    apply Classical.byContradiction
    intro z
    have := Rat.mul_pos (show 0 < 1 - r * r by grind) (sq_pos z)
    unfold QL at ha
    grind
  zz := fun a h => by
    unfold QL
    rw [h 0 (by omega)]
    grind
  ctr := fun z hz => by
    have h0 := hz 0
    rw [apL] at h0
    have e : z (0 + 1) = r * z 0 := by grind
    unfold QL
    show (1 - r * r) * (z (0 + 1) * z (0 + 1)) ≤ (1 - r * r) * (z 0 * z 0)
    rw [e]
    have h1 : 0 ≤ (1 - r * r) * (z 0 * z 0) := Rat.mul_nonneg (by grind) (sq_nn _)
    have h2 := Rat.mul_nonneg (show 0 ≤ 1 - r * r by grind) h1
    grind
  nrm := nrmL r
  ext := fun u => ⟨fun i => powR r i * u 0, powR_ap r _, fun i hi => by
    have e : i = 0 := by omega
    subst e
    show 1 * u 0 = u 0
    grind⟩
theorem foL {r : Rat} (h : ¬ r * r < 1) : FO 1 [-r, 1] (QL r) where
  len := rfl
  last := rfl
  nrm := nrmL r
  cong := fun a b e => by
    unfold QL
    rw [e 0 (by omega)]
  out := fun g => by
    refine ⟨fun i => powR r i * 1, powR_ap r _, ⟨0, by omega, by show (1 : Rat) * 1 ≠ 0; grind⟩, ?_⟩
    unfold QL
    have := Rat.mul_nonneg (show 0 ≤ r * r - 1 by grind) (sq_nn (ap g (fun i => powR r i * 1) 0))
    grind
/-! ### x * x + b * x + c -/
def QQ (b c : Rat) (a : Nat → Rat) : Rat := (1 - c * c) * (a 0 * a 0 + a 1 * a 1) + 2 * b * (1 - c) * (a 0 * a 1)
theorem apQ (b c : Rat) (y : Nat → Rat) (k : Nat) : ap [c, b, 1] y k = y (k + 2) + b * y (k + 1) + c * y k := by
  simp only [ap]
  grind
theorem nrmQ (b c : Rat) (L : Nat) (w : Nat → Rat) (hw : Zr L w) : Bf L [c, b, 1] w = QQ b c w := by
  have e1 : ap [c, b, 1] w = fun i => (w (i + 1 + 1) + b * w (i + 1)) + c * w i := funext fun k => apQ ..
  have e2 : ap [c, b, 1].reverse w = fun i => (w i + b * w (i + 1)) + c * w (i + 1 + 1) := funext fun k => by
    show ap [1, b, c] w k = _
    simp only [ap]
    grind
  have i1 := In_sh (u := w) (v := w) hw
  have i2 := In_sh (u := fun i => w (i + 1)) (v := fun i => w (i + 1)) (hw.sh 1)
  have i3 := In_sh (u := w) (v := fun i => w (i + 1)) hw
  unfold Bf QQ
  rw [e1, e2, In_sq, In_sq, In_sq, In_sq, In_linL, In_linL, i2, i3, i1, In_symm L (fun i => w (i + 1 + 1)) (fun i => w (i + 1)), In_symm L (fun i => w (i + 1 + 1)) w, In_symm L (fun i => w (i + 1)) w, i3]
  grind
def recQ (b c s t : Rat) : Nat → Rat × Rat
  | 0 => (s, t)
  | n + 1 => ((recQ b c s t n).2, -(b * (recQ b c s t n).2) - c * (recQ b c s t n).1)
theorem recQ_ap (b c s t : Rat) (k : Nat) : ap [c, b, 1] (fun i => (recQ b c s t i).1) k = 0 := by
  rw [apQ]
  show -(b * (recQ b c s t k).2) - c * (recQ b c s t k).1 + b * (recQ b c s t k).2 + c * (recQ b c s t k).1 = 0
  grind
theorem QQ_split (b c : Rat) (a : Nat → Rat) : 2 * QQ b c a = (1 - c) * ((1 + c + b) * ((a 0 + a 1) * (a 0 + a 1)) + (1 + c - b) * ((a 0 - a 1) * (a 0 - a 1))) := by
  unfold QQ
  grind
theorem fqQ {b c : Rat} (h1 : c < 1) (h2 : 0 < 1 + c + b) (h3 : 0 < 1 + c - b) : FQ 2 [c, b, 1] (QQ b c) where
  len := rfl
  last := rfl
  pol := fun k x y => by
    unfold QQ
    grind
  nn := fun a => by
    have e := QQ_split b c a
    have k1 := Rat.mul_nonneg (Rat.le_of_lt h2) (sq_nn (a 0 + a 1))
    have k2 := Rat.mul_nonneg (Rat.le_of_lt h3) (sq_nn (a 0 - a 1))
    have k3 := Rat.mul_nonneg (show 0 ≤ 1 - c by grind) (show 0 ≤ (1 + c + b) * ((a 0 + a 1) * (a 0 + a 1)) + (1 + c - b) * ((a 0 - a 1) * (a 0 - a 1)) by grind)
    grind
  zero := fun a ha i hi => by
    have e := QQ_split b c a
    have k1 := Rat.mul_nonneg (Rat.le_of_lt h2) (sq_nn (a 0 + a 1))
    have k2 := Rat.mul_nonneg (Rat.le_of_lt h3) (sq_nn (a 0 - a 1))
    have z1 : a 0 + a 1 = 0 := Classical.byContradiction fun z => by
      have := Rat.mul_pos h2 (sq_pos z)
      have k3 := Rat.mul_pos (show 0 < 1 - c by grind) (show 0 < (1 + c + b) * ((a 0 + a 1) * (a 0 + a 1)) + (1 + c - b) * ((a 0 - a 1) * (a 0 - a 1)) by grind)
      grind
    have z2 : a 0 - a 1 = 0 := Classical.byContradiction fun z => by
      have := Rat.mul_pos h3 (sq_pos z)
      have k3 := Rat.mul_pos (show 0 < 1 - c by grind) (show 0 < (1 + c + b) * ((a 0 + a 1) * (a 0 + a 1)) + (1 + c - b) * ((a 0 - a 1) * (a 0 - a 1)) by grind)
      grind
    have h : i = 0 ∨ i = 1 := by omega
    rcases h with rfl | rfl <;> grind
  zz := fun a h => by
    unfold QQ
    rw [h 0 (by omega), h 1 (by omega)]
    grind
  ctr := fun z hz => by
    have h0 := hz 0
    rw [apQ] at h0
    have e : z (1 + 1) = -(b * z 1) - c * z 0 := by
      have : z (0 + 2) = z (1 + 1) := rfl
      have : z (0 + 1) = z 1 := rfl
      grind
    have s := sq_nn (z 0 + b * z 1 + c * z (1 + 1))
    unfold QQ
    show (1 - c * c) * (z 1 * z 1 + z (1 + 1) * z (1 + 1)) + 2 * b * (1 - c) * (z 1 * z (1 + 1)) ≤ _
    rw [e] at s ⊢
    grind
  nrm := nrmQ b c
  ext := fun u => ⟨fun i => (recQ b c (u 0) (u 1) i).1, recQ_ap b c _ _, fun i hi => by
    have h : i = 0 ∨ i = 1 := by omega
    rcases h with rfl | rfl <;> rfl⟩
theorem ab_on (b c : Rat) : ∀ g : List Rat, ∃ α β : Rat, ∀ z : Nat → Rat, (∀ k, ap [c, b, 1] z k = 0) → ∀ k, ap g z k = α * z k + β * z (k + 1)
  | [] => ⟨0, 0, fun z _ k => by simp only [ap]; grind⟩
  | a :: g => by
    obtain ⟨α, β, h⟩ := ab_on b c g
    refine ⟨a - c * β, α - b * β, fun z hz k => ?_⟩
    have e := hz k
    rw [apQ] at e
    have h' := h z hz (k + 1)
    simp only [ap]
    rw [h', show k + 1 + 1 = k + 2 from rfl]
    grind
theorem QQ_lin (b c t : Rat) {x y : Nat → Rat} (h0 : x 0 = t * y 0) (h1 : x 1 = t * y 1) : QQ b c x = t * t * QQ b c y := by
  unfold QQ
  rw [h0, h1]
  grind
theorem foQ {b c : Rat} (h : ¬ ((c * c < 1) ∧ (0 < 1 + c + b) ∧ (0 < 1 + c - b))) : FO 2 [c, b, 1] (QQ b c) where
  len := rfl
  last := rfl
  nrm := nrmQ b c
  cong := fun x y e => by
    unfold QQ
    rw [e 0 (by omega), e 1 (by omega)]
  out := fun g => by
    obtain ⟨s, t, hst, hQ⟩ : ∃ s t : Rat, ¬ (s = 0 ∧ t = 0) ∧ (1 - c * c) * (s * s + t * t) + 2 * b * (1 - c) * (s * t) ≤ 0 := by
      by_cases hc : c * c < 1
      · have hc1 : 0 < 1 - c := by
          apply Rat.not_le.mp
          intro z
          have h3 : 0 ≤ (c - 1) * (c + 1) := Rat.mul_nonneg (by grind) (by grind)
          grind
        by_cases hb : 0 < 1 + c + b
        · have hb2 : 1 + c - b ≤ 0 := by
            apply Rat.not_lt.mp
            intro z
            exact h ⟨hc, hb, z⟩
          have := Rat.mul_nonneg (Rat.le_of_lt hc1) (show 0 ≤ -(1 + c - b) by grind)
          exact ⟨1, -1, by grind, by grind⟩
        · have := Rat.mul_nonneg (Rat.le_of_lt hc1) (show 0 ≤ -(1 + c + b) by grind)
          exact ⟨1, 1, by grind, by grind⟩
      · exact ⟨1, 0, by grind, by grind⟩
    obtain ⟨α, β, hab⟩ := ab_on b c g
    have hst2 : ∀ y : Nat → Rat, y 0 = s → y 1 = t → QQ b c y ≤ 0 := fun y h0 h1 => by
      unfold QQ
      rw [h0, h1]
      exact hQ
    by_cases hz : (α - β * b) * s - β * t = 0 ∧ (α - β * b) * t - β * (-(b * t) - c * s) = 0
    · have ha := recQ_ap b c s t
      refine ⟨fun i => (recQ b c s t i).1, ha, ?_, ?_⟩
      · by_cases hs : s = 0
        · exact ⟨1, by omega, fun z => hst ⟨hs, z⟩⟩
        · exact ⟨0, by omega, hs⟩
      · have e0 := hab _ ha 0
        have e1 := hab _ ha 1
        have e2 : ap g (fun i => (recQ b c s t i).1) 0 = (2 * α - β * b) * s := by
          rw [e0]
          show α * s + β * t = _
          grind
        have e3 : ap g (fun i => (recQ b c s t i).1) 1 = (2 * α - β * b) * t := by
          rw [e1]
          show α * t + β * (-(b * t) - c * s) = _
          grind
        rw [QQ_lin b c (2 * α - β * b) (y := fun i => (recQ b c s t i).1) e2 e3]
        have q := hst2 (fun i => (recQ b c s t i).1) rfl rfl
        have := Rat.mul_nonneg (sq_nn (2 * α - β * b)) (show 0 ≤ -(QQ b c fun i => (recQ b c s t i).1) by grind)
        grind
    · have ha := recQ_ap b c ((α - β * b) * s - β * t) ((α - β * b) * t - β * (-(b * t) - c * s))
      refine ⟨fun i => (recQ b c ((α - β * b) * s - β * t) ((α - β * b) * t - β * (-(b * t) - c * s)) i).1, ha, ?_, ?_⟩
      · by_cases hs : (α - β * b) * s - β * t = 0
        · exact ⟨1, by omega, fun z => hz ⟨hs, z⟩⟩
        · exact ⟨0, by omega, hs⟩
      · have e0 := hab _ ha 0
        have e1 := hab _ ha 1
        have e2 : ap g (fun i => (recQ b c ((α - β * b) * s - β * t) ((α - β * b) * t - β * (-(b * t) - c * s)) i).1) 0 = (α * α - α * β * b + β * β * c) * s := by
          rw [e0]
          show α * ((α - β * b) * s - β * t) + β * ((α - β * b) * t - β * (-(b * t) - c * s)) = _
          grind
        have e3 : ap g (fun i => (recQ b c ((α - β * b) * s - β * t) ((α - β * b) * t - β * (-(b * t) - c * s)) i).1) 1 = (α * α - α * β * b + β * β * c) * t := by
          rw [e1]
          show α * ((α - β * b) * t - β * (-(b * t) - c * s)) + β * (-(b * ((α - β * b) * t - β * (-(b * t) - c * s))) - c * ((α - β * b) * s - β * t)) = _
          grind
        rw [QQ_lin b c (α * α - α * β * b + β * β * c) (y := fun i => (recQ b c s t i).1) e2 e3]
        have q := hst2 (fun i => (recQ b c s t i).1) rfl rfl
        have := Rat.mul_nonneg (sq_nn (α * α - α * β * b + β * β * c)) (show 0 ≤ -(QQ b c fun i => (recQ b c s t i).1) by grind)
        grind
end C56
end Part22

section Part23
set_option Elab.async false
set_option linter.all false
set_option maxRecDepth 100000
/-! The products of the law. -/
namespace C56
theorem ap_sum (l : List Rat) (u : Nat → Rat) (k : Nat) : ap l u k = sumTo l.length (fun j => l.getD j 0 * u (k + j)) := by
  induction l generalizing k with
  | nil => rfl
  | cons a l ih =>
    rw [List.length_cons, sum_front]
    simp only [ap, ih]
    show a * u k + _ = a * u (k + 0) + sumTo l.length (fun i => l.getD i 0 * u (k + (i + 1)))
    rw [sum_congr l.length fun i _ => show l.getD i 0 * u (k + 1 + i) = l.getD i 0 * u (k + (i + 1)) by rw [show k + 1 + i = k + (i + 1) by omega]]
    rfl
theorem sum_mul (L : Nat) (f : Nat → Rat) (c : Rat) : sumTo L (fun i => c * f i) = c * sumTo L f := by
  induction L with
  | zero => simp only [sumTo]; grind
  | succ n ih => simp only [sumTo, ih]; grind
theorem ap_rev (l : List Rat) (u : Nat → Rat) (k : Nat) : ap l.reverse u k = ap l (fun i => u (k + (l.length - 1 - i))) 0 := by
  induction l generalizing k with
  | nil => rfl
  | cons a l ih =>
    rw [List.reverse_cons, ap_app, ih, List.length_reverse]
    simp only [ap]
    have e : ap l (fun i => u (k + ((a :: l).length - 1 - i))) (0 + 1) = ap l (fun i => u (k + (l.length - 1 - i))) 0 := by
      have h := ap_shift l (fun i => u (k + ((a :: l).length - 1 - i))) 1 0
      rw [← h]
      refine ap_congr l 0 fun j hj => ?_
      show u (k + ((a :: l).length - 1 - (0 + j + 1))) = u (k + (l.length - 1 - (0 + j)))
      rw [List.length_cons]
      congr 2
      omega
    rw [e]
    show _ + (a * u (k + l.length) + 0) = a * u (k + ((a :: l).length - 1 - 0)) + _
    rw [List.length_cons, Nat.add_sub_cancel, Nat.sub_zero]
    grind
theorem ap_set : ∀ (l : List Rat) (m : Nat) (x : Rat) (v : Nat → Rat) (k : Nat), m < l.length → ap (l.set m (l.getD m 0 + x)) v k = ap l v k + x * v (k + m)
  | [], m, x, v, k, h => absurd h (Nat.not_lt_zero m)
  | a :: l, 0, x, v, k, h => by
    show (a + x) * v k + ap l v (k + 1) = a * v k + ap l v (k + 1) + x * v k
    grind
  | a :: l, m + 1, x, v, k, h => by
    show a * v k + ap (l.set m (l.getD m 0 + x)) v (k + 1) = a * v k + ap l v (k + 1) + x * v (k + (m + 1))
    rw [ap_set l m x v (k + 1) (by simpa using h), show k + 1 + m = k + (m + 1) by omega]
    grind
theorem ap_row (p q : List Rat) (i : Nat) (fs : List Rat) (v : Nat → Rat) (m : Nat) (h : i + m ≤ fs.length) : ap (rowT p q i m fs) v 0 = ap fs v 0 + p.getD i 0 * sumTo m (fun j => q.getD j 0 * v (i + j)) := by
  induction m with
  | zero =>
    show ap fs v 0 = ap fs v 0 + p.getD i 0 * 0
    grind
  | succ m ih =>
    rw [rowT_succ]
    unfold stepT
    rw [ap_set _ _ _ _ _ (by rw [rowT_len]; omega), ih (by omega), Nat.zero_add]
    simp only [sumTo]
    grind
theorem ap_rep (n : Nat) (v : Nat → Rat) (k : Nat) : ap (List.replicate n 0) v k = 0 := by
  induction n generalizing k with
  | zero => rfl
  | succ n ih =>
    rw [List.replicate_succ]
    simp only [ap, ih]
    grind
theorem ap_tmT (p q : List Rat) (hq : q ≠ []) (v : Nat → Rat) (n : Nat) (h : n ≤ p.length) : ap (tmT p q n) v 0 = sumTo n (fun i => p.getD i 0 * ap q v i) := by
  have hq0 := List.length_pos_iff.mpr hq
  induction n with
  | zero => exact ap_rep _ _ _
  | succ n ih =>
    rw [tmT_succ, ap_row _ _ _ _ _ _ (by rw [tmT_len]; omega), ih (by omega)]
    simp only [sumTo]
    rw [ap_sum q v n]
theorem ap_tm0 (p q : List Rat) (hq : q ≠ []) (v : Nat → Rat) : ap (tmQ p q) v 0 = ap p (ap q v) 0 := by
  unfold tmQ
  rw [ap_tmT p q hq v p.length (Nat.le_refl _), ap_sum p (ap q v) 0]
  exact sum_congr _ fun i _ => by rw [Nat.zero_add]
theorem mul_tm (p q : List Rat) (hp : p ≠ []) (hq : q ≠ []) : Mul (tmQ p q) p q where
  a := fun u k => by
    have h := ap_tm0 p q hq (fun i => u (i + k))
    rw [ap_shift, Nat.zero_add] at h
    rw [h]
    have e : ap q (fun i => u (i + k)) = fun i => ap q u (i + k) := funext fun i => ap_shift ..
    rw [e, ap_shift, Nat.zero_add]
  r := fun u k => by
    have hp0 := List.length_pos_iff.mpr hp
    have hq0 := List.length_pos_iff.mpr hq
    rw [ap_rev, ap_tm0 p q hq, ap_rev p]
    refine ap_congr p 0 fun i hi => ?_
    rw [ap_rev q, Nat.zero_add]
    have h := ap_shift q (fun i' => u (k + ((tmQ p q).length - 1 - i'))) i 0
    rw [Nat.zero_add] at h
    rw [← h]
    refine ap_congr q 0 fun j hj => ?_
    show u (k + ((tmQ p q).length - 1 - (0 + j + i))) = u (k + (p.length - 1 - i) + (q.length - 1 - (0 + j)))
    have hl : (tmQ p q).length = p.length + q.length - 1 := tmT_len p q p.length
    rw [hl]
    congr 1
    omega
  len := by
    have hp0 := List.length_pos_iff.mpr hp
    have hl : (tmQ p q).length = p.length + q.length - 1 := tmT_len p q p.length
    omega
theorem Mul.symm {P f g : List Rat} (M : Mul P f g) : Mul P g f where
  a := fun u k => by rw [M.a, ap_comm]
  r := fun u k => by rw [M.r, ap_comm]
  len := by have := M.len; omega
theorem Mul.last {P f g : List Rat} (M : Mul P f g) (hf : f ≠ []) (hg : g ≠ []) (h1 : lastQ f = 1) (h2 : lastQ g = 1) : lastQ P = 1 := by
  have hf0 := List.length_pos_iff.mpr hf
  have hg0 := List.length_pos_iff.mpr hg
  have hl := M.len
  have hP : P ≠ [] := by intro z; rw [z] at hl; simp at hl; omega
  have e1 := ap_low P (dl (P.length - 1)) 0 hP fun i hi => by
    unfold dl
    rw [if_neg (by omega)]
  have e2 : dl (P.length - 1) (0 + (P.length - 1)) = 1 := by
    unfold dl
    rw [if_pos (by omega)]
  have e3 : ∀ i, i + 1 < f.length → ap g (dl (P.length - 1)) (0 + i) = 0 := fun i hi => by
    rw [ap_congr g (v := fun _ => 0) (0 + i) fun j hj => by
      unfold dl
      rw [if_neg (by omega)]]
    exact ap_zero g _
  have e4 := ap_low f (ap g (dl (P.length - 1))) 0 hf e3
  have e5 := ap_low g (dl (P.length - 1)) (0 + (f.length - 1)) hg fun i hi => by
    unfold dl
    rw [if_neg (by omega)]
  have e6 : dl (P.length - 1) (0 + (f.length - 1) + (g.length - 1)) = 1 := by
    unfold dl
    rw [if_pos (by omega)]
  rw [M.a, e4, e5, e6, h1, h2, e2] at e1
  grind
/-! ### scaled -/
theorem powR_add (s : Rat) (a b : Nat) : powR s (a + b) = powR s a * powR s b := by
  induction b with
  | zero =>
    show powR s a = powR s a * 1
    grind
  | succ b ih =>
    show powR s (a + b) * s = powR s a * (powR s b * s)
    rw [ih]
    grind
theorem powR_ne {s : Rat} (h : s ≠ 0) : ∀ n, powR s n ≠ 0
  | 0 => by show (1 : Rat) ≠ 0; grind
  | n + 1 => fun z => by
    rcases Rat.mul_eq_zero.mp z with z | z
    · exact powR_ne h n z
    · exact h z
def scl (s : Rat) (p : List Rat) : List Rat := (List.range p.length).map fun i => p.getD i 0 * powR s i * (1 / powR s (p.length - 1))
theorem scl_len (s : Rat) (p : List Rat) : (scl s p).length = p.length := by
  unfold scl
  rw [List.length_map, List.length_range]
theorem scl_get (s : Rat) {p : List Rat} {i : Nat} (h : i < p.length) : (scl s p).getD i 0 = p.getD i 0 * powR s i * (1 / powR s (p.length - 1)) := by
  unfold scl
  rw [List.getD_eq_getElem?_getD, List.getElem?_map, List.getElem?_range h]
  rfl
theorem ap_scl {s : Rat} (hs : s ≠ 0) (p : List Rat) (u : Nat → Rat) (k : Nat) : ap (scl s p) u k = (1 / (powR s (p.length - 1) * powR s k)) * ap p (fun i => powR s i * u i) k := by
  rw [ap_sum, ap_sum, scl_len, ← sum_mul]
  refine sum_congr _ fun j hj => ?_
  rw [scl_get s hj, powR_add]
  have h1 := powR_ne hs k
  have h2 := powR_ne hs (p.length - 1)
  generalize powR s k = A at *
  generalize powR s (p.length - 1) = B at *
  grind
theorem ap_sclr {s : Rat} (hs : s ≠ 0) (p : List Rat) (u : Nat → Rat) (k : Nat) : ap (scl s p).reverse u k = powR s k * ap p.reverse (fun i => (1 / powR s i) * u i) k := by
  rw [ap_rev, ap_rev, ap_sum, ap_sum, scl_len, ← sum_mul]
  refine sum_congr _ fun j hj => ?_
  rw [scl_get s hj, Nat.zero_add]
  have h0 := powR_add s (p.length - 1 - j) j
  rw [show p.length - 1 - j + j = p.length - 1 by omega] at h0
  rw [h0, powR_add]
  have h1 := powR_ne hs k
  have h2 := powR_ne hs (p.length - 1 - j)
  have h3 := powR_ne hs j
  generalize powR s k = A at *
  generalize powR s (p.length - 1 - j) = B at *
  generalize powR s j = C at *
  grind
theorem Mul.scl {s : Rat} (hs : s ≠ 0) {P f g : List Rat} (M : Mul P f g) (hf : f ≠ []) (hg : g ≠ []) : Mul (scl s P) (C56.scl s f) (C56.scl s g) where
  a := fun u k => by
    have hf0 := List.length_pos_iff.mpr hf
    have hg0 := List.length_pos_iff.mpr hg
    have hl := M.len
    rw [ap_scl hs, M.a, ap_scl hs]
    have e : (fun i => powR s i * ap (C56.scl s g) u i) = fun i => (1 / powR s (g.length - 1)) * ap g (fun i => powR s i * u i) i := funext fun i => by
      rw [ap_scl hs]
      have h1 := powR_ne hs i
      have h2 := powR_ne hs (g.length - 1)
      generalize powR s i = A at *
      generalize powR s (g.length - 1) = B at *
      grind
    rw [e, ap_smul, show P.length - 1 = (f.length - 1) + (g.length - 1) by omega, powR_add]
    have h1 := powR_ne hs k
    have h2 := powR_ne hs (g.length - 1)
    have h3 := powR_ne hs (f.length - 1)
    generalize powR s k = A at *
    generalize powR s (g.length - 1) = B at *
    generalize powR s (f.length - 1) = C at *
    grind
  r := fun u k => by
    rw [ap_sclr hs, M.r, ap_sclr hs]
    have e : (fun i => (1 / powR s i) * ap (C56.scl s g).reverse u i) = ap g.reverse (fun i => (1 / powR s i) * u i) := funext fun i => by
      rw [ap_sclr hs]
      have h1 := powR_ne hs i
      generalize powR s i = A at *
      grind
    rw [e]
  len := by
    rw [scl_len, scl_len, scl_len]
    exact M.len
theorem scl_last {s : Rat} (hs : s ≠ 0) {p : List Rat} (hp : p ≠ []) : lastQ (scl s p) = lastQ p := by
  have hp0 := List.length_pos_iff.mpr hp
  have hn : scl s p ≠ [] := by
    intro z
    have := scl_len s p
    rw [z] at this
    simp at this
    omega
  have g : ∀ {l : List Rat}, l ≠ [] → lastQ l = l.getD (l.length - 1) 0 := fun {l} h => by
    have h0 := List.length_pos_iff.mpr h
    have h1 : l.length - 1 < l.length := by omega
    rw [lastQ_eq h, List.getLast_eq_getElem, List.getD_eq_getElem?_getD, List.getElem?_eq_getElem h1]
    rfl
  rw [g hn, g hp, scl_len, scl_get s (by omega)]
  have h1 := powR_ne hs (p.length - 1)
  grind
theorem scl_L (s r : Rat) (hs : s ≠ 0) : scl s [-r, 1] = [-(r * (1 / s)), 1] := by
  show [-r * 1 * (1 / (1 * s)), 1 * (1 * s) * (1 / (1 * s))] = _
  congr 1
  · grind
  · congr 1
    grind
theorem scl_Q (s b c : Rat) (hs : s ≠ 0) : scl s [c, b, 1] = [c * (1 / s) * (1 / s), b * (1 / s), 1] := by
  show [c * 1 * (1 / (1 * s * s)), b * (1 * s) * (1 / (1 * s * s)), 1 * (1 * s * s) * (1 / (1 * s * s))] = _
  congr 1
  · grind
  · congr 1
    · grind
    · congr 1
      grind
theorem isFac_last {f : List Rat} {g : Bool} (h : IsFac f g) : lastQ f = 1 := by
  rcases h with ⟨r, _, rfl, _⟩ | ⟨b, _, c, _, rfl, _⟩ <;> rfl
theorem Pr_base {n : Nat} {p : List Rat} {w : Bool} (h : Pr n p w) : p ≠ [] ∧ p.length ≤ 2 * n + 1 ∧ lastQ p = 1 := by
  induction h with
  | one => exact ⟨(fun z => nomatch z), (by decide), rfl⟩
  | @mul n p f w g hP hF ih =>
    obtain ⟨h1, h2, h3⟩ := ih
    obtain ⟨h4, h5⟩ := isFac_ne hF
    have M := mul_tm p f h1 h4
    have hl := M.len
    have hp0 := List.length_pos_iff.mpr h1
    have hf0 := List.length_pos_iff.mpr h4
    refine ⟨by intro z; rw [z] at hl; simp at hl; omega, by omega, M.last h1 h4 h3 (isFac_last hF)⟩
theorem scl_ne {s : Rat} {p : List Rat} (h : p ≠ []) : scl s p ≠ [] := by
  intro z
  have := scl_len s p
  rw [z] at this
  exact h (List.length_eq_zero_iff.mp this.symm)
theorem PrG {s : Rat} (hs : s ≠ 0) (hin : ∀ f, IsFac f true → ∃ d Q, 0 < d ∧ FQ d (scl s f) Q) {n : Nat} {p : List Rat} {w : Bool} (h : Pr n p w) : w = true → G (scl s p) := by
  induction h with
  | one => exact fun _ => .one (by rw [scl_len]; rfl)
  | @mul n p f w g hP hF ih =>
    intro hw
    rw [Bool.and_eq_true] at hw
    obtain ⟨h1, h2, h3⟩ := Pr_base hP
    obtain ⟨h4, h5⟩ := isFac_ne hF
    have M := (mul_tm p f h1 h4).scl hs h1 h4
    rw [hw.2] at hF
    obtain ⟨d, Q, hd, FF⟩ := hin f hF
    have hp1 : lastQ (scl s p) = 1 := by rw [scl_last hs h1, h3]
    have hf1 : lastQ (scl s f) = 1 := by rw [scl_last hs h4, isFac_last hF]
    have hpd := PD_mul FF M.symm (ih hw.1) hp1 hd
    have hl := M.len
    have hp0 := List.length_pos_iff.mpr (scl_ne (s := s) h1)
    have hf0 := List.length_pos_iff.mpr (scl_ne (s := s) h4)
    exact PD_G ((scl s (tmQ p f)).length - 1) _ (by omega) (M.last (scl_ne h1) (scl_ne h4) hp1 hf1) hpd
def Out (P : List Rat) : Prop := ∃ (d : Nat) (f : List Rat) (Q : (Nat → Rat) → Rat) (g : List Rat), FO d f Q ∧ Mul P f g ∧ g ≠ []
theorem PrO {s : Rat} (hs : s ≠ 0) (hout : ∀ f, IsFac f false → ∃ d Q, FO d (scl s f) Q) {n : Nat} {p : List Rat} {w : Bool} (h : Pr n p w) : w = false → Out (scl s p) := by
  induction h with
  | one => exact fun z => nomatch z
  | @mul n p f w g hP hF ih =>
    intro hw
    obtain ⟨h1, h2, h3⟩ := Pr_base hP
    obtain ⟨h4, h5⟩ := isFac_ne hF
    have M := (mul_tm p f h1 h4).scl hs h1 h4
    cases hg : g with
    | false =>
      rw [hg] at hF
      obtain ⟨d, Q, FF⟩ := hout f hF
      exact ⟨d, _, Q, _, FF, M.symm, scl_ne h1⟩
    | true =>
      have hw' : w = false := by
        rw [hg, Bool.and_true] at hw
        exact hw
      obtain ⟨d, f0, Q, g0, FF, M0, hg0⟩ := ih hw'
      have M1 := mul_tm g0 (scl s f) hg0 (scl_ne h4)
      refine ⟨d, f0, Q, tmQ g0 (scl s f), FF, ⟨fun u k => ?_, fun u k => ?_, ?_⟩, ?_⟩
      · rw [M.a, M0.a]
        have e : ap g0 (ap (scl s f) u) = ap (tmQ g0 (scl s f)) u := funext fun i => (M1.a u i).symm
        rw [e]
      · rw [M.r, M0.r]
        have e : ap g0.reverse (ap (scl s f).reverse u) = ap (tmQ g0 (scl s f)).reverse u := funext fun i => (M1.r u i).symm
        rw [e]
      · have a1 := M.len
        have a2 := M0.len
        have a3 := M1.len
        omega
      · have a3 := M1.len
        have b1 := List.length_pos_iff.mpr hg0
        have b2 := List.length_pos_iff.mpr (scl_ne (s := s) h4)
        intro z
        rw [z] at a3
        simp at a3
        omega
theorem not_G {P : List Rat} (h : Out P) (hl : lastQ P = 1) : ¬ G P := by
  obtain ⟨d, f, Q, g, FF, M, hg⟩ := h
  exact fun z => not_PD FF M hg (G_PD z hl)
theorem num_neg_iff (b : Rat) : b.num < 0 ↔ b < 0 := by
  rw [Rat.lt_iff]
  show b.num < 0 ↔ b.num * ((1 : Nat) : Int) < 0 * (b.den : Int)
  omega
theorem absQ_iff (b c : Rat) : absQ b < 1 + c ↔ 0 < 1 + c + b ∧ 0 < 1 + c - b := by
  unfold absQ
  have h := num_neg_iff b
  by_cases hb : b.num < 0
  · rw [if_pos hb]
    have h2 := h.mp hb
    constructor
    · intro z
      exact ⟨by grind, by grind⟩
    · rintro ⟨z, _⟩
      grind
  · rw [if_neg hb]
    have h2 : ¬ b < 0 := fun z => hb (h.mpr z)
    constructor
    · intro z
      exact ⟨by grind, by grind⟩
    · rintro ⟨_, z⟩
      grind
theorem insQ_iff (r : Rat) : insQ r = true ↔ r * r < 1 := by
  rw [insQ_eq, Bool.and_eq_true, decide_eq_true_eq, decide_eq_true_eq]
  constructor
  · rintro ⟨h1, h2⟩
    have h3 : 0 < (1 - r) * (1 + r) := Rat.mul_pos (by grind) (by grind)
    grind
  · intro h
    constructor
    · apply Rat.not_le.mp
      intro z
      have h3 : 0 ≤ (-1 - r) * (1 - r) := Rat.mul_nonneg (by grind) (by grind)
      grind
    · apply Rat.not_le.mp
      intro z
      have h3 : 0 ≤ (r - 1) * (r + 1) := Rat.mul_nonneg (by grind) (by grind)
      grind
theorem lt1_of_sq {c : Rat} (h : c * c < 1) : -1 < c ∧ c < 1 := by
  have := (insQ_iff c).mpr h
  rw [insQ_eq, Bool.and_eq_true, decide_eq_true_eq, decide_eq_true_eq] at this
  exact this
theorem in_scl {s : Rat} (hs : s = 1 ∨ s = -1 ∨ s = 2) (f : List Rat) (h : IsFac f true) : ∃ d Q, 0 < d ∧ FQ d (scl s f) Q := by
  have hs0 : s ≠ 0 := by rcases hs with rfl | rfl | rfl <;> grind
  rcases h with ⟨r, _, rfl, hr⟩ | ⟨b, _, c, _, rfl, hr⟩
  · have h1 := (insQ_iff r).mp hr.symm
    rw [scl_L s r hs0]
    refine ⟨1, _, by decide, fqL ?_⟩
    rcases hs with rfl | rfl | rfl
    · grind
    · grind
    · have h2 := sq_nn r
      have e : r * (1 / 2) * (r * (1 / 2)) = r * r * (1 / 4) := by grind
      rw [e]
      grind
  · rw [eq_comm, Bool.and_eq_true, decide_eq_true_eq] at hr
    obtain ⟨h1, h2⟩ := lt1_of_sq ((insQ_iff c).mp hr.1)
    obtain ⟨h3, h4⟩ := (absQ_iff b c).mp hr.2
    rw [scl_Q s b c hs0]
    refine ⟨2, _, by decide, fqQ ?_ ?_ ?_⟩
    · rcases hs with rfl | rfl | rfl <;> grind
    · rcases hs with rfl | rfl | rfl <;> grind
    · rcases hs with rfl | rfl | rfl <;> grind
theorem out_scl {s : Rat} (hs : s = 1 ∨ s = -1) (f : List Rat) (h : IsFac f false) : ∃ d Q, FO d (scl s f) Q := by
  have hs0 : s ≠ 0 := by rcases hs with rfl | rfl <;> grind
  rcases h with ⟨r, _, rfl, hr⟩ | ⟨b, _, c, _, rfl, hr⟩
  · rw [scl_L s r hs0]
    refine ⟨1, _, foL fun z => ?_⟩
    have h1 : r * r < 1 := by rcases hs with rfl | rfl <;> grind
    have h2 := (insQ_iff r).mpr h1
    rw [h2] at hr
    cases hr
  · rw [scl_Q s b c hs0]
    refine ⟨2, _, foQ fun z => ?_⟩
    obtain ⟨z1, z2, z3⟩ := z
    have h1 : c * c < 1 := by rcases hs with rfl | rfl <;> grind
    have h2 := (insQ_iff c).mpr h1
    have h3 : absQ b < 1 + c := (absQ_iff b c).mpr (by rcases hs with rfl | rfl <;> exact ⟨by grind, by grind⟩)
    rw [h2, decide_eq_true h3] at hr
    cases hr
/-- within, of what is made monic -/
theorem within_scl {s : Rat} (hs : s = 1 ∨ s = -1) {n : Nat} {p q : List Rat} {w : Bool} (h : Pr n p w) (hq : q ≠ []) (e : monicQ q = scl s p) : withinQ q = w := by
  have hs0 : s ≠ 0 := by rcases hs with rfl | rfl <;> grind
  obtain ⟨h1, h2, h3⟩ := Pr_base h
  have hg := within_G hq
  rw [e] at hg
  cases w with
  | true => exact hg.mpr (PrG hs0 (in_scl (by rcases hs with z | z <;> simp [z])) h rfl)
  | false =>
    have ho := not_G (PrO hs0 (out_scl hs) h rfl) (by rw [scl_last hs0 h1, h3])
    cases hx : withinQ q with
    | true => exact absurd (hg.mp hx) ho
    | false => rfl
theorem within_two {n : Nat} {p q : List Rat} {w : Bool} (h : Pr n p w) (hq : q ≠ []) (e : monicQ q = scl 2 p) (hw : w = true) : withinQ q = true := by
  have hg := within_G hq
  rw [e] at hg
  exact hg.mpr (PrG (by grind) (in_scl (by simp)) h hw)
end C56
end Part23

section Part24
set_option Elab.async false
set_option linter.all false
set_option maxRecDepth 100000
/-! Sizes. -/
namespace C56
open DL
theorem sz_divInt {a b : Int} {n m : Nat} (hb : b ≠ 0) (h1 : a.natAbs < 2 ^ n) (h2 : b.natAbs < 2 ^ m) : (Rat.divInt a b).num.natAbs < 2 ^ n ∧ (Rat.divInt a b).den < 2 ^ m := by
  constructor
  · rw [Rat.num_divInt]
    have e : b.sign.natAbs = 1 := by rw [Int.natAbs_sign_of_ne_zero hb]
    have hg : ((b.gcd a : Nat) : Int) ∣ b.sign * a := Int.dvd_trans (Int.gcd_dvd_right ..) (Int.dvd_mul_left ..)
    refine Nat.lt_of_le_of_lt ?_ h1
    rw [Int.natAbs_ediv_of_dvd hg, Int.natAbs_mul, e, Nat.one_mul]
    exact Nat.div_le_self _ _
  · rw [Rat.den_divInt, if_neg hb]
    exact Nat.lt_of_le_of_lt (Nat.div_le_self _ _) h2
def Fr (x : Rat) (D n : Int) : Prop := x * (D : Rat) = (n : Rat)
theorem Fr.div {x : Rat} {D n : Int} (h : Fr x D n) (hD : 0 < D) : x = Rat.divInt n D := by
  have hD0 : (D : Rat) ≠ 0 := by
    intro z
    have : D = 0 := by exact_mod_cast z
    omega
  unfold Fr at h
  rw [Rat.divInt_eq_div, ← h]
  grind
theorem Fr.sz {x : Rat} {D n : Int} {a b : Nat} (h : Fr x D n) (hD : 0 < D) (hn : n.natAbs < 2 ^ a) (hd : D.natAbs < 2 ^ b) : x.num.natAbs < 2 ^ a ∧ x.den < 2 ^ b := by
  rw [h.div hD]
  exact sz_divInt (by omega) hn hd
theorem Fr.mul {x y : Rat} {D E n m : Int} (h : Fr x D n) (k : Fr y E m) : Fr (x * y) (D * E) (n * m) := by
  unfold Fr at *
  rw [Rat.intCast_mul, Rat.intCast_mul, ← h, ← k]
  grind
theorem Fr.sub {x y : Rat} {D n m : Int} (h : Fr x D n) (k : Fr y D m) : Fr (x - y) D (n - m) := by
  unfold Fr at *
  rw [Rat.intCast_sub, ← h, ← k]
  grind
theorem Fr.add {x y : Rat} {D n m : Int} (h : Fr x D n) (k : Fr y D m) : Fr (x + y) D (n + m) := by
  unfold Fr at *
  rw [Rat.intCast_add, ← h, ← k]
  grind
theorem Fr.up {x : Rat} {D n : Int} (h : Fr x D n) (E : Int) : Fr x (D * E) (n * E) := by
  unfold Fr at *
  rw [Rat.intCast_mul, Rat.intCast_mul, ← h]
  grind
theorem okTake' {a b : Rat} {n i j : Nat} (ha : Sz n a) (hb : Sz n b) (hn : n ≤ 400000) (hi : a.den < 2 ^ i) (hj : b.den < 2 ^ j) (h : i + j ≤ 9000) : OkTake a b :=
  ⟨mulW_of ha.1 (by rw [natAbs_cast]; exact hb.2) (by omega), mulW_of hb.1 (by rw [natAbs_cast]; exact ha.2) (by omega), mulW_of (by rw [natAbs_cast]; exact ha.2) (by rw [natAbs_cast]; exact hb.2) (by omega),
    low_of_bottom (Int.mul_ne_zero den_ne den_ne) (den_mul_lt hi hj) h⟩
theorem okTimes' {a b : Rat} {n i j : Nat} (ha : Sz n a) (hb : Sz n b) (hn : n ≤ 400000) (hi : a.den < 2 ^ i) (hj : b.den < 2 ^ j) (h : i + j ≤ 9000) : OkTimes a b :=
  ⟨mulW_of ha.1 hb.1 (by omega), mulW_of (by rw [natAbs_cast]; exact ha.2) (by rw [natAbs_cast]; exact hb.2) (by omega),
    low_of_bottom (Int.mul_ne_zero den_ne den_ne) (den_mul_lt hi hj) h⟩
theorem okOver' {a b : Rat} {n i j : Nat} (h0 : b ≠ 0) (ha : Sz n a) (hb : Sz n b) (hn : n ≤ 400000) (hi : a.den < 2 ^ i) (hj : b.num.natAbs < 2 ^ j) (h : i + j ≤ 9000) : OkOver a b := by
  refine ⟨h0, mulW_of ha.1 (by rw [natAbs_cast]; exact hb.2) (by omega), mulW_of (by rw [natAbs_cast]; exact ha.2) hb.1 (by omega), low_of_bottom (Int.mul_ne_zero den_ne (num_ne h0)) (n := i + j) ?_ h⟩
  rw [Int.natAbs_mul, natAbs_cast, Nat.pow_add]
  exact Nat.mul_lt_mul'' hi hj
theorem sz_one : Sz 1 1 := by decide +kernel
theorem sz_mone : Sz 1 (-1) := by decide +kernel
/-- all members over one bottom -/
def Cd (d m : Nat) (D : Int) (l : List Rat) : Prop := 0 < D ∧ D.natAbs < 2 ^ d ∧ ∀ x ∈ l, ∃ n : Int, n.natAbs < 2 ^ m ∧ Fr x D n
theorem pw_le {a b : Nat} (h : a ≤ b) : (2 : Nat) ^ a ≤ 2 ^ b := Nat.pow_le_pow_right (by omega) h
theorem mul_lt {a b : Int} {i j : Nat} (ha : a.natAbs < 2 ^ i) (hb : b.natAbs < 2 ^ j) : (a * b).natAbs < 2 ^ (i + j) := by
  rw [Int.natAbs_mul, Nat.pow_add]
  exact Nat.mul_lt_mul'' ha hb
theorem mem_parts {p : List Rat} {x : Rat} (h : x ∈ partsQ p) : ∃ y ∈ p, ∃ z ∈ p, x = y - c0 p * z := by
  obtain ⟨⟨y, z⟩, hy, rfl⟩ := List.mem_map.mp h
  exact ⟨y, (List.of_mem_zip hy).1, z, List.mem_reverse.mp (List.of_mem_zip hy).2, rfl⟩
theorem c0_mem {p : List Rat} (h : p ≠ []) : c0 p ∈ p := by
  cases p with
  | nil => exact absurd rfl h
  | cons a r => exact List.mem_cons_self
theorem cast_lt {a b : Int} (h : (a : Rat) < (b : Rat)) : a < b := by exact_mod_cast h
/-- the first member of an open row -/
theorem open_n0 {p : List Rat} {D n0 : Int} (hD : 0 < D) (hf : Fr (c0 p) D n0) (ho : isOpen p = true) : n0.natAbs < D.natAbs := by
  unfold isOpen at ho
  rw [Bool.and_eq_true, decide_eq_true_eq, decide_eq_true_eq] at ho
  obtain ⟨h1, h2⟩ := ho
  unfold Fr at hf
  have hDq : (0 : Rat) < (D : Rat) := by exact_mod_cast hD
  have a1 := Rat.mul_pos (show 0 < 1 - c0 p by grind) hDq
  have a2 := Rat.mul_pos (show 0 < 1 + c0 p by grind) hDq
  have b1 : ((n0 : Int) : Rat) < (D : Rat) := by rw [← hf]; grind
  have b2 : ((-D : Int) : Rat) < (n0 : Rat) := by rw [← hf, Rat.intCast_neg]; grind
  have k1 := cast_lt b1
  have k2 := cast_lt b2
  omega
theorem okOpen_of {p : List Rat} {n : Nat} (h : Sz n (c0 p)) (hn : n ≤ 400000) : OkOpen p := ⟨okLess sz_mone h (by omega), okLess h sz_one (by omega)⟩
theorem Fr.Sz {x : Rat} {D n : Int} {a : Nat} (h : Fr x D n) (hD : 0 < D) (hn : n.natAbs < 2 ^ a) (hd : D.natAbs < 2 ^ a) : DL.Sz a x := h.sz hD hn hd
theorem okRows : ∀ (k : Nat) (p : List Rat) (d m : Nat) (D : Int), Cd d m D p → d ≤ m → p ≠ [] → lastQ p = 1 → (1 < p.length → d * 2 ^ (p.length - 1) ≤ 8990) → m + 5000 * p.length ≤ 100000 → OkRows k p
  | 0, _, _, _, _, _, _, _, _, _, _ => True.intro
  | k + 1, p, d, m, D, ⟨hD, hd, hx⟩, hdm, hp, hl, hdl, hm => by
    have hp0 := List.length_pos_iff.mpr hp
    obtain ⟨n0, hn0, hf0⟩ := hx _ (c0_mem hp)
    have dm : (2 : Nat) ^ d ≤ 2 ^ m := pw_le hdm
    have sz0 : Sz m (c0 p) := hf0.Sz hD hn0 (by omega)
    refine ⟨okOpen_of sz0 (by omega), fun ⟨h1, ho⟩ => ?_⟩
    have hdl := hdl h1
    have hb : 0 < belowQ p := (open_iff p).mp ho
    have hb0 : belowQ p ≠ 0 := by grind
    have hlt := open_n0 hD hf0 ho
    have hnl : n0.natAbs < 2 ^ d := by omega
    have szc : Sz d (c0 p) := hf0.Sz hD hnl hd
    have h2d : 2 * d ≤ 8990 := by
      have : 2 ^ 1 ≤ 2 ^ (p.length - 1) := pw_le (by omega)
      have := Nat.mul_le_mul_left d this
      omega
    have fcc := hf0.mul hf0
    have hDD : 0 < D * D := Int.mul_pos hD hD
    have szcc : Sz (d + d) (c0 p * c0 p) := fcc.Sz hDD (mul_lt hnl hnl) (mul_lt hd hd)
    have s1 : ∀ {n : Nat} {q : Rat}, Sz n q → n ≤ m + d + d + 10 → Sz (m + d + d + 10) q := fun h hn => h.mono hn
    have one : Sz (m + d + d + 10) 1 := s1 sz_one (by omega)
    have den1 : (1 : Rat).den < 2 ^ 1 := by decide
    have nx : OkNext p := by
      refine ⟨okTimes' (n := m + d + d + 10) (s1 szc (by omega)) (s1 szc (by omega)) (by omega) szc.2 szc.2 (by omega), okTake' (n := m + d + d + 10) one (s1 szcc (by omega)) (by omega) (i := 1) (j := d + d) den1 szcc.2 ?_, fun x hxz => ?_, fun x hxp => ?_⟩
      · omega
      · have m1 := (List.of_mem_zip hxz).1
        have m2 := List.mem_reverse.mp (List.of_mem_zip hxz).2
        obtain ⟨n1, hn1, hf1⟩ := hx _ m1
        obtain ⟨n2, hn2, hf2⟩ := hx _ m2
        have z1 : Sz m x.1 := hf1.Sz hD hn1 (by omega)
        have z2 : Sz m x.2 := hf2.Sz hD hn2 (by omega)
        have e1 := (hf1.sz hD hn1 hd).2
        have e2 := (hf2.sz hD hn2 hd).2
        have f2 := hf0.mul hf2
        have e3 := (f2.sz hDD (mul_lt hnl hn2) (mul_lt hd hd)).2
        have z3 : Sz (d + m) (c0 p * x.2) := f2.Sz hDD (mul_lt hnl hn2) (Nat.lt_of_lt_of_le (mul_lt hd hd) (pw_le (by omega)))
        refine ⟨okTimes' (n := m + d + d + 10) (s1 szc (by omega)) (s1 z2 (by omega)) (by omega) szc.2 e2 (by omega), ?_⟩
        by_cases h3 : p.length = 2
        · -- [c, 1]
          match p, h3, hl, hxz, hx, e1, e2, z1, z3, szcc, szc with
          | [a, b], _, hl, hxz, hx, e1, e2, z1, z3, szcc, szc =>
            have hb1 : b = 1 := hl
            subst hb1
            have hxz' : x ∈ [(a, (1 : Rat)), ((1 : Rat), a)] := hxz
            rcases List.mem_cons.mp hxz' with rfl | hxz'
            · have e4 : (c0 [a, 1] * (1 : Rat)) = a := by show a * 1 = a; grind
              show OkTake a (c0 [a, 1] * 1)
              rw [e4]
              exact okTake' (n := m + d + d + 10) (s1 szc (by omega)) (s1 szc (by omega)) (by omega) szc.2 szc.2 (by omega)
            · rcases List.mem_cons.mp hxz' with rfl | hxz'
              · exact okTake' (n := m + d + d + 10) one (s1 szcc (by omega)) (by omega) (i := 1) (j := d + d) den1 szcc.2 (by
                  have : d * 2 ^ 1 ≤ 8990 := hdl
                  omega)
              · cases hxz'
        · have h4 : 4 * d ≤ 9000 := by
            have : 2 ^ 2 ≤ 2 ^ (p.length - 1) := pw_le (by omega)
            have := Nat.mul_le_mul_left d this
            omega
          exact okTake' (n := m + d + d + 10) (s1 z1 (by omega)) (s1 z3 (by omega)) (by omega) e1 e3 (by omega)
      · obtain ⟨y, hy, z, hz, rfl⟩ := mem_parts (List.mem_of_mem_drop hxp)
        by_cases h3 : p.length = 2
        · match p, h3, hl, hxp, szcc, hb0 with
          | [a, b], _, hl, hxp, szcc, hb0 =>
            have hb1 : b = 1 := hl
            subst hb1
            have hxp' : y - c0 [a, 1] * z ∈ [(1 : Rat) - a * a] := hxp
            rw [List.mem_singleton.mp hxp']
            have eb : belowQ [a, 1] = 1 - a * a := rfl
            rw [eb] at hb0 ⊢
            have f1 : Fr (1 - a * a) (D * D) (D * D - n0 * n0) := by
              have fone : Fr 1 (D * D) (D * D) := by unfold Fr; grind
              exact fone.sub fcc
            have q1 : (D * D - n0 * n0).natAbs < 2 ^ (d + d + 1) := by
              have w1 := mul_lt hd hd
              have w2 := mul_lt hnl hnl
              have w3 : (2 : Nat) ^ (d + d + 1) = 2 ^ (d + d) + 2 ^ (d + d) := by rw [Nat.pow_succ]; omega
              omega
            have q2 : (D * D).natAbs < 2 ^ (d + d + 1) := Nat.lt_of_lt_of_le (mul_lt hd hd) (pw_le (by omega))
            exact okOver_self hb0 (f1.Sz hDD q1 q2) (by omega)
        · have h4 : 4 * d ≤ 9000 := by
            have : 2 ^ 2 ≤ 2 ^ (p.length - 1) := pw_le (by omega)
            have := Nat.mul_le_mul_left d this
            omega
          obtain ⟨n1, hn1, hf1⟩ := hx _ hy
          obtain ⟨n2, hn2, hf2⟩ := hx _ hz
          have f1 : Fr (y - c0 p * z) (D * D) (n1 * D - n0 * n2) := (hf1.up D).sub (hf0.mul hf2)
          have fone : Fr 1 (D * D) (D * D) := by unfold Fr; grind
          have f2 : Fr (belowQ p) (D * D) (D * D - n0 * n0) := fone.sub fcc
          have q1 : (n1 * D - n0 * n2).natAbs < 2 ^ (m + d + 1) := by
            have w1 := mul_lt hn1 hd
            have w2 := mul_lt hnl hn2
            have w3 : (2 : Nat) ^ (m + d + 1) = 2 ^ (m + d) + 2 ^ (m + d) := by rw [Nat.pow_succ]; omega
            rw [Nat.add_comm d m] at w2
            omega
          have q2 : (D * D - n0 * n0).natAbs < 2 ^ (d + d) := by
            have w1 := mul_lt hd hd
            have w4 : n0 * n0 < D * D := by
              have u1 : n0 * n0 = n0.natAbs * n0.natAbs := by rw [Int.natAbs_mul_self' n0]
              have u2 : D * D = D.natAbs * D.natAbs := by rw [Int.natAbs_mul_self' D]
              rw [u1, u2]
              exact_mod_cast Nat.mul_lt_mul'' hlt hlt
            have w5 : 0 ≤ n0 * n0 := by rw [← Int.natAbs_mul_self' n0]; exact_mod_cast Nat.zero_le _
            omega
          have d1 := f1.sz hDD q1 (mul_lt hd hd)
          have d2 := f2.sz hDD q2 (mul_lt hd hd)
          exact okOver' (n := m + d + d + 10) hb0 ⟨Nat.lt_of_lt_of_le d1.1 (pw_le (by omega)), Nat.lt_of_lt_of_le d1.2 (pw_le (by omega))⟩ ⟨Nat.lt_of_lt_of_le d2.1 (pw_le (by omega)), Nat.lt_of_lt_of_le d2.2 (pw_le (by omega))⟩ (by omega) d1.2 d2.1 (by omega)
    refine ⟨nx, ?_⟩
    have hn : nextQ p ≠ [] := by
      intro z
      have := nextQ_len p
      rw [z] at this
      simp at this
      omega
    have w4 : n0 * n0 < D * D := by
      have u1 : n0 * n0 = n0.natAbs * n0.natAbs := by rw [Int.natAbs_mul_self' n0]
      have u2 : D * D = D.natAbs * D.natAbs := by rw [Int.natAbs_mul_self' D]
      rw [u1, u2]
      exact_mod_cast Nat.mul_lt_mul'' hlt hlt
    have w5 : 0 ≤ n0 * n0 := by rw [← Int.natAbs_mul_self' n0]; exact_mod_cast Nat.zero_le _
    have w6 := mul_lt hd hd
    refine okRows k (nextQ p) (d + d) (m + d + 1) (D * D - n0 * n0) ⟨by omega, by omega, fun x hxq => ?_⟩ (by omega) hn (next_last h1 hl hb0) (fun h2 => ?_) ?_
    · obtain ⟨x', hx', rfl⟩ := List.mem_map.mp hxq
      obtain ⟨y, hy, z, hz, rfl⟩ := mem_parts (List.mem_of_mem_drop hx')
      obtain ⟨n1, hn1, hf1⟩ := hx _ hy
      obtain ⟨n2, hn2, hf2⟩ := hx _ hz
      refine ⟨n1 * D - n0 * n2, ?_, ?_⟩
      · have w1 := mul_lt hn1 hd
        have w2 := mul_lt hnl hn2
        have w3 : (2 : Nat) ^ (m + d + 1) = 2 ^ (m + d) + 2 ^ (m + d) := by rw [Nat.pow_succ]; omega
        rw [Nat.add_comm d m] at w2
        omega
      · have eb : belowQ p = 1 - c0 p * c0 p := rfl
        unfold Fr at *
        rw [Rat.intCast_sub, Rat.intCast_sub, Rat.intCast_mul, Rat.intCast_mul, Rat.intCast_mul, Rat.intCast_mul, ← hf0, ← hf1, ← hf2]
        generalize (D : Rat) = E at *
        grind
    · rw [nextQ_len] at h2 ⊢
      have e : (d + d) * 2 ^ (p.length - 1 - 1) = d * 2 ^ (p.length - 1) := by
        obtain ⟨t, ht⟩ : ∃ t, p.length - 1 = t + 1 := ⟨p.length - 2, by omega⟩
        rw [ht, Nat.add_sub_cancel, Nat.pow_succ, Nat.add_mul]
        rw [show d * (2 ^ t * 2) = d * 2 ^ t * 2 by rw [Nat.mul_assoc]]
        omega
      rw [e]
      exact hdl
    · rw [nextQ_len]
      omega
end C56
end Part24

section Part25
set_option Elab.async false
set_option linter.all false
set_option maxRecDepth 100000
/-! The facts about numbers. -/
namespace C56
open DL
instance {x : Rat} {D n : Int} : Decidable (Fr x D n) := by unfold Fr; exact inferInstance
def Cb (A B : Nat) (D : Int) (l : List Rat) : Prop := 0 < D ∧ D.natAbs ≤ A ∧ ∀ x ∈ l, ∃ n : Int, n.natAbs ≤ B ∧ Fr x D n
theorem Fr.one (D : Int) : Fr 1 D D := by unfold Fr; grind
theorem Fr.nul (D : Int) : Fr 0 D 0 := by
  unfold Fr
  have : ((0 : Int) : Rat) = 0 := rfl
  rw [this]
  grind
theorem Fr.neg {x : Rat} {D n : Int} (h : Fr x D n) : Fr (-x) D (-n) := by
  unfold Fr at *
  rw [Rat.intCast_neg, ← h]
  grind
theorem root_cb : ∀ r ∈ rootL, r.den ≤ 100 ∧ r.num.natAbs ≤ 101 ∧ Fr r (r.den : Int) r.num := by decide +kernel
theorem b_cb : ∀ b ∈ bL, Fr b 20 (b * 20).num ∧ (b * 20).num.natAbs ≤ 101 := by decide +kernel
theorem c_cb : ∀ b ∈ cL, Fr b 20 (b * 20).num ∧ (b * 20).num.natAbs ≤ 101 := by decide +kernel
theorem fac_cb {f : List Rat} {g : Bool} (h : IsFac f g) : ∃ E, Cb 100 101 E f := by
  rcases h with ⟨r, hr, rfl, _⟩ | ⟨b, hb, c, hc, rfl, _⟩
  · obtain ⟨h1, h2, h3⟩ := root_cb r hr
    have hp := r.den_pos
    refine ⟨(r.den : Int), by omega, by omega, fun x hx => ?_⟩
    rcases List.mem_cons.mp hx with rfl | hx
    · exact ⟨-r.num, by omega, h3.neg⟩
    · rw [List.mem_singleton.mp hx]
      exact ⟨_, by omega, Fr.one _⟩
  · obtain ⟨h1, h2⟩ := b_cb b hb
    obtain ⟨h3, h4⟩ := c_cb c hc
    refine ⟨20, by decide, by decide, fun x hx => ?_⟩
    rcases List.mem_cons.mp hx with rfl | hx
    · exact ⟨_, h4, h3⟩
    · rcases List.mem_cons.mp hx with rfl | hx
      · exact ⟨_, h2, h1⟩
      · rw [List.mem_singleton.mp hx]
        exact ⟨_, by decide, Fr.one _⟩
theorem getD_cb {l : List Rat} {D : Int} {B : Nat} (h : ∀ x ∈ l, ∃ n : Int, n.natAbs ≤ B ∧ Fr x D n) (i : Nat) : ∃ n : Int, n.natAbs ≤ B ∧ Fr (l.getD i 0) D n := by
  rw [List.getD_eq_getElem?_getD]
  by_cases hi : i < l.length
  · rw [List.getElem?_eq_getElem hi]
    exact h _ (List.getElem_mem hi)
  · rw [List.getElem?_eq_none (by omega)]
    exact ⟨0, by simp, Fr.nul _⟩
section
variable {p q : List Rat} {D E : Int} {M N : Nat} (hp : ∀ x ∈ p, ∃ n : Int, n.natAbs ≤ M ∧ Fr x D n) (hq : ∀ x ∈ q, ∃ n : Int, n.natAbs ≤ N ∧ Fr x E n)
include hp hq
theorem prod_cb (i j : Nat) : ∃ n : Int, n.natAbs ≤ M * N ∧ Fr (p.getD i 0 * q.getD j 0) (D * E) n := by
  obtain ⟨n1, a1, f1⟩ := getD_cb hp i
  obtain ⟨n2, a2, f2⟩ := getD_cb hq j
  exact ⟨n1 * n2, by rw [Int.natAbs_mul]; exact Nat.mul_le_mul a1 a2, f1.mul f2⟩
theorem row_cb (i : Nat) (fs : List Rat) (B : Nat) (h : ∀ x ∈ fs, ∃ n : Int, n.natAbs ≤ B ∧ Fr x (D * E) n) : ∀ m, ∀ x ∈ rowT p q i m fs, ∃ n : Int, n.natAbs ≤ B + m * (M * N) ∧ Fr x (D * E) n
  | 0, x, hx => by
    obtain ⟨n, a, f⟩ := h x hx
    exact ⟨n, by omega, f⟩
  | m + 1, x, hx => by
    rw [rowT_succ] at hx
    unfold stepT at hx
    have ih := row_cb i fs B h m
    rcases List.mem_or_eq_of_mem_set hx with hx | rfl
    · obtain ⟨n, a, f⟩ := ih x hx
      exact ⟨n, by rw [Nat.add_mul]; omega, f⟩
    · obtain ⟨n1, a1, f1⟩ := getD_cb ih (i + m)
      obtain ⟨n2, a2, f2⟩ := prod_cb hp hq i m
      exact ⟨n1 + n2, by rw [Nat.add_mul]; omega, f1.add f2⟩
theorem tm_cb : ∀ k, ∀ x ∈ tmT p q k, ∃ n : Int, n.natAbs ≤ k * (q.length * (M * N)) ∧ Fr x (D * E) n
  | 0, x, hx => by
    have := List.eq_of_mem_replicate hx
    subst this
    exact ⟨0, by simp, Fr.nul _⟩
  | k + 1, x, hx => by
    rw [tmT_succ] at hx
    have ih := tm_cb k
    obtain ⟨n, a, f⟩ := row_cb hp hq k _ _ ih q.length x hx
    exact ⟨n, by rw [Nat.add_mul]; omega, f⟩
end
theorem Pr_cb {n : Nat} {p : List Rat} {w : Bool} (h : Pr n p w) : n ≤ 4 → ∃ D, Cb (100 ^ n) (10000 ^ n) D p := by
  induction h with
  | one => exact fun _ => ⟨1, by decide, by decide, fun x hx => by
      rw [List.mem_singleton.mp hx]
      exact ⟨1, by decide, Fr.one 1⟩⟩
  | @mul n p f w g hP hF ih =>
    intro hn
    obtain ⟨D, d0, d1, d2⟩ := ih (by omega)
    obtain ⟨E, e0, e1, e2⟩ := fac_cb hF
    obtain ⟨h1, h2, h3⟩ := Pr_base hP
    obtain ⟨h4, h5⟩ := isFac_ne hF
    refine ⟨D * E, Int.mul_pos d0 e0, ?_, fun x hx => ?_⟩
    · rw [Int.natAbs_mul, Nat.pow_succ]
      exact Nat.mul_le_mul d1 e1
    · obtain ⟨k, a, fr⟩ := tm_cb d2 e2 p.length x hx
      refine ⟨k, Nat.le_trans a ?_, fr⟩
      have k1 : p.length * (f.length * (10000 ^ n * 101)) ≤ 9 * (3 * (10000 ^ n * 101)) := Nat.mul_le_mul (by omega) (Nat.mul_le_mul_right _ h5)
      rw [Nat.pow_succ]
      omega
theorem pow100 : ∀ n, n ≤ 4 → 100 ^ n < 2 ^ 27 ∧ 10000 ^ n < 2 ^ 60 := by decide
theorem Pr_cd {n : Nat} {p : List Rat} {w : Bool} (h : Pr n p w) (hn : n ≤ 4) : ∃ D, Cd 27 60 D p := by
  obtain ⟨D, d0, d1, d2⟩ := Pr_cb h hn
  obtain ⟨k1, k2⟩ := pow100 n hn
  exact ⟨D, d0, by omega, fun x hx => by
    obtain ⟨k, a, f⟩ := d2 x hx
    exact ⟨k, by omega, f⟩⟩
theorem Cd.Sz {d m : Nat} {D : Int} {l : List Rat} (h : Cd d m D l) (hd : d ≤ m) {x : Rat} (hx : x ∈ l) : DL.Sz m x := by
  obtain ⟨n, a, f⟩ := h.2.2 x hx
  exact f.Sz h.1 a (Nat.lt_of_lt_of_le h.2.1 (pw_le hd))
theorem Sz.mul {a b : Rat} {n m : Nat} (ha : DL.Sz n a) (hb : DL.Sz m b) : DL.Sz (n + m) (a * b) := by
  have e := low_mul a b
  rw [← e]
  exact sz_divInt (Int.mul_ne_zero den_ne den_ne) (mul_lt ha.1 hb.1) (den_mul_lt ha.2 hb.2)
theorem Sz.inv {a : Rat} {n : Nat} (h0 : a ≠ 0) (ha : DL.Sz n a) : DL.Sz n (1 / a) := by
  have e := low_div 1 a
  rw [← e]
  have e1 : (1 : Rat).num * (a.den : Int) = (a.den : Int) := Int.one_mul _
  have e2 : (((1 : Rat).den : Nat) : Int) * a.num = a.num := Int.one_mul _
  rw [e1, e2]
  exact sz_divInt (num_ne h0) (by rw [natAbs_cast]; exact ha.2) ha.1
theorem tm_ok {n : Nat} {p f : List Rat} {w g : Bool} (hn : n < 4) (h : Pr n p w) (hF : IsFac f g) : OkTm p f := by
  obtain ⟨D, d0, d1, d2⟩ := Pr_cb h (by omega)
  obtain ⟨E, e0, e1, e2⟩ := fac_cb hF
  obtain ⟨h1, h2, h3⟩ := Pr_base h
  obtain ⟨h4, h5⟩ := isFac_ne hF
  obtain ⟨k1, k2⟩ := pow100 n (by omega)
  have hDE : 0 < D * E := Int.mul_pos d0 e0
  have hDEn : (D * E).natAbs < 2 ^ 100 := Nat.lt_of_lt_of_le (mul_lt (i := 27) (j := 27) (by omega) (by omega)) (by decide)
  intro i hi j hj
  obtain ⟨n1, a1, f1⟩ := getD_cb d2 i
  obtain ⟨n2, a2, f2⟩ := getD_cb e2 j
  obtain ⟨n3, a3, f3⟩ := getD_cb (row_cb d2 e2 i _ _ (tm_cb d2 e2 i) j) (i + j)
  have s1 : Sz 100 (p.getD i 0) := f1.Sz d0 (by omega) (by omega)
  have s2 : Sz 100 (f.getD j 0) := f2.Sz e0 (by omega) (by omega)
  have q1 : i * (f.length * (10000 ^ n * 101)) ≤ 9 * (3 * (10000 ^ n * 101)) := Nat.mul_le_mul (by omega) (Nat.mul_le_mul_right _ h5)
  have q2 : j * (10000 ^ n * 101) ≤ 3 * (10000 ^ n * 101) := Nat.mul_le_mul_right _ (by omega)
  have s3 : Sz 100 ((rowT p f i j (tmT p f i)).getD (i + j) 0) := f3.Sz hDE (by omega) hDEn
  exact ⟨okTimes s1 s2 (by decide), okAdd s3 (Sz.mul s1 s2) (by decide)⟩
/-! ### made monic -/
theorem lastQ_get {l : List Rat} (h : l ≠ []) : lastQ l = l.getD (l.length - 1) 0 := by
  have h0 := List.length_pos_iff.mpr h
  have h1 : l.length - 1 < l.length := by omega
  rw [lastQ_eq h, List.getLast_eq_getElem, List.getD_eq_getElem?_getD, List.getElem?_eq_getElem h1]
  rfl
theorem last_scl {s t : Rat} {p q : List Rat} (hp : p ≠ []) (hl : lastQ p = 1) (hlen : q.length = p.length) (hq : ∀ i, i < p.length → q.getD i 0 = t * p.getD i 0 * powR s i) : lastQ q = t * powR s (p.length - 1) := by
  have hp0 := List.length_pos_iff.mpr hp
  have hqn : q ≠ [] := by intro z; rw [z] at hlen; simp at hlen; omega
  rw [lastQ_get hqn, hlen, hq _ (by omega), ← lastQ_get hp, hl]
  grind
theorem monic_scl {s t : Rat} (hs : s ≠ 0) (ht : t ≠ 0) {p q : List Rat} (hp : p ≠ []) (hl : lastQ p = 1) (hlen : q.length = p.length) (hq : ∀ i, i < p.length → q.getD i 0 = t * p.getD i 0 * powR s i) : monicQ q = scl s p := by
  have hlast := last_scl hp hl hlen hq
  apply List.ext_getElem
  · rw [monicQ_len, scl_len, hlen]
  · intro i h1 h2
    rw [monicQ_len] at h1
    rw [scl_len] at h2
    have e1 : (monicQ q)[i] = q[i] * (1 / lastQ q) := by simp only [monicQ, List.getElem_map]
    have e2 : (scl s p)[i] = p.getD i 0 * powR s i * (1 / powR s (p.length - 1)) := by simp only [scl, List.getElem_map, List.getElem_range]
    have e3 : q[i] = q.getD i 0 := by
      rw [List.getD_eq_getElem?_getD, List.getElem?_eq_getElem h1]
      rfl
    rw [e1, e2, e3, hq i h2, hlast]
    have k1 := powR_ne hs (p.length - 1)
    generalize powR s (p.length - 1) = A at *
    generalize powR s i = B at *
    grind
theorem okPoly_of {s t : Rat} (hs : s ≠ 0) (ht : t ≠ 0) {p q : List Rat} {d m : Nat} {D : Int} (hp : p ≠ []) (hpl : p.length ≤ 9) (hl : lastQ p = 1) (hlen : q.length = p.length) (hq : ∀ i, i < p.length → q.getD i 0 = t * p.getD i 0 * powR s i)
    (hz : Sz 40 (lastQ q)) (hzq : ∀ x ∈ q, Sz 200 x) (hc : Cd d m D (scl s p)) (hd : d ≤ 35) (hdm : d ≤ m) (hm : m ≤ 1000) : OkPoly q := by
  have hp0 := List.length_pos_iff.mpr hp
  have hqn : q ≠ [] := by intro z; rw [z] at hlen; simp at hlen; omega
  have hlast := last_scl hp hl hlen hq
  have hl0 : lastQ q ≠ 0 := by
    rw [hlast]
    intro z
    rcases Rat.mul_eq_zero.mp z with z | z
    · exact ht z
    · exact powR_ne hs _ z
  refine ⟨hqn, hl0, by omega, ⟨okOver hl0 sz_one hz (by decide), fun x hx => okTimes (hzq x hx) (Sz.inv hl0 hz) (by decide)⟩, ?_⟩
  rw [monic_scl hs ht hp hl hlen hq]
  refine okRows _ _ d m D hc hdm (scl_ne hp) (by rw [scl_last hs hp, hl]) (fun _ => ?_) (by rw [scl_len]; omega)
  rw [scl_len]
  have k1 : (2 : Nat) ^ (p.length - 1) ≤ 2 ^ 8 := pw_le (by omega)
  have k2 := Nat.mul_le_mul hd k1
  omega
theorem powR_one : ∀ i, powR 1 i = 1
  | 0 => rfl
  | i + 1 => by
    show powR 1 i * 1 = 1
    rw [powR_one i]
    grind
theorem powR_m1 : ∀ i, powR (-1) i = if i % 2 = 0 then 1 else -1
  | 0 => rfl
  | i + 1 => by
    show powR (-1) i * (-1) = _
    rw [powR_m1 i]
    by_cases h : i % 2 = 0
    · rw [if_pos h, if_neg (by omega)]
      grind
    · rw [if_neg h, if_pos (by omega)]
      grind
theorem mem_scl {s : Rat} {p : List Rat} {x : Rat} (h : x ∈ scl s p) : ∃ i, i < p.length ∧ p.getD i 0 ∈ p ∧ x = p.getD i 0 * powR s i * (1 / powR s (p.length - 1)) := by
  obtain ⟨i, hi, rfl⟩ := List.mem_map.mp h
  have hi' := List.mem_range.mp hi
  refine ⟨i, hi', ?_, rfl⟩
  rw [List.getD_eq_getElem?_getD, List.getElem?_eq_getElem hi']
  exact List.getElem_mem hi'
theorem cd_one {d m : Nat} {D : Int} {p : List Rat} (h : Cd d m D p) : Cd d m D (scl 1 p) := ⟨h.1, h.2.1, fun x hx => by
  obtain ⟨i, hi, hm, rfl⟩ := mem_scl hx
  obtain ⟨n, a, f⟩ := h.2.2 _ hm
  refine ⟨n, a, ?_⟩
  rw [powR_one, powR_one]
  unfold Fr at *
  rw [← f]
  grind⟩
theorem cd_m1 {d m : Nat} {D : Int} {p : List Rat} (h : Cd d m D p) : Cd d m D (scl (-1) p) := ⟨h.1, h.2.1, fun x hx => by
  obtain ⟨i, hi, hm, rfl⟩ := mem_scl hx
  obtain ⟨n, a, f⟩ := h.2.2 _ hm
  have hc : p.getD i 0 * powR (-1) i * (1 / powR (-1) (p.length - 1)) = p.getD i 0 ∨ p.getD i 0 * powR (-1) i * (1 / powR (-1) (p.length - 1)) = -(p.getD i 0) := by
    rw [powR_m1, powR_m1]
    split <;> split
    · exact .inl (by grind)
    · exact .inr (by grind)
    · exact .inr (by grind)
    · exact .inl (by grind)
  rcases hc with e | e
  · rw [e]
    exact ⟨n, a, f⟩
  · rw [e]
    exact ⟨-n, by omega, f.neg⟩⟩
theorem powR_two : ∀ i, powR 2 i = (((2 ^ i : Nat) : Int) : Rat)
  | 0 => rfl
  | i + 1 => by
    show powR 2 i * 2 = _
    rw [powR_two i, Nat.pow_succ, Int.natCast_mul, Rat.intCast_mul]
    rfl
theorem cd_two {d m : Nat} {D : Int} {p : List Rat} (h : Cd d m D p) (hl : p.length ≤ 9) : Cd (d + 8) (m + 8) (D * ((2 ^ (p.length - 1) : Nat) : Int)) (scl 2 p) := by
  have k1 : (2 : Nat) ^ (p.length - 1) ≤ 2 ^ 8 := pw_le (by omega)
  have k0 : 0 < (2 : Nat) ^ (p.length - 1) := Nat.pow_pos (by decide)
  refine ⟨Int.mul_pos h.1 (by omega), ?_, fun x hx => ?_⟩
  · rw [Int.natAbs_mul, natAbs_cast, Nat.pow_add]
    exact Nat.lt_of_le_of_lt (Nat.mul_le_mul_left _ k1) (Nat.mul_lt_mul_of_pos_right h.2.1 (by decide))
  · obtain ⟨i, hi, hm, rfl⟩ := mem_scl hx
    obtain ⟨n, a, f⟩ := h.2.2 _ hm
    have k2 : (2 : Nat) ^ i ≤ 2 ^ 8 := pw_le (by omega)
    refine ⟨n * ((2 ^ i : Nat) : Int), ?_, ?_⟩
    · rw [Int.natAbs_mul, natAbs_cast, Nat.pow_add]
      exact Nat.lt_of_le_of_lt (Nat.mul_le_mul_left _ k2) (Nat.mul_lt_mul_of_pos_right a (by decide))
    · have q := powR_ne (s := 2) (by grind) (p.length - 1)
      unfold Fr at *
      rw [Rat.intCast_mul, Rat.intCast_mul, ← f, ← powR_two, ← powR_two]
      generalize powR 2 (p.length - 1) = A at *
      generalize powR 2 i = B at *
      grind
theorem mem_get {q : List Rat} {x : Rat} (h : x ∈ q) : ∃ i, i < q.length ∧ x = q.getD i 0 := by
  obtain ⟨i, hi, rfl⟩ := List.getElem_of_mem h
  refine ⟨i, hi, ?_⟩
  rw [List.getD_eq_getElem?_getD, List.getElem?_eq_getElem hi]
  rfl
theorem pw2_eq (k : Nat) : pw2 k = powR 2 k := by
  rw [powR_two]
  apply Rat.ext
  · show (2 : Int) ^ k = ((2 ^ k : Nat) : Int)
    rw [Int.natCast_pow]
    rfl
  · rfl
theorem sz_pw2 {k : Nat} (h : k ≤ 8) : Sz 10 (pw2 k) := by
  constructor
  · show ((2 : Int) ^ k).natAbs < 2 ^ 10
    rw [Int.natAbs_pow]
    exact Nat.lt_of_le_of_lt (pw_le h) (by decide)
  · show 1 < 2 ^ 10
    decide
section
variable {n : Nat} {p : List Rat} {w : Bool} (hn : n ≤ 4) (h : Pr n p w)
include hn h
theorem f_poly : OkPoly p ∧ withinQ p = w := by
  obtain ⟨h1, h2, h3⟩ := Pr_base h
  obtain ⟨D, hc⟩ := Pr_cd h hn
  have hq : ∀ i, i < p.length → p.getD i 0 = 1 * p.getD i 0 * powR 1 i := fun i _ => by
    rw [powR_one]
    grind
  have e := monic_scl (s := 1) (t := 1) (by grind) (by grind) h1 h3 rfl hq
  exact ⟨okPoly_of (s := 1) (t := 1) (by grind) (by grind) h1 (by omega) h3 rfl hq (by rw [h3]; exact sz_one.mono (by decide)) (fun x hx => (hc.Sz (by decide) hx).mono (by decide)) (cd_one hc) (by decide) (by decide) (by decide), within_scl (.inl rfl) h h1 e⟩
theorem f_told (m : Rat) (hm : m ≠ 0) (hz : Sz 20 m) : (∀ x ∈ p, OkTimes x m) ∧ OkPoly (scaleQ p m) ∧ (∀ x ∈ scaleQ p m, OkOver x (lastQ (scaleQ p m))) ∧ circleQ (scaleQ p m) = circleQ p := by
  obtain ⟨h1, h2, h3⟩ := Pr_base h
  obtain ⟨D, hc⟩ := Pr_cd h hn
  have hlen : (scaleQ p m).length = p.length := by unfold scaleQ; rw [List.length_map]
  have hq : ∀ i, i < p.length → (scaleQ p m).getD i 0 = m * p.getD i 0 * powR 1 i := fun i hi => by
    rw [powR_one]
    unfold scaleQ
    rw [List.getD_eq_getElem?_getD, List.getElem?_map, List.getD_eq_getElem?_getD, List.getElem?_eq_getElem hi]
    show p[i] * m = m * p[i] * 1
    grind
  have hq1 : ∀ i, i < p.length → p.getD i 0 = 1 * p.getD i 0 * powR 1 i := fun i _ => by
    rw [powR_one]
    grind
  have e := monic_scl (s := 1) (t := m) (by grind) hm h1 h3 hlen hq
  have e1 := monic_scl (s := 1) (t := 1) (by grind) (by grind) h1 h3 rfl hq1
  have hlast : lastQ (scaleQ p m) = m := by
    rw [last_scl h1 h3 hlen hq, powR_one]
    grind
  have hzs : ∀ x ∈ scaleQ p m, Sz 80 x := fun x hx => by
    obtain ⟨y, hy, rfl⟩ := List.mem_map.mp hx
    exact Sz.mul (hc.Sz (by decide) hy) hz
  refine ⟨fun x hx => okTimes (hc.Sz (by decide) hx) hz (by decide), okPoly_of (s := 1) (t := m) (by grind) hm h1 (by omega) h3 hlen hq (by rw [hlast]; exact hz.mono (by decide)) (fun x hx => (hzs x hx).mono (by decide)) (cd_one hc) (by decide) (by decide) (by decide), fun x hx => ?_, ?_⟩
  · rw [hlast]
    exact okOver hm (hzs x hx) hz (by decide)
  · unfold circleQ
    rw [e, e1]
theorem f_turned : OkPoly (turnQ p) ∧ withinQ (turnQ p) = w := by
  obtain ⟨h1, h2, h3⟩ := Pr_base h
  obtain ⟨D, hc⟩ := Pr_cd h hn
  have hlen : (turnQ p).length = p.length := by unfold turnQ; rw [List.length_map, List.length_range]
  have hq : ∀ i, i < p.length → (turnQ p).getD i 0 = 1 * p.getD i 0 * powR (-1) i := fun i hi => by
    rw [powR_m1]
    unfold turnQ
    rw [List.getD_eq_getElem?_getD, List.getElem?_map, List.getElem?_range hi]
    show (if i % 2 = 0 then p.getD i 0 else -(p.getD i 0)) = _
    split <;> grind
  have e := monic_scl (s := -1) (t := 1) (by grind) (by grind) h1 h3 hlen hq
  have hne : turnQ p ≠ [] := by
    intro z
    rw [z] at hlen
    exact h1 (List.length_eq_zero_iff.mp hlen.symm)
  have hlast : Sz 1 (lastQ (turnQ p)) := by
    rw [last_scl h1 h3 hlen hq, powR_m1]
    split
    · rw [show (1 : Rat) * 1 = 1 by grind]
      exact sz_one
    · rw [show (1 : Rat) * (-1) = -1 by grind]
      exact sz_mone
  refine ⟨okPoly_of (s := -1) (t := 1) (by grind) (by grind) h1 (by omega) h3 hlen hq (hlast.mono (by decide)) (fun x hx => ?_) (cd_m1 hc) (by decide) (by decide) (by decide), within_scl (.inr rfl) h hne e⟩
  obtain ⟨i, hi, rfl⟩ := mem_get hx
  rw [hlen] at hi
  rw [hq i hi, powR_m1]
  have hm : p.getD i 0 ∈ p := by
    rw [List.getD_eq_getElem?_getD, List.getElem?_eq_getElem hi]
    exact List.getElem_mem hi
  have hz := hc.Sz (by decide) hm
  split
  · rw [show 1 * p.getD i 0 * 1 = p.getD i 0 by grind]
    exact hz.mono (by decide)
  · rw [show 1 * p.getD i 0 * (-1) = p.getD i 0 * (-1) by grind]
    exact (Sz.mul hz sz_mone).mono (by decide)
theorem f_small : (∀ x ∈ p, ∀ k, k ≤ 8 → OkTimes x (pw2 k)) ∧ (w = true → OkPoly (smallQ p) ∧ withinQ (smallQ p) = true) := by
  obtain ⟨h1, h2, h3⟩ := Pr_base h
  obtain ⟨D, hc⟩ := Pr_cd h hn
  refine ⟨fun x hx k hk => okTimes (hc.Sz (by decide) hx) (sz_pw2 hk) (by decide), fun hw => ?_⟩
  have hlen : (smallQ p).length = p.length := by unfold smallQ; rw [List.length_map, List.length_range]
  have hq : ∀ i, i < p.length → (smallQ p).getD i 0 = 1 * p.getD i 0 * powR 2 i := fun i hi => by
    rw [← pw2_eq]
    unfold smallQ
    rw [List.getD_eq_getElem?_getD, List.getElem?_map, List.getElem?_range hi]
    show p.getD i 0 * pw2 i = _
    grind
  have e := monic_scl (s := 2) (t := 1) (by grind) (by grind) h1 h3 hlen hq
  have hne : smallQ p ≠ [] := by
    intro z
    rw [z] at hlen
    exact h1 (List.length_eq_zero_iff.mp hlen.symm)
  have hlast : Sz 10 (lastQ (smallQ p)) := by
    rw [last_scl h1 h3 hlen hq, ← pw2_eq, show (1 : Rat) * pw2 (p.length - 1) = pw2 (p.length - 1) by grind]
    exact sz_pw2 (by omega)
  refine ⟨okPoly_of (s := 2) (t := 1) (by grind) (by grind) h1 (by omega) h3 hlen hq (hlast.mono (by decide)) (fun x hx => ?_) (cd_two hc (by omega)) (by decide) (by decide) (by decide), within_two h hne e hw⟩
  obtain ⟨i, hi, rfl⟩ := mem_get hx
  rw [hlen] at hi
  rw [hq i hi, ← pw2_eq]
  have hm : p.getD i 0 ∈ p := by
    rw [List.getD_eq_getElem?_getD, List.getElem?_eq_getElem hi]
    exact List.getElem_mem hi
  rw [show 1 * p.getD i 0 * pw2 i = p.getD i 0 * pw2 i by grind]
  exact (Sz.mul (hc.Sz (by decide) hm) (sz_pw2 (by omega))).mono (by decide)
end
theorem num_sz : ∀ x ∈ numL, Sz 20 x := by decide +kernel
theorem f_many (j : J) : manyF (numF j).1 ≠ 0 ∧ Sz 20 (manyF (numF j).1) := by
  have hz : Sz 20 (numF j).1 := by
    unfold numF
    split
    · split
      · have b1 := fun jj => nx_lt (j := jj) (m := 20001) (by decide)
        have b2 := fun jj => nx_lt (j := jj) (m := 99) (by decide)
        refine sz_divInt ?_ ?_ ?_
        · have := b2 (nx ⟨(nx j 13).2.c, (nx j 13).2.f, (nx j 13).2.k, (nx j 13).2.t - 1⟩ 20001).2
          omega
        · have := b1 ⟨(nx j 13).2.c, (nx j 13).2.f, (nx j 13).2.k, (nx j 13).2.t - 1⟩
          omega
        · have := b2 (nx ⟨(nx j 13).2.c, (nx j 13).2.f, (nx j 13).2.k, (nx j 13).2.t - 1⟩ 20001).2
          omega
      · exact num_sz _ (pickQ_mem (by decide))
    · exact num_sz _ (pickQ_mem (by decide))
  unfold manyF
  split
  · exact ⟨by decide +kernel, by decide +kernel⟩
  · rename_i hne
    exact ⟨hne, hz⟩
theorem rowsF_bd : ∀ (n : Nat) (p : List Rat), p ≠ [] → (rowsF n p).length ≤ n + 1 ∧ ∀ r ∈ rowsF n p, r ≠ [] ∧ r.length ≤ p.length
  | 0, p, hp => ⟨Nat.le_refl 1, fun r hr => by
    have : r = p := List.mem_singleton.mp hr
    rw [this]
    exact ⟨hp, Nat.le_refl _⟩⟩
  | n + 1, p, hp => by
    have e : rowsF (n + 1) p = p :: (if 1 < p.length ∧ isOpen p = true then rowsF n (nextQ p) else []) := rfl
    rw [e]
    by_cases hc : 1 < p.length ∧ isOpen p = true
    · rw [if_pos hc]
      have hn : nextQ p ≠ [] := by
        intro z
        have := nextQ_len p
        rw [z] at this
        simp at this
        omega
      obtain ⟨i1, i2⟩ := rowsF_bd n (nextQ p) hn
      refine ⟨by rw [List.length_cons]; omega, fun r hr => ?_⟩
      rcases List.mem_cons.mp hr with rfl | hr
      · exact ⟨hp, Nat.le_refl _⟩
      · obtain ⟨k1, k2⟩ := i2 r hr
        rw [nextQ_len] at k2
        exact ⟨k1, by omega⟩
    · rw [if_neg hc]
      refine ⟨by rw [List.length_singleton]; omega, fun r hr => ?_⟩
      rw [List.mem_singleton.mp hr]
      exact ⟨hp, Nat.le_refl _⟩
theorem f_rows (p : List Rat) (hp : p ≠ []) (hl : p.length ≤ 9) : (circleQ p).length ≤ 100 ∧ ∀ r ∈ circleQ p, r ≠ [] ∧ r.length ≤ 100 := by
  have hm : monicQ p ≠ [] := by
    intro z
    have := monicQ_len p
    rw [z] at this
    exact hp (List.length_eq_zero_iff.mp this.symm)
  obtain ⟨i1, i2⟩ := rowsF_bd (monicQ p).length (monicQ p) hm
  have hl2 := monicQ_len p
  have i3 : (circleQ p).length ≤ (monicQ p).length + 1 := i1
  refine ⟨by omega, fun r hr => ?_⟩
  obtain ⟨k1, k2⟩ := i2 r hr
  rw [monicQ_len] at k2
  exact ⟨k1, by omega⟩
end C56
end Part25

section Part26
set_option Elab.async false
set_option linter.all false
set_option maxRecDepth 100000
/-! Values: which are taken, which are alike. -/
namespace C56
open PySem PySem.Spec PyProof.Rows L2 DL
theorem eqS_dq_iff {x : PyData} {q : Rat} : eqS x (dq q) = true ↔ x = dq q := by
  constructor
  · intro h
    cases x with
    | tuple es =>
      have h' : eqSAll es [.int q.num, .int (q.den : Int)] = true := h
      match es, h' with
      | [a, b], h' =>
        have h2 : (eqS a (.int q.num) && (eqS b (.int (q.den : Int)) && true)) = true := h'
        rw [Bool.and_true, Bool.and_eq_true] at h2
        obtain ⟨h3, h4⟩ := h2
        have ea : a = .int q.num := by
          cases a <;> first | (cases h3; done) | skip
          rename_i i
          have : decide (i = q.num) = true := h3
          rw [of_decide_eq_true this]
        have eb : b = .int (q.den : Int) := by
          cases b <;> first | (cases h4; done) | skip
          rename_i i
          have : decide (i = (q.den : Int)) = true := h4
          rw [of_decide_eq_true this]
        rw [ea, eb]
      | [], h' => cases h'
      | [a], h' =>
        have h2 : (eqS a (.int q.num) && false) = true := h'
        rw [Bool.and_false] at h2
        cases h2
      | a :: b :: c :: r, h' =>
        have h2 : (eqS a (.int q.num) && (eqS b (.int (q.den : Int)) && false)) = true := h'
        rw [Bool.and_false, Bool.and_false] at h2
        cases h2
    | _ => cases h
  · rintro rfl
    exact eqS_dq q
theorem eqSAll_iff {α : Type} {f : α → PyData} (h : ∀ x a, eqS x (f a) = true ↔ x = f a) : ∀ (es : List PyData) (l : List α), eqSAll es (l.map f) = true ↔ es = l.map f
  | [], [] => ⟨fun _ => rfl, fun _ => rfl⟩
  | [], a :: l => ⟨(fun z => nomatch z), (fun z => nomatch z)⟩
  | e :: es, [] => ⟨(fun z => nomatch z), (fun z => nomatch z)⟩
  | e :: es, a :: l => by
    show (eqS e (f a) && eqSAll es (l.map f)) = true ↔ e :: es = f a :: l.map f
    rw [Bool.and_eq_true, h, eqSAll_iff h es l, List.cons_eq_cons]
theorem eqS_dr_iff (x : PyData) (r : List Rat) : eqS x (dr r) = true ↔ x = dr r := by
  cases x with
  | tuple es =>
    show eqSAll es (r.map dq) = true ↔ _
    rw [eqSAll_iff (f := dq) (fun x a => eqS_dq_iff) es r]
    exact ⟨fun h => by rw [h], fun h => by cases h; rfl⟩
  | _ => exact ⟨(fun z => nomatch z), (fun z => nomatch z)⟩
theorem eqS_drs_iff (x : PyData) (R : List (List Rat)) : eqS x (drs R) = true ↔ x = drs R := by
  cases x with
  | list es =>
    show eqSAll es (R.map dr) = true ↔ _
    rw [eqSAll_iff (f := dr) eqS_dr_iff es R]
    exact ⟨fun h => by rw [h], fun h => by cases h; rfl⟩
  | _ => exact ⟨(fun z => nomatch z), (fun z => nomatch z)⟩
theorem fr_eqv {x : PyData} {q : Rat} (h : isFr x = true) (e : PyData.eqv x (dq q) = true) : x = dq q := by
  unfold isFr at h
  split at h
  · rename_i a b
    have e' : (a == q.num && (b == (q.den : Int) && true)) = true := e
    rw [Bool.and_true, Bool.and_eq_true, beq_iff_eq, beq_iff_eq] at e'
    rw [e'.1, e'.2]
  · cases h
theorem all_eqv {α : Type} {f : α → PyData} {t : PyData → Bool} (h : ∀ x a, t x = true → PyData.eqv x (f a) = true → x = f a) : ∀ (es : List PyData) (l : List α), es.all t = true → PyData.eqvAll es (l.map f) = true → es = l.map f
  | [], [], _, _ => rfl
  | [], a :: l, _, z => nomatch z
  | e :: es, [], _, z => nomatch z
  | e :: es, a :: l, h1, h2 => by
    have h1' : (t e && es.all t) = true := h1
    have h2' : (PyData.eqv e (f a) && PyData.eqvAll es (l.map f)) = true := h2
    rw [Bool.and_eq_true] at h1' h2'
    rw [h e a h1'.1 h2'.1, all_eqv h es l h1'.2 h2'.2]
    rfl
theorem row_eqv (x : PyData) (r : List Rat) (h : isRow .none x = true) (e : PyData.eqv x (dr r) = true) : x = dr r := by
  cases x with
  | tuple es =>
    have h' : (true && es.all isFr) = true := h
    rw [Bool.true_and] at h'
    have e' : PyData.eqvAll es (r.map dq) = true := e
    rw [all_eqv (fun x a => fr_eqv) es r h' e']
  | _ => cases h
theorem f_same (p : List Rat) (v : PyData) (hv : PyData.canLay0 v = true) : isRowsD p v = eqS v (drs (circleQ p)) := by
  rw [Bool.eq_iff_iff, eqS_drs_iff]
  generalize hR : circleQ p = R
  constructor
  · intro h
    cases v with
    | list ds =>
      have h' : (isMat .none .none (.tuple ds) && PyData.eqv (.list ds) (drs (circleQ p))) = true := h
      rw [hR, Bool.and_eq_true] at h'
      obtain ⟨h1, h2⟩ := h'
      have h1' : (true && ds.all (isRow .none)) = true := h1
      rw [Bool.true_and] at h1'
      have h2' : PyData.eqvAll ds (R.map dr) = true := h2
      rw [all_eqv row_eqv ds R h1' h2']
    | _ => cases h
  · rintro rfl
    show (isMat .none .none (.tuple (R.map dr)) && PyData.eqv (drs R) (drs (circleQ p))) = true
    rw [hR, Bool.and_eq_true]
    constructor
    · show (true && (R.map dr).all (isRow .none)) = true
      rw [Bool.true_and, List.all_eq_true]
      intro x hx
      obtain ⟨r, _, rfl⟩ := List.mem_map.mp hx
      exact isRow_dr r
    · show PyData.eqvAll (R.map dr) (R.map dr) = true
      induction R with
      | nil => rfl
      | cons r R ih =>
        show (PyData.eqv (dr r) (dr r) && PyData.eqvAll (R.map dr) (R.map dr)) = true
        rw [eqv_dr, decide_eq_true rfl, Bool.true_and]
        have : ∀ R : List (List Rat), PyData.eqvAll (R.map dr) (R.map dr) = true := fun R => by
          induction R with
          | nil => rfl
          | cons r R ih =>
            show (PyData.eqv (dr r) (dr r) && PyData.eqvAll (R.map dr) (R.map dr)) = true
            rw [eqv_dr, decide_eq_true rfl, Bool.true_and, ih]
        exact this R
/-! ### values that may be asked of -/
def Ly (n : Nat) (v : PyData) : Prop := PyData.canLay0 v = true ∧ PyData.depth v ≤ n
theorem ly_all {n : Nat} : ∀ {ds : List PyData}, (∀ x ∈ ds, Ly n x) → PyData.canLayAll0 ds = true ∧ PyData.depthAll ds ≤ n
  | [], _ => ⟨rfl, Nat.zero_le _⟩
  | d :: ds, h => by
    obtain ⟨h1, h2⟩ := h d List.mem_cons_self
    obtain ⟨h3, h4⟩ := ly_all fun x hx => h x (List.mem_cons_of_mem _ hx)
    constructor
    · simp [PyData.canLayAll0, h1, h3]
    · simp only [PyData.depthAll]
      exact Nat.max_le.mpr ⟨h2, h4⟩
theorem ly_tup {n : Nat} {ds : List PyData} (h : ∀ x ∈ ds, Ly n x) : Ly (n + 1) (.tuple ds) := by
  obtain ⟨h1, h2⟩ := ly_all h
  constructor
  · simpa [PyData.canLay0] using h1
  · simp only [PyData.depth]
    omega
theorem ly_lst {n : Nat} {ds : List PyData} (h : ∀ x ∈ ds, Ly n x) : Ly (n + 1) (.list ds) := by
  obtain ⟨h1, h2⟩ := ly_all h
  constructor
  · simpa [PyData.canLay0] using h1
  · simp only [PyData.depth]
    omega
theorem Ly.mono {n m : Nat} {v : PyData} (h : Ly n v) (hm : n ≤ m) : Ly m v := ⟨h.1, Nat.le_trans h.2 hm⟩
theorem ly_int (i : Int) : Ly 0 (.int i) := ⟨by simp [PyData.canLay0], by simp [PyData.depth]⟩
theorem ly_bool (i : Bool) : Ly 0 (.bool i) := ⟨by simp [PyData.canLay0], by simp [PyData.depth]⟩
theorem ly_none : Ly 0 .none := ⟨by simp [PyData.canLay0], by simp [PyData.depth]⟩
theorem ly_str (s : Str) (h : PyData.strOk s = true) : Ly 0 (.str s) := ⟨by simpa [PyData.canLay0] using h, by simp [PyData.depth]⟩
theorem ly_dq (q : Rat) : Ly 1 (dq q) := ly_tup fun x hx => by
  rcases List.mem_cons.mp hx with rfl | hx
  · exact ly_int _
  · rw [List.mem_singleton.mp hx]
    exact ly_int _
theorem ly_dr (r : List Rat) : Ly 2 (dr r) := ly_tup fun x hx => by
  obtain ⟨q, _, rfl⟩ := List.mem_map.mp hx
  exact ly_dq q
theorem okList {ds : List PyData} (h : ∀ x ∈ ds, Ly 5 x ∧ Small x) (hl : ds.length ≤ 100000) : ValOk (.list ds) ∧ PyData.canLay0 (.list ds) = true := by
  have h1 := ly_lst fun x hx => (h x hx).1
  refine ⟨⟨?_, hl, fun x hx => (h x hx).2⟩, h1.1⟩
  unfold SeqAt.shaped
  rw [h1.1, Bool.true_and]
  exact decide_eq_true (by have := h1.2; omega)
theorem okTup {ds : List PyData} (h : ∀ x ∈ ds, Ly 5 x) : ValOk (.tuple ds) ∧ PyData.canLay0 (.tuple ds) = true := ⟨True.intro, (ly_tup h).1⟩
theorem mem_slice {ds : List PyData} {lo hi : Option Int} {x : PyData} (h : x ∈ sliceD ds lo hi) : x ∈ ds := List.mem_of_mem_drop (List.mem_of_mem_take h)
theorem mid_ly {ms : List PyData} {j : Int} {x : PyData} (h : ∀ y ∈ ms, Ly 1 y) (hx : Ly 1 x) (hl : ms.length ≤ 100) : Ly 2 (midT ms j x) ∧ Small (midT ms j x) := by
  constructor
  · refine ly_tup fun y hy => ?_
    rcases List.mem_append.mp hy with hy | hy
    · rcases List.mem_append.mp hy with hy | hy
      · exact h y (mem_slice hy)
      · rw [List.mem_singleton.mp hy]
        exact hx
    · exact h y (mem_slice hy)
  · show (sliceD ms none (some j) ++ [x] ++ sliceD ms (some (j + 1)) none).length ≤ 100000
    have e1 : (sliceD ms none (some j)).length ≤ 100 := sliceD_len hl
    have e2 : (sliceD ms (some (j + 1)) none).length ≤ 100 := sliceD_len hl
    rw [List.length_append, List.length_append, List.length_singleton]
    omega
theorem end_ly {ms : List PyData} {x : PyData} (h : ∀ y ∈ ms, Ly 1 y) (hx : Ly 1 x) (hl : ms.length ≤ 100) : Ly 2 (endT ms x) ∧ Small (endT ms x) := by
  constructor
  · refine ly_tup fun y hy => ?_
    rcases List.mem_append.mp hy with hy | hy
    · exact h y (mem_slice hy)
    · rw [List.mem_singleton.mp hy]
      exact hx
  · show (sliceD ms none (some (-1)) ++ [x]).length ≤ 100000
    have e1 : (sliceD ms none (some (-1))).length ≤ 100 := sliceD_len hl
    rw [List.length_append, List.length_singleton]
    omega
section
variable {rs : List PyData} (h : ∀ y ∈ rs, Ly 2 y ∧ Small y) (hl : rs.length ≤ 100)
include h hl
theorem midL_ok {k : Int} {x : PyData} (hx : Ly 5 x ∧ Small x) : ValOk (midL rs k x) ∧ PyData.canLay0 (midL rs k x) = true := by
  refine okList (fun y hy => ?_) ?_
  · rcases List.mem_append.mp hy with hy | hy
    · rcases List.mem_append.mp hy with hy | hy
      · exact ⟨(h y (mem_slice hy)).1.mono (by decide), (h y (mem_slice hy)).2⟩
      · rw [List.mem_singleton.mp hy]
        exact hx
    · exact ⟨(h y (mem_slice hy)).1.mono (by decide), (h y (mem_slice hy)).2⟩
  · have e1 : (sliceD rs none (some k)).length ≤ 100 := sliceD_len hl
    have e2 : (sliceD rs (some (k + 1)) none).length ≤ 100 := sliceD_len hl
    rw [List.length_append, List.length_append, List.length_singleton]
    omega
theorem endL_ok {x : PyData} (hx : Ly 5 x ∧ Small x) : ValOk (endL rs x) ∧ PyData.canLay0 (endL rs x) = true := by
  refine okList (fun y hy => ?_) ?_
  · rcases List.mem_append.mp hy with hy | hy
    · exact ⟨(h y (mem_slice hy)).1.mono (by decide), (h y (mem_slice hy)).2⟩
    · rw [List.mem_singleton.mp hy]
      exact hx
  · have e1 : (sliceD rs none (some (-1))).length ≤ 100 := sliceD_len hl
    rw [List.length_append, List.length_singleton]
    omega
end
theorem ly_pair (a b : PyData) (ha : Ly 0 a) (hb : Ly 0 b) : Ly 1 (.tuple [a, b]) := ly_tup fun x hx => by
  rcases List.mem_cons.mp hx with rfl | hx
  · exact ha
  · rw [List.mem_singleton.mp hx]
    exact hb
theorem odd_ok : ∀ v ∈ oddL, ValOk v ∧ PyData.canLay0 v = true := by
  have e1 : ∀ y ∈ ([.int 0] : List PyData), Ly 5 y ∧ Small y := fun y hy => by
    rw [List.mem_singleton.mp hy]
    exact ⟨(ly_int 0).mono (by decide), True.intro⟩
  intro v hv
  simp only [oddL, List.mem_cons, List.not_mem_nil, or_false] at hv
  rcases hv with rfl | rfl | rfl | rfl | rfl | rfl | rfl | rfl | rfl | rfl | rfl | rfl | rfl | rfl | rfl | rfl | rfl
  · exact ⟨True.intro, ly_none.1⟩
  · exact ⟨True.intro, (ly_bool _).1⟩
  · exact ⟨True.intro, (ly_bool _).1⟩
  · exact ⟨True.intro, (ly_int _).1⟩
  · exact ⟨True.intro, (ly_int _).1⟩
  · exact ⟨True.intro, (ly_int _).1⟩
  · exact ⟨True.intro, (ly_str _ (by decide +kernel)).1⟩
  · exact ⟨True.intro, (ly_str _ (by decide +kernel)).1⟩
  · exact ⟨True.intro, (ly_str _ (by decide +kernel)).1⟩
  · exact okTup fun y hy => by cases hy
  · exact okList (fun y hy => by cases hy) (by decide)
  · exact okTup fun y hy => (e1 y hy).1
  · exact okList e1 (by decide)
  · exact okTup fun y hy => by
      rw [List.mem_singleton.mp hy]
      exact (ly_tup (n := 0) fun y hy => by cases hy).mono (by decide)
  · exact ⟨True.intro, (ly_pair _ _ (ly_int 0) (ly_int 1)).1⟩
  · exact ⟨True.intro, (ly_pair _ _ (ly_bool true) (ly_int 1)).1⟩
  · exact ⟨True.intro, (ly_int _).1⟩
theorem f_bend (R : List (List Rat)) (X : BendX) (i : Nat) (hl : R.length ≤ 100) (hR : ∀ r ∈ R, r ≠ [] ∧ r.length ≤ 100) (h1 : X.row.length ≤ 100) (h2 : X.lst.length ≤ 100) : ∀ v ∈ bendL R X ++ [drs R, nthD oddL i], ValOk v ∧ PyData.canLay0 v = true := by
  have hrs : ∀ y ∈ R.map dr, Ly 2 y ∧ Small y := fun y hy => by
    obtain ⟨r, hr, rfl⟩ := List.mem_map.mp hy
    exact ⟨ly_dr r, small_dr (by have := (hR r hr).2; omega)⟩
  have hrl : (R.map dr).length ≤ 100 := by rw [List.length_map]; exact hl
  have hrs5 : ∀ y ∈ R.map dr, Ly 5 y ∧ Small y := fun y hy => ⟨(hrs y hy).1.mono (by decide), (hrs y hy).2⟩
  have hm : ∀ (l : List Rat), ∀ y ∈ l.map dq, Ly 1 y := fun l y hy => by
    obtain ⟨q, _, rfl⟩ := List.mem_map.mp hy
    exact ly_dq q
  have hrow : (X.row.map dq).length ≤ 100 := by rw [List.length_map]; exact h1
  have hlst : (X.lst.map dq).length ≤ 100 := by rw [List.length_map]; exact h2
  have up : ∀ {x : PyData}, Ly 2 x ∧ Small x → Ly 5 x ∧ Small x := fun h => ⟨h.1.mono (by decide), h.2⟩
  intro v hv
  simp only [bendL, List.mem_append, List.mem_cons, List.not_mem_nil, or_false] at hv
  rcases hv with (((rfl | rfl | rfl | rfl | rfl | rfl) | (rfl | rfl | rfl | rfl)) | (rfl | rfl | rfl)) | (rfl | rfl)
  · exact okTup fun y hy => (hrs5 y hy).1
  · exact okList (fun y hy => hrs5 y (mem_slice hy)) (Nat.le_trans (sliceD_len hrl) (by decide))
  · refine okList (fun y hy => ?_) (by rw [List.length_append, List.length_singleton]; omega)
    rcases List.mem_append.mp hy with hy | hy
    · exact hrs5 y hy
    · rw [List.mem_singleton.mp hy]
      exact ⟨(ly_dr _).mono (by decide), small_dr (by decide)⟩
  · exact okList (fun y hy => hrs5 y (List.mem_reverse.mp hy)) (by rw [List.length_reverse]; omega)
  · exact midL_ok hrs hrl (up (mid_ly (hm _) (ly_dq _) hrow))
  · exact midL_ok hrs hrl ⟨(ly_lst (hm X.row)).mono (by decide), True.intro⟩
  · exact midL_ok hrs hrl (up (mid_ly (hm _) ((ly_int 1).mono (by decide)) hrow))
  · exact midL_ok hrs hrl ⟨ly_none.mono (by decide), True.intro⟩
  · exact okList (fun y hy => by cases hy) (by decide)
  · exact ⟨True.intro, ly_none.1⟩
  · exact endL_ok hrs hrl (up (end_ly (hm _) (ly_pair _ _ (ly_bool true) (ly_int 1)) hlst))
  · exact endL_ok hrs hrl (up (end_ly (hm _) (ly_pair _ _ (ly_int 1) (ly_bool true)) hlst))
  · exact endL_ok hrs hrl (up (end_ly (hm _) (ly_pair _ _ (ly_int 2) (ly_int 2)) hlst))
  · exact okList hrs5 (by omega)
  · unfold nthD
    rw [List.getD_eq_getElem?_getD]
    by_cases hi : i < oddL.length
    · rw [List.getElem?_eq_getElem hi]
      exact odd_ok _ (List.getElem_mem hi)
    · rw [List.getElem?_eq_none (by omega)]
      exact ⟨True.intro, ly_none.1⟩
theorem facts : Facts where
  len := fun h => ⟨(Pr_base h).1, (Pr_base h).2.1⟩
  tm := tm_ok
  poly := fun hn h => f_poly hn h
  many := f_many
  told := fun m hn h h0 hz => f_told hn h m h0 hz
  turned := fun hn h => f_turned hn h
  small := fun hn h => f_small hn h
  rows := f_rows
  bend := f_bend
  same := f_same
end C56
end Part26

set_option maxHeartbeats 4000000
namespace C56
open PySem PySem.Spec PyProof.Rows L2 DL
def spLaw (K : PySem.W.Frag) : Sp := fun vs H Q _ => ∃ (a : Addr) (ns : List Int), vs = [.ref a] ∧ SqL K H a (ns.map V.int) ∧ ns.length ≤ 63 ∧ ∀ H', Q (.bl true) H'
theorem dq_ints {K : PySem.W.Frag} {H : Hp} : ∀ ns : List Int, DqA K H (ns.map V.int) (ns.map PyData.int)
  | [] => .nil
  | n :: ns => .cons (.int n) (dq_ints ns)
theorem all_mk {l : PySem.W.OpenLaw} {w : World} {K : PySem.W.Frag} {h : Heap} {mg : Str → Option Value} {fa aN aO : Addr} (X : K.In h) (G : h.Ns mainGlobals mg) (hfa : mg "law" = some (.ref fa))
    {f_is_integer f_is_from f_is_tuple f_lowest_in f_is_fraction f_is_row f_is_matrix f_take_in f_times_in f_over_in f_less_in f_scale_in f_check_polynomial f_monic_in f_is_open f_next_in f_circle_in f_is_within_in f_circle_rows f_is_within f_is_circle_rows f__law_jar f__law_next f__law_pick f__law_equal f__law_odd f__law_frac f__law_plus f__law_take f__law_mul f__law_number f__law_times f__law_less f__law_inside f__law_factor f__law_rows f__law_bends f_law : Addr}
    {od_is_integer an_is_integer : Option Addr} {sl_is_integer : Array (Option Value)} {oc_is_integer kV_is_integer dc_is_integer pm_is_integer cd_is_integer ct_is_integer : Value}
    (a_is_integer : PySem.W.nsIn K mainGlobals "is_integer" = some (some (.ref f_is_integer))) (l_is_integer : K.lookup f_is_integer = some ⟨oc_is_integer, od_is_integer, .func (PySem.W.fnOf "is_integer" "is_integer" (defArgs s_is_integer) (defBody s_is_integer) (defScope s_is_integer) .none kV_is_integer dc_is_integer pm_is_integer an_is_integer cd_is_integer ct_is_integer), sl_is_integer⟩) (c_is_integer : PySem.W.codeIn K cd_is_integer "is_integer" = true) (k_is_integer : PySem.W.keepIn K (.ref f_is_integer) = true)
    {od_is_from an_is_from : Option Addr} {sl_is_from : Array (Option Value)} {oc_is_from kV_is_from dc_is_from pm_is_from cd_is_from ct_is_from : Value}
    (a_is_from : PySem.W.nsIn K mainGlobals "is_from" = some (some (.ref f_is_from))) (l_is_from : K.lookup f_is_from = some ⟨oc_is_from, od_is_from, .func (PySem.W.fnOf "is_from" "is_from" (defArgs s_is_from) (defBody s_is_from) (defScope s_is_from) .none kV_is_from dc_is_from pm_is_from an_is_from cd_is_from ct_is_from), sl_is_from⟩) (c_is_from : PySem.W.codeIn K cd_is_from "is_from" = true) (k_is_from : PySem.W.keepIn K (.ref f_is_from) = true)
    {od_is_tuple an_is_tuple : Option Addr} {sl_is_tuple : Array (Option Value)} {oc_is_tuple kV_is_tuple dc_is_tuple pm_is_tuple cd_is_tuple ct_is_tuple : Value}
    (a_is_tuple : PySem.W.nsIn K mainGlobals "is_tuple" = some (some (.ref f_is_tuple))) (l_is_tuple : K.lookup f_is_tuple = some ⟨oc_is_tuple, od_is_tuple, .func (PySem.W.fnOf "is_tuple" "is_tuple" (defArgs s_is_tuple) (defBody s_is_tuple) (defScope s_is_tuple) .none kV_is_tuple dc_is_tuple pm_is_tuple an_is_tuple cd_is_tuple ct_is_tuple), sl_is_tuple⟩) (c_is_tuple : PySem.W.codeIn K cd_is_tuple "is_tuple" = true) (k_is_tuple : PySem.W.keepIn K (.ref f_is_tuple) = true)
    {od_lowest_in an_lowest_in : Option Addr} {sl_lowest_in : Array (Option Value)} {oc_lowest_in kV_lowest_in dc_lowest_in pm_lowest_in cd_lowest_in ct_lowest_in : Value}
    (a_lowest_in : PySem.W.nsIn K mainGlobals "lowest_in" = some (some (.ref f_lowest_in))) (l_lowest_in : K.lookup f_lowest_in = some ⟨oc_lowest_in, od_lowest_in, .func (PySem.W.fnOf "lowest_in" "lowest_in" (defArgs s_lowest_in) (defBody s_lowest_in) (defScope s_lowest_in) .none kV_lowest_in dc_lowest_in pm_lowest_in an_lowest_in cd_lowest_in ct_lowest_in), sl_lowest_in⟩) (c_lowest_in : PySem.W.codeIn K cd_lowest_in "lowest_in" = true) (k_lowest_in : PySem.W.keepIn K (.ref f_lowest_in) = true)
    {od_is_fraction an_is_fraction : Option Addr} {sl_is_fraction : Array (Option Value)} {oc_is_fraction kV_is_fraction dc_is_fraction pm_is_fraction cd_is_fraction ct_is_fraction : Value}
    (a_is_fraction : PySem.W.nsIn K mainGlobals "is_fraction" = some (some (.ref f_is_fraction))) (l_is_fraction : K.lookup f_is_fraction = some ⟨oc_is_fraction, od_is_fraction, .func (PySem.W.fnOf "is_fraction" "is_fraction" (defArgs s_is_fraction) (defBody s_is_fraction) (defScope s_is_fraction) .none kV_is_fraction dc_is_fraction pm_is_fraction an_is_fraction cd_is_fraction ct_is_fraction), sl_is_fraction⟩) (c_is_fraction : PySem.W.codeIn K cd_is_fraction "is_fraction" = true) (k_is_fraction : PySem.W.keepIn K (.ref f_is_fraction) = true)
    {od_is_row an_is_row : Option Addr} {sl_is_row : Array (Option Value)} {oc_is_row kV_is_row dc_is_row pm_is_row cd_is_row ct_is_row : Value}
    (a_is_row : PySem.W.nsIn K mainGlobals "is_row" = some (some (.ref f_is_row))) (l_is_row : K.lookup f_is_row = some ⟨oc_is_row, od_is_row, .func (PySem.W.fnOf "is_row" "is_row" (defArgs s_is_row) (defBody s_is_row) (defScope s_is_row) .none kV_is_row dc_is_row pm_is_row an_is_row cd_is_row ct_is_row), sl_is_row⟩) (c_is_row : PySem.W.codeIn K cd_is_row "is_row" = true) (k_is_row : PySem.W.keepIn K (.ref f_is_row) = true)
    {od_is_matrix an_is_matrix : Option Addr} {sl_is_matrix : Array (Option Value)} {oc_is_matrix kV_is_matrix dc_is_matrix pm_is_matrix cd_is_matrix ct_is_matrix : Value}
    (a_is_matrix : PySem.W.nsIn K mainGlobals "is_matrix" = some (some (.ref f_is_matrix))) (l_is_matrix : K.lookup f_is_matrix = some ⟨oc_is_matrix, od_is_matrix, .func (PySem.W.fnOf "is_matrix" "is_matrix" (defArgs s_is_matrix) (defBody s_is_matrix) (defScope s_is_matrix) .none kV_is_matrix dc_is_matrix pm_is_matrix an_is_matrix cd_is_matrix ct_is_matrix), sl_is_matrix⟩) (c_is_matrix : PySem.W.codeIn K cd_is_matrix "is_matrix" = true) (k_is_matrix : PySem.W.keepIn K (.ref f_is_matrix) = true)
    {od_take_in an_take_in : Option Addr} {sl_take_in : Array (Option Value)} {oc_take_in kV_take_in dc_take_in pm_take_in cd_take_in ct_take_in : Value}
    (a_take_in : PySem.W.nsIn K mainGlobals "take_in" = some (some (.ref f_take_in))) (l_take_in : K.lookup f_take_in = some ⟨oc_take_in, od_take_in, .func (PySem.W.fnOf "take_in" "take_in" (defArgs s_take_in) (defBody s_take_in) (defScope s_take_in) .none kV_take_in dc_take_in pm_take_in an_take_in cd_take_in ct_take_in), sl_take_in⟩) (c_take_in : PySem.W.codeIn K cd_take_in "take_in" = true) (k_take_in : PySem.W.keepIn K (.ref f_take_in) = true)
    {od_times_in an_times_in : Option Addr} {sl_times_in : Array (Option Value)} {oc_times_in kV_times_in dc_times_in pm_times_in cd_times_in ct_times_in : Value}
    (a_times_in : PySem.W.nsIn K mainGlobals "times_in" = some (some (.ref f_times_in))) (l_times_in : K.lookup f_times_in = some ⟨oc_times_in, od_times_in, .func (PySem.W.fnOf "times_in" "times_in" (defArgs s_times_in) (defBody s_times_in) (defScope s_times_in) .none kV_times_in dc_times_in pm_times_in an_times_in cd_times_in ct_times_in), sl_times_in⟩) (c_times_in : PySem.W.codeIn K cd_times_in "times_in" = true) (k_times_in : PySem.W.keepIn K (.ref f_times_in) = true)
    {od_over_in an_over_in : Option Addr} {sl_over_in : Array (Option Value)} {oc_over_in kV_over_in dc_over_in pm_over_in cd_over_in ct_over_in : Value}
    (a_over_in : PySem.W.nsIn K mainGlobals "over_in" = some (some (.ref f_over_in))) (l_over_in : K.lookup f_over_in = some ⟨oc_over_in, od_over_in, .func (PySem.W.fnOf "over_in" "over_in" (defArgs s_over_in) (defBody s_over_in) (defScope s_over_in) .none kV_over_in dc_over_in pm_over_in an_over_in cd_over_in ct_over_in), sl_over_in⟩) (c_over_in : PySem.W.codeIn K cd_over_in "over_in" = true) (k_over_in : PySem.W.keepIn K (.ref f_over_in) = true)
    {od_less_in an_less_in : Option Addr} {sl_less_in : Array (Option Value)} {oc_less_in kV_less_in dc_less_in pm_less_in cd_less_in ct_less_in : Value}
    (a_less_in : PySem.W.nsIn K mainGlobals "less_in" = some (some (.ref f_less_in))) (l_less_in : K.lookup f_less_in = some ⟨oc_less_in, od_less_in, .func (PySem.W.fnOf "less_in" "less_in" (defArgs s_less_in) (defBody s_less_in) (defScope s_less_in) .none kV_less_in dc_less_in pm_less_in an_less_in cd_less_in ct_less_in), sl_less_in⟩) (c_less_in : PySem.W.codeIn K cd_less_in "less_in" = true) (k_less_in : PySem.W.keepIn K (.ref f_less_in) = true)
    {od_scale_in an_scale_in : Option Addr} {sl_scale_in : Array (Option Value)} {oc_scale_in kV_scale_in dc_scale_in pm_scale_in cd_scale_in ct_scale_in : Value}
    (a_scale_in : PySem.W.nsIn K mainGlobals "scale_in" = some (some (.ref f_scale_in))) (l_scale_in : K.lookup f_scale_in = some ⟨oc_scale_in, od_scale_in, .func (PySem.W.fnOf "scale_in" "scale_in" (defArgs s_scale_in) (defBody s_scale_in) (defScope s_scale_in) .none kV_scale_in dc_scale_in pm_scale_in an_scale_in cd_scale_in ct_scale_in), sl_scale_in⟩) (c_scale_in : PySem.W.codeIn K cd_scale_in "scale_in" = true) (k_scale_in : PySem.W.keepIn K (.ref f_scale_in) = true)
    {od_check_polynomial an_check_polynomial : Option Addr} {sl_check_polynomial : Array (Option Value)} {oc_check_polynomial kV_check_polynomial dc_check_polynomial pm_check_polynomial cd_check_polynomial ct_check_polynomial : Value}
    (a_check_polynomial : PySem.W.nsIn K mainGlobals "check_polynomial" = some (some (.ref f_check_polynomial))) (l_check_polynomial : K.lookup f_check_polynomial = some ⟨oc_check_polynomial, od_check_polynomial, .func (PySem.W.fnOf "check_polynomial" "check_polynomial" (defArgs s_check_polynomial) (defBody s_check_polynomial) (defScope s_check_polynomial) .none kV_check_polynomial dc_check_polynomial pm_check_polynomial an_check_polynomial cd_check_polynomial ct_check_polynomial), sl_check_polynomial⟩) (c_check_polynomial : PySem.W.codeIn K cd_check_polynomial "check_polynomial" = true) (k_check_polynomial : PySem.W.keepIn K (.ref f_check_polynomial) = true)
    {od_monic_in an_monic_in : Option Addr} {sl_monic_in : Array (Option Value)} {oc_monic_in kV_monic_in dc_monic_in pm_monic_in cd_monic_in ct_monic_in : Value}
    (a_monic_in : PySem.W.nsIn K mainGlobals "monic_in" = some (some (.ref f_monic_in))) (l_monic_in : K.lookup f_monic_in = some ⟨oc_monic_in, od_monic_in, .func (PySem.W.fnOf "monic_in" "monic_in" (defArgs s_monic_in) (defBody s_monic_in) (defScope s_monic_in) .none kV_monic_in dc_monic_in pm_monic_in an_monic_in cd_monic_in ct_monic_in), sl_monic_in⟩) (c_monic_in : PySem.W.codeIn K cd_monic_in "monic_in" = true) (k_monic_in : PySem.W.keepIn K (.ref f_monic_in) = true)
    {od_is_open an_is_open : Option Addr} {sl_is_open : Array (Option Value)} {oc_is_open kV_is_open dc_is_open pm_is_open cd_is_open ct_is_open : Value}
    (a_is_open : PySem.W.nsIn K mainGlobals "is_open" = some (some (.ref f_is_open))) (l_is_open : K.lookup f_is_open = some ⟨oc_is_open, od_is_open, .func (PySem.W.fnOf "is_open" "is_open" (defArgs s_is_open) (defBody s_is_open) (defScope s_is_open) .none kV_is_open dc_is_open pm_is_open an_is_open cd_is_open ct_is_open), sl_is_open⟩) (c_is_open : PySem.W.codeIn K cd_is_open "is_open" = true) (k_is_open : PySem.W.keepIn K (.ref f_is_open) = true)
    {od_next_in an_next_in : Option Addr} {sl_next_in : Array (Option Value)} {oc_next_in kV_next_in dc_next_in pm_next_in cd_next_in ct_next_in : Value}
    (a_next_in : PySem.W.nsIn K mainGlobals "next_in" = some (some (.ref f_next_in))) (l_next_in : K.lookup f_next_in = some ⟨oc_next_in, od_next_in, .func (PySem.W.fnOf "next_in" "next_in" (defArgs s_next_in) (defBody s_next_in) (defScope s_next_in) .none kV_next_in dc_next_in pm_next_in an_next_in cd_next_in ct_next_in), sl_next_in⟩) (c_next_in : PySem.W.codeIn K cd_next_in "next_in" = true) (k_next_in : PySem.W.keepIn K (.ref f_next_in) = true)
    {od_circle_in an_circle_in : Option Addr} {sl_circle_in : Array (Option Value)} {oc_circle_in kV_circle_in dc_circle_in pm_circle_in cd_circle_in ct_circle_in : Value}
    (a_circle_in : PySem.W.nsIn K mainGlobals "circle_in" = some (some (.ref f_circle_in))) (l_circle_in : K.lookup f_circle_in = some ⟨oc_circle_in, od_circle_in, .func (PySem.W.fnOf "circle_in" "circle_in" (defArgs s_circle_in) (defBody s_circle_in) (defScope s_circle_in) .none kV_circle_in dc_circle_in pm_circle_in an_circle_in cd_circle_in ct_circle_in), sl_circle_in⟩) (c_circle_in : PySem.W.codeIn K cd_circle_in "circle_in" = true) (k_circle_in : PySem.W.keepIn K (.ref f_circle_in) = true)
    {od_is_within_in an_is_within_in : Option Addr} {sl_is_within_in : Array (Option Value)} {oc_is_within_in kV_is_within_in dc_is_within_in pm_is_within_in cd_is_within_in ct_is_within_in : Value}
    (a_is_within_in : PySem.W.nsIn K mainGlobals "is_within_in" = some (some (.ref f_is_within_in))) (l_is_within_in : K.lookup f_is_within_in = some ⟨oc_is_within_in, od_is_within_in, .func (PySem.W.fnOf "is_within_in" "is_within_in" (defArgs s_is_within_in) (defBody s_is_within_in) (defScope s_is_within_in) .none kV_is_within_in dc_is_within_in pm_is_within_in an_is_within_in cd_is_within_in ct_is_within_in), sl_is_within_in⟩) (c_is_within_in : PySem.W.codeIn K cd_is_within_in "is_within_in" = true) (k_is_within_in : PySem.W.keepIn K (.ref f_is_within_in) = true)
    {od_circle_rows an_circle_rows : Option Addr} {sl_circle_rows : Array (Option Value)} {oc_circle_rows kV_circle_rows dc_circle_rows pm_circle_rows cd_circle_rows ct_circle_rows : Value}
    (a_circle_rows : PySem.W.nsIn K mainGlobals "circle_rows" = some (some (.ref f_circle_rows))) (l_circle_rows : K.lookup f_circle_rows = some ⟨oc_circle_rows, od_circle_rows, .func (PySem.W.fnOf "circle_rows" "circle_rows" (defArgs s_circle_rows) (defBody s_circle_rows) (defScope s_circle_rows) .none kV_circle_rows dc_circle_rows pm_circle_rows an_circle_rows cd_circle_rows ct_circle_rows), sl_circle_rows⟩) (c_circle_rows : PySem.W.codeIn K cd_circle_rows "circle_rows" = true) (k_circle_rows : PySem.W.keepIn K (.ref f_circle_rows) = true)
    {od_is_within an_is_within : Option Addr} {sl_is_within : Array (Option Value)} {oc_is_within kV_is_within dc_is_within pm_is_within cd_is_within ct_is_within : Value}
    (a_is_within : PySem.W.nsIn K mainGlobals "is_within" = some (some (.ref f_is_within))) (l_is_within : K.lookup f_is_within = some ⟨oc_is_within, od_is_within, .func (PySem.W.fnOf "is_within" "is_within" (defArgs s_is_within) (defBody s_is_within) (defScope s_is_within) .none kV_is_within dc_is_within pm_is_within an_is_within cd_is_within ct_is_within), sl_is_within⟩) (c_is_within : PySem.W.codeIn K cd_is_within "is_within" = true) (k_is_within : PySem.W.keepIn K (.ref f_is_within) = true)
    {od_is_circle_rows an_is_circle_rows : Option Addr} {sl_is_circle_rows : Array (Option Value)} {oc_is_circle_rows kV_is_circle_rows dc_is_circle_rows pm_is_circle_rows cd_is_circle_rows ct_is_circle_rows : Value}
    (a_is_circle_rows : PySem.W.nsIn K mainGlobals "is_circle_rows" = some (some (.ref f_is_circle_rows))) (l_is_circle_rows : K.lookup f_is_circle_rows = some ⟨oc_is_circle_rows, od_is_circle_rows, .func (PySem.W.fnOf "is_circle_rows" "is_circle_rows" (defArgs s_is_circle_rows) (defBody s_is_circle_rows) (defScope s_is_circle_rows) .none kV_is_circle_rows dc_is_circle_rows pm_is_circle_rows an_is_circle_rows cd_is_circle_rows ct_is_circle_rows), sl_is_circle_rows⟩) (c_is_circle_rows : PySem.W.codeIn K cd_is_circle_rows "is_circle_rows" = true) (k_is_circle_rows : PySem.W.keepIn K (.ref f_is_circle_rows) = true)
    {od__law_jar an__law_jar : Option Addr} {sl__law_jar : Array (Option Value)} {oc__law_jar kV__law_jar dc__law_jar pm__law_jar cd__law_jar ct__law_jar : Value}
    (a__law_jar : PySem.W.nsIn K mainGlobals "_law_jar" = some (some (.ref f__law_jar))) (l__law_jar : K.lookup f__law_jar = some ⟨oc__law_jar, od__law_jar, .func (PySem.W.fnOf "_law_jar" "_law_jar" (defArgs s__law_jar) (defBody s__law_jar) (defScope s__law_jar) .none kV__law_jar dc__law_jar pm__law_jar an__law_jar cd__law_jar ct__law_jar), sl__law_jar⟩) (c__law_jar : PySem.W.codeIn K cd__law_jar "_law_jar" = true) (k__law_jar : PySem.W.keepIn K (.ref f__law_jar) = true)
    {od__law_next an__law_next : Option Addr} {sl__law_next : Array (Option Value)} {oc__law_next kV__law_next dc__law_next pm__law_next cd__law_next ct__law_next : Value}
    (a__law_next : PySem.W.nsIn K mainGlobals "_law_next" = some (some (.ref f__law_next))) (l__law_next : K.lookup f__law_next = some ⟨oc__law_next, od__law_next, .func (PySem.W.fnOf "_law_next" "_law_next" (defArgs s__law_next) (defBody s__law_next) (defScope s__law_next) .none kV__law_next dc__law_next pm__law_next an__law_next cd__law_next ct__law_next), sl__law_next⟩) (c__law_next : PySem.W.codeIn K cd__law_next "_law_next" = true) (k__law_next : PySem.W.keepIn K (.ref f__law_next) = true)
    {od__law_pick an__law_pick : Option Addr} {sl__law_pick : Array (Option Value)} {oc__law_pick kV__law_pick dc__law_pick pm__law_pick cd__law_pick ct__law_pick : Value}
    (a__law_pick : PySem.W.nsIn K mainGlobals "_law_pick" = some (some (.ref f__law_pick))) (l__law_pick : K.lookup f__law_pick = some ⟨oc__law_pick, od__law_pick, .func (PySem.W.fnOf "_law_pick" "_law_pick" (defArgs s__law_pick) (defBody s__law_pick) (defScope s__law_pick) .none kV__law_pick dc__law_pick pm__law_pick an__law_pick cd__law_pick ct__law_pick), sl__law_pick⟩) (c__law_pick : PySem.W.codeIn K cd__law_pick "_law_pick" = true) (k__law_pick : PySem.W.keepIn K (.ref f__law_pick) = true)
    {od__law_equal an__law_equal : Option Addr} {sl__law_equal : Array (Option Value)} {oc__law_equal kV__law_equal dc__law_equal pm__law_equal cd__law_equal ct__law_equal : Value}
    (a__law_equal : PySem.W.nsIn K mainGlobals "_law_equal" = some (some (.ref f__law_equal))) (l__law_equal : K.lookup f__law_equal = some ⟨oc__law_equal, od__law_equal, .func (PySem.W.fnOf "_law_equal" "_law_equal" (defArgs s__law_equal) (defBody s__law_equal) (defScope s__law_equal) .none kV__law_equal dc__law_equal pm__law_equal an__law_equal cd__law_equal ct__law_equal), sl__law_equal⟩) (c__law_equal : PySem.W.codeIn K cd__law_equal "_law_equal" = true) (k__law_equal : PySem.W.keepIn K (.ref f__law_equal) = true)
    {od__law_odd an__law_odd : Option Addr} {sl__law_odd : Array (Option Value)} {oc__law_odd kV__law_odd dc__law_odd pm__law_odd cd__law_odd ct__law_odd : Value}
    (a__law_odd : PySem.W.nsIn K mainGlobals "_law_odd" = some (some (.ref f__law_odd))) (l__law_odd : K.lookup f__law_odd = some ⟨oc__law_odd, od__law_odd, .func (PySem.W.fnOf "_law_odd" "_law_odd" (defArgs s__law_odd) (defBody s__law_odd) (defScope s__law_odd) .none kV__law_odd dc__law_odd pm__law_odd an__law_odd cd__law_odd ct__law_odd), sl__law_odd⟩) (c__law_odd : PySem.W.codeIn K cd__law_odd "_law_odd" = true) (k__law_odd : PySem.W.keepIn K (.ref f__law_odd) = true)
    {od__law_frac an__law_frac : Option Addr} {sl__law_frac : Array (Option Value)} {oc__law_frac kV__law_frac dc__law_frac pm__law_frac cd__law_frac ct__law_frac : Value}
    (a__law_frac : PySem.W.nsIn K mainGlobals "_law_frac" = some (some (.ref f__law_frac))) (l__law_frac : K.lookup f__law_frac = some ⟨oc__law_frac, od__law_frac, .func (PySem.W.fnOf "_law_frac" "_law_frac" (defArgs s__law_frac) (defBody s__law_frac) (defScope s__law_frac) .none kV__law_frac dc__law_frac pm__law_frac an__law_frac cd__law_frac ct__law_frac), sl__law_frac⟩) (c__law_frac : PySem.W.codeIn K cd__law_frac "_law_frac" = true) (k__law_frac : PySem.W.keepIn K (.ref f__law_frac) = true)
    {od__law_plus an__law_plus : Option Addr} {sl__law_plus : Array (Option Value)} {oc__law_plus kV__law_plus dc__law_plus pm__law_plus cd__law_plus ct__law_plus : Value}
    (a__law_plus : PySem.W.nsIn K mainGlobals "_law_plus" = some (some (.ref f__law_plus))) (l__law_plus : K.lookup f__law_plus = some ⟨oc__law_plus, od__law_plus, .func (PySem.W.fnOf "_law_plus" "_law_plus" (defArgs s__law_plus) (defBody s__law_plus) (defScope s__law_plus) .none kV__law_plus dc__law_plus pm__law_plus an__law_plus cd__law_plus ct__law_plus), sl__law_plus⟩) (c__law_plus : PySem.W.codeIn K cd__law_plus "_law_plus" = true) (k__law_plus : PySem.W.keepIn K (.ref f__law_plus) = true)
    {od__law_take an__law_take : Option Addr} {sl__law_take : Array (Option Value)} {oc__law_take kV__law_take dc__law_take pm__law_take cd__law_take ct__law_take : Value}
    (a__law_take : PySem.W.nsIn K mainGlobals "_law_take" = some (some (.ref f__law_take))) (l__law_take : K.lookup f__law_take = some ⟨oc__law_take, od__law_take, .func (PySem.W.fnOf "_law_take" "_law_take" (defArgs s__law_take) (defBody s__law_take) (defScope s__law_take) .none kV__law_take dc__law_take pm__law_take an__law_take cd__law_take ct__law_take), sl__law_take⟩) (c__law_take : PySem.W.codeIn K cd__law_take "_law_take" = true) (k__law_take : PySem.W.keepIn K (.ref f__law_take) = true)
    {od__law_mul an__law_mul : Option Addr} {sl__law_mul : Array (Option Value)} {oc__law_mul kV__law_mul dc__law_mul pm__law_mul cd__law_mul ct__law_mul : Value}
    (a__law_mul : PySem.W.nsIn K mainGlobals "_law_mul" = some (some (.ref f__law_mul))) (l__law_mul : K.lookup f__law_mul = some ⟨oc__law_mul, od__law_mul, .func (PySem.W.fnOf "_law_mul" "_law_mul" (defArgs s__law_mul) (defBody s__law_mul) (defScope s__law_mul) .none kV__law_mul dc__law_mul pm__law_mul an__law_mul cd__law_mul ct__law_mul), sl__law_mul⟩) (c__law_mul : PySem.W.codeIn K cd__law_mul "_law_mul" = true) (k__law_mul : PySem.W.keepIn K (.ref f__law_mul) = true)
    {od__law_number an__law_number : Option Addr} {sl__law_number : Array (Option Value)} {oc__law_number kV__law_number dc__law_number pm__law_number cd__law_number ct__law_number : Value}
    (a__law_number : PySem.W.nsIn K mainGlobals "_law_number" = some (some (.ref f__law_number))) (l__law_number : K.lookup f__law_number = some ⟨oc__law_number, od__law_number, .func (PySem.W.fnOf "_law_number" "_law_number" (defArgs s__law_number) (defBody s__law_number) (defScope s__law_number) .none kV__law_number dc__law_number pm__law_number an__law_number cd__law_number ct__law_number), sl__law_number⟩) (c__law_number : PySem.W.codeIn K cd__law_number "_law_number" = true) (k__law_number : PySem.W.keepIn K (.ref f__law_number) = true)
    {od__law_times an__law_times : Option Addr} {sl__law_times : Array (Option Value)} {oc__law_times kV__law_times dc__law_times pm__law_times cd__law_times ct__law_times : Value}
    (a__law_times : PySem.W.nsIn K mainGlobals "_law_times" = some (some (.ref f__law_times))) (l__law_times : K.lookup f__law_times = some ⟨oc__law_times, od__law_times, .func (PySem.W.fnOf "_law_times" "_law_times" (defArgs s__law_times) (defBody s__law_times) (defScope s__law_times) .none kV__law_times dc__law_times pm__law_times an__law_times cd__law_times ct__law_times), sl__law_times⟩) (c__law_times : PySem.W.codeIn K cd__law_times "_law_times" = true) (k__law_times : PySem.W.keepIn K (.ref f__law_times) = true)
    {od__law_less an__law_less : Option Addr} {sl__law_less : Array (Option Value)} {oc__law_less kV__law_less dc__law_less pm__law_less cd__law_less ct__law_less : Value}
    (a__law_less : PySem.W.nsIn K mainGlobals "_law_less" = some (some (.ref f__law_less))) (l__law_less : K.lookup f__law_less = some ⟨oc__law_less, od__law_less, .func (PySem.W.fnOf "_law_less" "_law_less" (defArgs s__law_less) (defBody s__law_less) (defScope s__law_less) .none kV__law_less dc__law_less pm__law_less an__law_less cd__law_less ct__law_less), sl__law_less⟩) (c__law_less : PySem.W.codeIn K cd__law_less "_law_less" = true) (k__law_less : PySem.W.keepIn K (.ref f__law_less) = true)
    {od__law_inside an__law_inside : Option Addr} {sl__law_inside : Array (Option Value)} {oc__law_inside kV__law_inside dc__law_inside pm__law_inside cd__law_inside ct__law_inside : Value}
    (a__law_inside : PySem.W.nsIn K mainGlobals "_law_inside" = some (some (.ref f__law_inside))) (l__law_inside : K.lookup f__law_inside = some ⟨oc__law_inside, od__law_inside, .func (PySem.W.fnOf "_law_inside" "_law_inside" (defArgs s__law_inside) (defBody s__law_inside) (defScope s__law_inside) .none kV__law_inside dc__law_inside pm__law_inside an__law_inside cd__law_inside ct__law_inside), sl__law_inside⟩) (c__law_inside : PySem.W.codeIn K cd__law_inside "_law_inside" = true) (k__law_inside : PySem.W.keepIn K (.ref f__law_inside) = true)
    {od__law_factor an__law_factor : Option Addr} {sl__law_factor : Array (Option Value)} {oc__law_factor kV__law_factor dc__law_factor pm__law_factor cd__law_factor ct__law_factor : Value}
    (a__law_factor : PySem.W.nsIn K mainGlobals "_law_factor" = some (some (.ref f__law_factor))) (l__law_factor : K.lookup f__law_factor = some ⟨oc__law_factor, od__law_factor, .func (PySem.W.fnOf "_law_factor" "_law_factor" (defArgs s__law_factor) (defBody s__law_factor) (defScope s__law_factor) .none kV__law_factor dc__law_factor pm__law_factor an__law_factor cd__law_factor ct__law_factor), sl__law_factor⟩) (c__law_factor : PySem.W.codeIn K cd__law_factor "_law_factor" = true) (k__law_factor : PySem.W.keepIn K (.ref f__law_factor) = true)
    {od__law_rows an__law_rows : Option Addr} {sl__law_rows : Array (Option Value)} {oc__law_rows kV__law_rows dc__law_rows pm__law_rows cd__law_rows ct__law_rows : Value}
    (a__law_rows : PySem.W.nsIn K mainGlobals "_law_rows" = some (some (.ref f__law_rows))) (l__law_rows : K.lookup f__law_rows = some ⟨oc__law_rows, od__law_rows, .func (PySem.W.fnOf "_law_rows" "_law_rows" (defArgs s__law_rows) (defBody s__law_rows) (defScope s__law_rows) .none kV__law_rows dc__law_rows pm__law_rows an__law_rows cd__law_rows ct__law_rows), sl__law_rows⟩) (c__law_rows : PySem.W.codeIn K cd__law_rows "_law_rows" = true) (k__law_rows : PySem.W.keepIn K (.ref f__law_rows) = true)
    {od__law_bends an__law_bends : Option Addr} {sl__law_bends : Array (Option Value)} {oc__law_bends kV__law_bends dc__law_bends pm__law_bends cd__law_bends ct__law_bends : Value}
    (a__law_bends : PySem.W.nsIn K mainGlobals "_law_bends" = some (some (.ref f__law_bends))) (l__law_bends : K.lookup f__law_bends = some ⟨oc__law_bends, od__law_bends, .func (PySem.W.fnOf "_law_bends" "_law_bends" (defArgs s__law_bends) (defBody s__law_bends) (defScope s__law_bends) .none kV__law_bends dc__law_bends pm__law_bends an__law_bends cd__law_bends ct__law_bends), sl__law_bends⟩) (c__law_bends : PySem.W.codeIn K cd__law_bends "_law_bends" = true) (k__law_bends : PySem.W.keepIn K (.ref f__law_bends) = true)
    {od_law an_law : Option Addr} {sl_law : Array (Option Value)} {oc_law kV_law dc_law pm_law cd_law ct_law : Value}
    (a_law : PySem.W.nsIn K mainGlobals "law" = some (some (.ref f_law))) (l_law : K.lookup f_law = some ⟨oc_law, od_law, .func (PySem.W.fnOf "law" "law" (defArgs s_law) (defBody s_law) (defScope s_law) .none kV_law dc_law pm_law an_law cd_law ct_law), sl_law⟩) (c_law : PySem.W.codeIn K cd_law "law" = true) (k_law : PySem.W.keepIn K (.ref f_law) = true)
    (z_isinstance : PySem.W.nsIn K mainGlobals "isinstance" = some none)
    (z_int : PySem.W.nsIn K mainGlobals "int" = some none)
    (z_bool : PySem.W.nsIn K mainGlobals "bool" = some none)
    (z_str : PySem.W.nsIn K mainGlobals "str" = some none)
    (z_tuple : PySem.W.nsIn K mainGlobals "tuple" = some none)
    (z_list : PySem.W.nsIn K mainGlobals "list" = some none)
    (z_len : PySem.W.nsIn K mainGlobals "len" = some none)
    (z_all : PySem.W.nsIn K mainGlobals "all" = some none)
    (z_zip : PySem.W.nsIn K mainGlobals "zip" = some none)
    (z_abs : PySem.W.nsIn K mainGlobals "abs" = some none)
    (z_min : PySem.W.nsIn K mainGlobals "min" = some none)
    (z_max : PySem.W.nsIn K mainGlobals "max" = some none)
    (z_range : PySem.W.nsIn K mainGlobals "range" = some none)
    (z_gcd : PySem.W.nsIn K mainGlobals "gcd" = some (some (.builtin "math.gcd")))
    {od_NOUGHT : Option Addr} {it_NOUGHT : Array Value} {nn_NOUGHT : Nat} {sl_NOUGHT : Array (Option Value)} (z_NOUGHT : PySem.W.nsIn K mainGlobals "NOUGHT" = some (some (.ref aN))) (l_NOUGHT : K.lookup aN = some ⟨.type "tuple", od_NOUGHT, .seq it_NOUGHT nn_NOUGHT, sl_NOUGHT⟩) (v_NOUGHT : it_NOUGHT.size ≤ sizeLine ∧ Vals [V.int 0, V.int 1] it_NOUGHT.toList)
    {od_ONE : Option Addr} {it_ONE : Array Value} {nn_ONE : Nat} {sl_ONE : Array (Option Value)} (z_ONE : PySem.W.nsIn K mainGlobals "ONE" = some (some (.ref aO))) (l_ONE : K.lookup aO = some ⟨.type "tuple", od_ONE, .seq it_ONE nn_ONE, sl_ONE⟩) (v_ONE : it_ONE.size ≤ sizeLine ∧ Vals [V.int 1, V.int 1] it_ONE.toList)
    : ∃ fd : FuncData, (∀ (s : Shared) (v : Value), BindsTo s fd ⟨[v], []⟩ [("script", v)]) ∧ ∀ base : Heap, K.In base → base.Ns mainGlobals mg → FnOk l.prog w K mg base CX0 8 fa fd ["script"] (spLaw K) := by
  have e := hfa.symm.trans (PySem.W.mg_of X G a_law)
  cases e
  have T : Tx K mg aN aO := ⟨PySem.W.mg_none_of X G z_isinstance, PySem.W.mg_none_of X G z_int, PySem.W.mg_none_of X G z_bool, PySem.W.mg_none_of X G z_str, PySem.W.mg_none_of X G z_tuple, PySem.W.mg_none_of X G z_list, PySem.W.mg_none_of X G z_len, PySem.W.mg_none_of X G z_all, PySem.W.mg_none_of X G z_zip, PySem.W.mg_none_of X G z_abs, PySem.W.mg_none_of X G z_min, PySem.W.mg_none_of X G z_max, PySem.W.mg_none_of X G z_range, PySem.W.mg_of X G z_gcd, PySem.W.mg_of X G z_NOUGHT, PySem.W.mg_of X G z_ONE,
    fun B => .tup (.inr ⟨_, it_NOUGHT, nn_NOUGHT, l_NOUGHT, rfl, rfl, v_NOUGHT.1, v_NOUGHT.2⟩) (.cons (.int _) (.cons (.int _) .nil)), fun B => .tup (.inr ⟨_, it_ONE, nn_ONE, l_ONE, rfl, rfl, v_ONE.1, v_ONE.2⟩) (.cons (.int _) (.cons (.int _) .nil))⟩
  have F_is_integer := fun_mk (st := s_is_integer) l_is_integer c_is_integer k_is_integer
  have b_is_integer := F_is_integer.binds (ps := ["thing"]) fun _ _ _ _ _ _ us hl => match us, hl with | [_], _ => rfl
  have F_is_from := fun_mk (st := s_is_from) l_is_from c_is_from k_is_from
  have b_is_from := F_is_from.binds (ps := ["low", "thing"]) fun _ _ _ _ _ _ us hl => match us, hl with | [_, _], _ => rfl
  have F_is_tuple := fun_mk (st := s_is_tuple) l_is_tuple c_is_tuple k_is_tuple
  have b_is_tuple := F_is_tuple.binds (ps := ["many", "thing"]) fun _ _ _ _ _ _ us hl => match us, hl with | [_, _], _ => rfl
  have F_lowest_in := fun_mk (st := s_lowest_in) l_lowest_in c_lowest_in k_lowest_in
  have b_lowest_in := F_lowest_in.binds (ps := ["top", "bottom"]) fun _ _ _ _ _ _ us hl => match us, hl with | [_, _], _ => rfl
  have F_is_fraction := fun_mk (st := s_is_fraction) l_is_fraction c_is_fraction k_is_fraction
  have b_is_fraction := F_is_fraction.binds (ps := ["value"]) fun _ _ _ _ _ _ us hl => match us, hl with | [_], _ => rfl
  have F_is_row := fun_mk (st := s_is_row) l_is_row c_is_row k_is_row
  have b_is_row := F_is_row.binds (ps := ["many", "thing"]) fun _ _ _ _ _ _ us hl => match us, hl with | [_, _], _ => rfl
  have F_is_matrix := fun_mk (st := s_is_matrix) l_is_matrix c_is_matrix k_is_matrix
  have b_is_matrix := F_is_matrix.binds (ps := ["many", "width", "thing"]) fun _ _ _ _ _ _ us hl => match us, hl with | [_, _, _], _ => rfl
  have F_take_in := fun_mk (st := s_take_in) l_take_in c_take_in k_take_in
  have b_take_in := F_take_in.binds (ps := ["one", "other"]) fun _ _ _ _ _ _ us hl => match us, hl with | [_, _], _ => rfl
  have F_times_in := fun_mk (st := s_times_in) l_times_in c_times_in k_times_in
  have b_times_in := F_times_in.binds (ps := ["one", "other"]) fun _ _ _ _ _ _ us hl => match us, hl with | [_, _], _ => rfl
  have F_over_in := fun_mk (st := s_over_in) l_over_in c_over_in k_over_in
  have b_over_in := F_over_in.binds (ps := ["one", "other"]) fun _ _ _ _ _ _ us hl => match us, hl with | [_, _], _ => rfl
  have F_less_in := fun_mk (st := s_less_in) l_less_in c_less_in k_less_in
  have b_less_in := F_less_in.binds (ps := ["one", "other"]) fun _ _ _ _ _ _ us hl => match us, hl with | [_, _], _ => rfl
  have F_scale_in := fun_mk (st := s_scale_in) l_scale_in c_scale_in k_scale_in
  have b_scale_in := F_scale_in.binds (ps := ["row", "fraction"]) fun _ _ _ _ _ _ us hl => match us, hl with | [_, _], _ => rfl
  have F_check_polynomial := fun_mk (st := s_check_polynomial) l_check_polynomial c_check_polynomial k_check_polynomial
  have b_check_polynomial := F_check_polynomial.binds (ps := ["thing"]) fun _ _ _ _ _ _ us hl => match us, hl with | [_], _ => rfl
  have F_monic_in := fun_mk (st := s_monic_in) l_monic_in c_monic_in k_monic_in
  have b_monic_in := F_monic_in.binds (ps := ["one"]) fun _ _ _ _ _ _ us hl => match us, hl with | [_], _ => rfl
  have F_is_open := fun_mk (st := s_is_open) l_is_open c_is_open k_is_open
  have b_is_open := F_is_open.binds (ps := ["polynomial"]) fun _ _ _ _ _ _ us hl => match us, hl with | [_], _ => rfl
  have F_next_in := fun_mk (st := s_next_in) l_next_in c_next_in k_next_in
  have b_next_in := F_next_in.binds (ps := ["polynomial"]) fun _ _ _ _ _ _ us hl => match us, hl with | [_], _ => rfl
  have F_circle_in := fun_mk (st := s_circle_in) l_circle_in c_circle_in k_circle_in
  have b_circle_in := F_circle_in.binds (ps := ["polynomial"]) fun _ _ _ _ _ _ us hl => match us, hl with | [_], _ => rfl
  have F_is_within_in := fun_mk (st := s_is_within_in) l_is_within_in c_is_within_in k_is_within_in
  have b_is_within_in := F_is_within_in.binds (ps := ["polynomial"]) fun _ _ _ _ _ _ us hl => match us, hl with | [_], _ => rfl
  have F_circle_rows := fun_mk (st := s_circle_rows) l_circle_rows c_circle_rows k_circle_rows
  have b_circle_rows := F_circle_rows.binds (ps := ["polynomial"]) fun _ _ _ _ _ _ us hl => match us, hl with | [_], _ => rfl
  have F_is_within := fun_mk (st := s_is_within) l_is_within c_is_within k_is_within
  have b_is_within := F_is_within.binds (ps := ["polynomial"]) fun _ _ _ _ _ _ us hl => match us, hl with | [_], _ => rfl
  have F_is_circle_rows := fun_mk (st := s_is_circle_rows) l_is_circle_rows c_is_circle_rows k_is_circle_rows
  have b_is_circle_rows := F_is_circle_rows.binds (ps := ["polynomial", "value"]) fun _ _ _ _ _ _ us hl => match us, hl with | [_, _], _ => rfl
  have F__law_jar := fun_mk (st := s__law_jar) l__law_jar c__law_jar k__law_jar
  have b__law_jar := F__law_jar.binds (ps := ["script", "at"]) fun _ _ _ _ _ _ us hl => match us, hl with | [_, _], _ => rfl
  have F__law_next := fun_mk (st := s__law_next) l__law_next c__law_next k__law_next
  have b__law_next := F__law_next.binds (ps := ["jar", "many"]) fun _ _ _ _ _ _ us hl => match us, hl with | [_, _], _ => rfl
  have F__law_pick := fun_mk (st := s__law_pick) l__law_pick c__law_pick k__law_pick
  have b__law_pick := F__law_pick.binds (ps := ["jar", "rows"]) fun _ _ _ _ _ _ us hl => match us, hl with | [_, _], _ => rfl
  have F__law_equal := fun_mk (st := s__law_equal) l__law_equal c__law_equal k__law_equal
  have b__law_equal := F__law_equal.binds (ps := ["found", "due"]) fun _ _ _ _ _ _ us hl => match us, hl with | [_, _], _ => rfl
  have F__law_odd := fun_mk (st := s__law_odd) l__law_odd c__law_odd k__law_odd
  have b__law_odd := F__law_odd.binds (ps := ["jar"]) fun _ _ _ _ _ _ us hl => match us, hl with | [_], _ => rfl
  have F__law_frac := fun_mk (st := s__law_frac) l__law_frac c__law_frac k__law_frac
  have b__law_frac := F__law_frac.binds (ps := ["top", "bottom"]) fun _ _ _ _ _ _ us hl => match us, hl with | [_, _], _ => rfl
  have F__law_plus := fun_mk (st := s__law_plus) l__law_plus c__law_plus k__law_plus
  have b__law_plus := F__law_plus.binds (ps := ["one", "other"]) fun _ _ _ _ _ _ us hl => match us, hl with | [_, _], _ => rfl
  have F__law_take := fun_mk (st := s__law_take) l__law_take c__law_take k__law_take
  have b__law_take := F__law_take.binds (ps := ["one", "other"]) fun _ _ _ _ _ _ us hl => match us, hl with | [_, _], _ => rfl
  have F__law_mul := fun_mk (st := s__law_mul) l__law_mul c__law_mul k__law_mul
  have b__law_mul := F__law_mul.binds (ps := ["one", "other"]) fun _ _ _ _ _ _ us hl => match us, hl with | [_, _], _ => rfl
  have F__law_number := fun_mk (st := s__law_number) l__law_number c__law_number k__law_number
  have b__law_number := F__law_number.binds (ps := ["jar"]) fun _ _ _ _ _ _ us hl => match us, hl with | [_], _ => rfl
  have F__law_times := fun_mk (st := s__law_times) l__law_times c__law_times k__law_times
  have b__law_times := F__law_times.binds (ps := ["one", "other"]) fun _ _ _ _ _ _ us hl => match us, hl with | [_, _], _ => rfl
  have F__law_less := fun_mk (st := s__law_less) l__law_less c__law_less k__law_less
  have b__law_less := F__law_less.binds (ps := ["one", "other"]) fun _ _ _ _ _ _ us hl => match us, hl with | [_, _], _ => rfl
  have F__law_inside := fun_mk (st := s__law_inside) l__law_inside c__law_inside k__law_inside
  have b__law_inside := F__law_inside.binds (ps := ["one"]) fun _ _ _ _ _ _ us hl => match us, hl with | [_], _ => rfl
  have F__law_factor := fun_mk (st := s__law_factor) l__law_factor c__law_factor k__law_factor
  have b__law_factor := F__law_factor.binds (ps := ["jar"]) fun _ _ _ _ _ _ us hl => match us, hl with | [_], _ => rfl
  have F__law_rows := fun_mk (st := s__law_rows) l__law_rows c__law_rows k__law_rows
  have b__law_rows := F__law_rows.binds (ps := ["polynomial"]) fun _ _ _ _ _ _ us hl => match us, hl with | [_], _ => rfl
  have F__law_bends := fun_mk (st := s__law_bends) l__law_bends c__law_bends k__law_bends
  have b__law_bends := F__law_bends.binds (ps := ["jar", "rows"]) fun _ _ _ _ _ _ us hl => match us, hl with | [_, _], _ => rfl
  have F_law := fun_mk (st := s_law) l_law c_law k_law
  refine ⟨PySem.W.fnOf "law" "law" (defArgs s_law) (defBody s_law) (defScope s_law) .none kV_law dc_law pm_law an_law cd_law ct_law, fun s v => .of_eq rfl, fun base _ _ => ?_⟩
  have r__law_jar := ok_law_jar (P := l.prog) (w := w) (base := base) T F__law_jar 
  have q__law_jar : DL.Cal l.prog w K mg base "_law_jar" _ _ _ f__law_jar _ := ⟨r__law_jar, PySem.W.mg_of X G a__law_jar, k__law_jar, b__law_jar⟩
  have r__law_next := ok_law_next (P := l.prog) (w := w) (base := base) T F__law_next 
  have q__law_next : DL.Cal l.prog w K mg base "_law_next" _ _ _ f__law_next _ := ⟨r__law_next, PySem.W.mg_of X G a__law_next, k__law_next, b__law_next⟩
  have r__law_pick := ok_law_pick (P := l.prog) (w := w) (base := base) T F__law_pick q__law_next
  have q__law_pick : DL.Cal l.prog w K mg base "_law_pick" _ _ _ f__law_pick _ := ⟨r__law_pick, PySem.W.mg_of X G a__law_pick, k__law_pick, b__law_pick⟩
  have r__law_inside := ok_law_inside (P := l.prog) (w := w) (base := base) T F__law_inside 
  have q__law_inside : DL.Cal l.prog w K mg base "_law_inside" _ _ _ f__law_inside _ := ⟨r__law_inside, PySem.W.mg_of X G a__law_inside, k__law_inside, b__law_inside⟩
  have r__law_less := ok_law_less (P := l.prog) (w := w) (base := base) (mg := mg) F__law_less 
  have q__law_less : DL.Cal l.prog w K mg base "_law_less" _ _ _ f__law_less _ := ⟨r__law_less, PySem.W.mg_of X G a__law_less, k__law_less, b__law_less⟩
  have r__law_frac := ok_law_frac (P := l.prog) (w := w) (base := base) T F__law_frac 
  have q__law_frac : DL.Cal l.prog w K mg base "_law_frac" _ _ _ f__law_frac _ := ⟨r__law_frac, PySem.W.mg_of X G a__law_frac, k__law_frac, b__law_frac⟩
  have r__law_plus := ok_law_plus (P := l.prog) (w := w) (base := base) (mg := mg) F__law_plus q__law_frac
  have q__law_plus : DL.Cal l.prog w K mg base "_law_plus" _ _ _ f__law_plus _ := ⟨r__law_plus, PySem.W.mg_of X G a__law_plus, k__law_plus, b__law_plus⟩
  have r__law_factor := ok_law_factor (P := l.prog) (w := w) (base := base) T F__law_factor q__law_pick q__law_next q__law_inside q__law_less q__law_plus
  have q__law_factor : DL.Cal l.prog w K mg base "_law_factor" _ _ _ f__law_factor _ := ⟨r__law_factor, PySem.W.mg_of X G a__law_factor, k__law_factor, b__law_factor⟩
  have r__law_mul := ok_law_mul (P := l.prog) (w := w) (base := base) (mg := mg) F__law_mul q__law_frac
  have q__law_mul : DL.Cal l.prog w K mg base "_law_mul" _ _ _ f__law_mul _ := ⟨r__law_mul, PySem.W.mg_of X G a__law_mul, k__law_mul, b__law_mul⟩
  have r__law_times := ok_law_times (P := l.prog) (w := w) (base := base) T F__law_times q__law_plus q__law_mul
  have q__law_times : DL.Cal l.prog w K mg base "_law_times" _ _ _ f__law_times _ := ⟨r__law_times, PySem.W.mg_of X G a__law_times, k__law_times, b__law_times⟩
  have r__law_number := ok_law_number (P := l.prog) (w := w) (base := base) T F__law_number q__law_pick q__law_next q__law_frac
  have q__law_number : DL.Cal l.prog w K mg base "_law_number" _ _ _ f__law_number _ := ⟨r__law_number, PySem.W.mg_of X G a__law_number, k__law_number, b__law_number⟩
  have r__law_take := ok_law_take (P := l.prog) (w := w) (base := base) (mg := mg) F__law_take q__law_frac
  have q__law_take : DL.Cal l.prog w K mg base "_law_take" _ _ _ f__law_take _ := ⟨r__law_take, PySem.W.mg_of X G a__law_take, k__law_take, b__law_take⟩
  have r__law_rows := ok_law_rows (P := l.prog) (w := w) (base := base) T F__law_rows q__law_frac q__law_inside q__law_take q__law_mul
  have q__law_rows : DL.Cal l.prog w K mg base "_law_rows" _ _ _ f__law_rows _ := ⟨r__law_rows, PySem.W.mg_of X G a__law_rows, k__law_rows, b__law_rows⟩
  have r__law_equal := ok_law_equal (P := l.prog) (w := w) (base := base) T F__law_equal (PySem.W.mg_of X G a__law_equal) k__law_equal b__law_equal 5
  have q__law_equal : DL.Cal l.prog w K mg base "_law_equal" _ _ _ f__law_equal _ := ⟨r__law_equal, PySem.W.mg_of X G a__law_equal, k__law_equal, b__law_equal⟩
  have r_lowest_in := ok_lowest_in (P := l.prog) (w := w) (base := base) T F_lowest_in 
  have q_lowest_in : DL.Cal l.prog w K mg base "lowest_in" _ _ _ f_lowest_in _ := ⟨r_lowest_in, PySem.W.mg_of X G a_lowest_in, k_lowest_in, b_lowest_in⟩
  have r_times_in := ok_times_in (P := l.prog) (w := w) (base := base) (mg := mg) F_times_in q_lowest_in
  have q_times_in : DL.Cal l.prog w K mg base "times_in" _ _ _ f_times_in _ := ⟨r_times_in, PySem.W.mg_of X G a_times_in, k_times_in, b_times_in⟩
  have r_scale_in := ok_scale_in (P := l.prog) (w := w) (base := base) T F_scale_in q_times_in
  have q_scale_in : DL.Cal l.prog w K mg base "scale_in" _ _ _ f_scale_in _ := ⟨r_scale_in, PySem.W.mg_of X G a_scale_in, k_scale_in, b_scale_in⟩
  have r_over_in := ok_over_in (P := l.prog) (w := w) (base := base) (mg := mg) F_over_in q_lowest_in
  have q_over_in : DL.Cal l.prog w K mg base "over_in" _ _ _ f_over_in _ := ⟨r_over_in, PySem.W.mg_of X G a_over_in, k_over_in, b_over_in⟩
  have r_monic_in := ok_monic_in (P := l.prog) (w := w) (base := base) T F_monic_in q_scale_in q_over_in
  have q_monic_in : DL.Cal l.prog w K mg base "monic_in" _ _ _ f_monic_in _ := ⟨r_monic_in, PySem.W.mg_of X G a_monic_in, k_monic_in, b_monic_in⟩
  have r_less_in := ok_less_in (P := l.prog) (w := w) (base := base) (mg := mg) F_less_in 
  have q_less_in : DL.Cal l.prog w K mg base "less_in" _ _ _ f_less_in _ := ⟨r_less_in, PySem.W.mg_of X G a_less_in, k_less_in, b_less_in⟩
  have r_is_open := ok_is_open (P := l.prog) (w := w) (base := base) T F_is_open q_less_in
  have q_is_open : DL.Cal l.prog w K mg base "is_open" _ _ _ f_is_open _ := ⟨r_is_open, PySem.W.mg_of X G a_is_open, k_is_open, b_is_open⟩
  have r_take_in := ok_take_in (P := l.prog) (w := w) (base := base) (mg := mg) F_take_in q_lowest_in
  have q_take_in : DL.Cal l.prog w K mg base "take_in" _ _ _ f_take_in _ := ⟨r_take_in, PySem.W.mg_of X G a_take_in, k_take_in, b_take_in⟩
  have r_next_in := ok_next_in (P := l.prog) (w := w) (base := base) T F_next_in q_take_in q_times_in q_over_in
  have q_next_in : DL.Cal l.prog w K mg base "next_in" _ _ _ f_next_in _ := ⟨r_next_in, PySem.W.mg_of X G a_next_in, k_next_in, b_next_in⟩
  have r_circle_in := ok_circle_in (P := l.prog) (w := w) (base := base) T F_circle_in q_monic_in q_is_open q_next_in
  have q_circle_in : DL.Cal l.prog w K mg base "circle_in" _ _ _ f_circle_in _ := ⟨r_circle_in, PySem.W.mg_of X G a_circle_in, k_circle_in, b_circle_in⟩
  have r_is_within_in := ok_is_within_in (P := l.prog) (w := w) (base := base) T F_is_within_in q_circle_in
  have q_is_within_in : DL.Cal l.prog w K mg base "is_within_in" _ _ _ f_is_within_in _ := ⟨r_is_within_in, PySem.W.mg_of X G a_is_within_in, k_is_within_in, b_is_within_in⟩
  have r_is_integer := ok_is_integer (P := l.prog) (w := w) (base := base) T F_is_integer 
  have q_is_integer : DL.Cal l.prog w K mg base "is_integer" _ _ _ f_is_integer _ := ⟨r_is_integer, PySem.W.mg_of X G a_is_integer, k_is_integer, b_is_integer⟩
  have r_is_from := ok_is_from (P := l.prog) (w := w) (base := base) T F_is_from q_is_integer
  have q_is_from : DL.Cal l.prog w K mg base "is_from" _ _ _ f_is_from _ := ⟨r_is_from, PySem.W.mg_of X G a_is_from, k_is_from, b_is_from⟩
  have r_is_tuple := ok_is_tuple (P := l.prog) (w := w) (base := base) T F_is_tuple 
  have q_is_tuple : DL.Cal l.prog w K mg base "is_tuple" _ _ _ f_is_tuple _ := ⟨r_is_tuple, PySem.W.mg_of X G a_is_tuple, k_is_tuple, b_is_tuple⟩
  have r_is_fraction := ok_is_fraction (P := l.prog) (w := w) (base := base) T F_is_fraction q_is_integer q_is_from q_is_tuple
  have q_is_fraction : DL.Cal l.prog w K mg base "is_fraction" _ _ _ f_is_fraction _ := ⟨r_is_fraction, PySem.W.mg_of X G a_is_fraction, k_is_fraction, b_is_fraction⟩
  have r_is_row := ok_is_row (P := l.prog) (w := w) (base := base) T F_is_row q_is_fraction q_is_tuple
  have q_is_row : DL.Cal l.prog w K mg base "is_row" _ _ _ f_is_row _ := ⟨r_is_row, PySem.W.mg_of X G a_is_row, k_is_row, b_is_row⟩
  have r_check_polynomial := ok_check_polynomial (P := l.prog) (w := w) (base := base) T F_check_polynomial q_is_row
  have q_check_polynomial : DL.Cal l.prog w K mg base "check_polynomial" _ _ _ f_check_polynomial _ := ⟨r_check_polynomial, PySem.W.mg_of X G a_check_polynomial, k_check_polynomial, b_check_polynomial⟩
  have r_is_within := ok_is_within (P := l.prog) (w := w) (base := base) (mg := mg) F_is_within q_is_within_in q_check_polynomial
  have q_is_within : DL.Cal l.prog w K mg base "is_within" _ _ _ f_is_within _ := ⟨r_is_within, PySem.W.mg_of X G a_is_within, k_is_within, b_is_within⟩
  have r_circle_rows := ok_circle_rows (P := l.prog) (w := w) (base := base) (mg := mg) F_circle_rows q_circle_in q_check_polynomial
  have q_circle_rows : DL.Cal l.prog w K mg base "circle_rows" _ _ _ f_circle_rows _ := ⟨r_circle_rows, PySem.W.mg_of X G a_circle_rows, k_circle_rows, b_circle_rows⟩
  have r_is_matrix := ok_is_matrix (P := l.prog) (w := w) (base := base) T F_is_matrix q_is_row q_is_tuple
  have q_is_matrix : DL.Cal l.prog w K mg base "is_matrix" _ _ _ f_is_matrix _ := ⟨r_is_matrix, PySem.W.mg_of X G a_is_matrix, k_is_matrix, b_is_matrix⟩
  have r_is_circle_rows := ok_is_circle_rows (P := l.prog) (w := w) (base := base) T F_is_circle_rows q_circle_in q_check_polynomial q_is_matrix
  have q_is_circle_rows : DL.Cal l.prog w K mg base "is_circle_rows" _ _ _ f_is_circle_rows _ := ⟨r_is_circle_rows, PySem.W.mg_of X G a_is_circle_rows, k_is_circle_rows, b_is_circle_rows⟩
  have r__law_bends := ok_law_bends (P := l.prog) (w := w) (base := base) T F__law_bends q__law_next q__law_number
  have q__law_bends : DL.Cal l.prog w K mg base "_law_bends" _ _ _ f__law_bends _ := ⟨r__law_bends, PySem.W.mg_of X G a__law_bends, k__law_bends, b__law_bends⟩
  have r__law_odd := ok_law_odd (P := l.prog) (w := w) (base := base) T F__law_odd q__law_pick
  have q__law_odd : DL.Cal l.prog w K mg base "_law_odd" _ _ _ f__law_odd _ := ⟨r__law_odd, PySem.W.mg_of X G a__law_odd, k__law_odd, b__law_odd⟩
  have kb1 : ∀ {f : Addr} (x : Str), True := fun _ => True.intro
  refine FnOk.imp (ok_law (P := l.prog) (w := w) (base := base) T facts F_law q__law_jar q__law_next q__law_factor q__law_times q__law_number q__law_mul q__law_rows q__law_equal q_is_within q_circle_rows q_is_circle_rows q__law_bends q__law_odd ⟨?_, fun _ r => r⟩ ⟨?_, fun _ r => r⟩ ⟨?_, swap2_vals⟩) ?_
  · exact fun s us ws _ h1 h2 => match us, ws, h1, h2 with | [], [_], _, _ => .of_eq rfl
  · exact fun s us ws _ h1 h2 => match us, ws, h1, h2 with | [], [_], _, _ => .of_eq rfl
  · exact fun s us ws _ h1 h2 => match us, ws, h1, h2 with | [], [_, _], _, _ => .of_eq rfl
  · intro vs H Q E h
    obtain ⟨a, ns, rfl, hS, hl, q⟩ := h
    refine ⟨H, [scrD (ns.map PyData.int)], .bool true, Evl.Ex.refl H, .cons (.scr hS (dq_ints ns)) .nil, ⟨ns, rfl, by omega, rfl⟩, fun v B2 H2 _ hv => ?_⟩
    cases hv
    exact q H2
theorem walk {l : PySem.W.OpenLaw} {q : Program} {loose : List Str} {XP : (Str → Option Value) → Heap → Prop} {YP : World → Heap → Prop} {d : DefRec} {K : Params → PySem.W.Frag} (hn : l.most = some 63) (hdf : d.params.defaults = [])
    (hY : ∀ (w : World) (h : Heap), YP w h → (K w.params).In h)
    (F : ∀ (w : World) (mg : Str → Option Value) (fa : Addr) (h : Heap), (K w.params).In h → h.Ns mainGlobals mg → mg d.name = some (.ref fa) →
      ∃ fd : FuncData, (∀ (s : Shared) (u : Value), BindsTo s fd ⟨[u], []⟩ [("script", u)]) ∧ ∀ base : Heap, (K w.params).In base → base.Ns mainGlobals mg → FnOk l.prog w (K w.params) mg base CX0 8 fa fd ["script"] (spLaw (K w.params))) :
    PySem.W.WalkO q loose XP YP l.row.toRowW d [] (fun f vs => PySem.call f vs) :=
  L2.walk_of (n := 63) (k := 8) (x := "script") (CX := fun _ => CX0) (sp := fun w => spLaw (K w.params)) hn (by decide) hdf ⟨rfl, by decide, by decide⟩ hY F (fun _ _ a ns hl _ hS => ⟨a, ns, rfl, hS, hl, fun _ => rfl⟩) fun _ _ _ _ _ z => z
end C56
open PySem PySem.W PyProof.Rows
set_option maxRecDepth 100000 in
set_option maxHeartbeats 0 in
theorem PySem.Challenge.cw_onepassexact_k56_circle_rows_by_planted_holds : PySem.Challenge.rw_onepassexact_k56_circle_rows_by_planted.Holds := by
  w_on; o_law; k_head; (case hw => w_witness2)
  k_fill
  refine C56.walk (l := PySem.Challenge.rw_onepassexact_k56_circle_rows_by_planted) rfl rfl (fun w h Y => PySem.W.kIn_of Y) ?F
  case F =>
    intro w mg fa h KX G hmg
    refine' C56.all_mk KX G hmg ?a_is_integer ?l_is_integer ?c_is_integer ?k_is_integer ?a_is_from ?l_is_from ?c_is_from ?k_is_from ?a_is_tuple ?l_is_tuple ?c_is_tuple ?k_is_tuple ?a_lowest_in ?l_lowest_in ?c_lowest_in ?k_lowest_in ?a_is_fraction ?l_is_fraction ?c_is_fraction ?k_is_fraction ?a_is_row ?l_is_row ?c_is_row ?k_is_row ?a_is_matrix ?l_is_matrix ?c_is_matrix ?k_is_matrix ?a_take_in ?l_take_in ?c_take_in ?k_take_in ?a_times_in ?l_times_in ?c_times_in ?k_times_in ?a_over_in ?l_over_in ?c_over_in ?k_over_in ?a_less_in ?l_less_in ?c_less_in ?k_less_in ?a_scale_in ?l_scale_in ?c_scale_in ?k_scale_in ?a_check_polynomial ?l_check_polynomial ?c_check_polynomial ?k_check_polynomial ?a_monic_in ?l_monic_in ?c_monic_in ?k_monic_in ?a_is_open ?l_is_open ?c_is_open ?k_is_open ?a_next_in ?l_next_in ?c_next_in ?k_next_in ?a_circle_in ?l_circle_in ?c_circle_in ?k_circle_in ?a_is_within_in ?l_is_within_in ?c_is_within_in ?k_is_within_in ?a_circle_rows ?l_circle_rows ?c_circle_rows ?k_circle_rows ?a_is_within ?l_is_within ?c_is_within ?k_is_within ?a_is_circle_rows ?l_is_circle_rows ?c_is_circle_rows ?k_is_circle_rows ?a__law_jar ?l__law_jar ?c__law_jar ?k__law_jar ?a__law_next ?l__law_next ?c__law_next ?k__law_next ?a__law_pick ?l__law_pick ?c__law_pick ?k__law_pick ?a__law_equal ?l__law_equal ?c__law_equal ?k__law_equal ?a__law_odd ?l__law_odd ?c__law_odd ?k__law_odd ?a__law_frac ?l__law_frac ?c__law_frac ?k__law_frac ?a__law_plus ?l__law_plus ?c__law_plus ?k__law_plus ?a__law_take ?l__law_take ?c__law_take ?k__law_take ?a__law_mul ?l__law_mul ?c__law_mul ?k__law_mul ?a__law_number ?l__law_number ?c__law_number ?k__law_number ?a__law_times ?l__law_times ?c__law_times ?k__law_times ?a__law_less ?l__law_less ?c__law_less ?k__law_less ?a__law_inside ?l__law_inside ?c__law_inside ?k__law_inside ?a__law_factor ?l__law_factor ?c__law_factor ?k__law_factor ?a__law_rows ?l__law_rows ?c__law_rows ?k__law_rows ?a__law_bends ?l__law_bends ?c__law_bends ?k__law_bends ?a_law ?l_law ?c_law ?k_law ?z_isinstance ?z_int ?z_bool ?z_str ?z_tuple ?z_list ?z_len ?z_all ?z_zip ?z_abs ?z_min ?z_max ?z_range ?z_gcd ?z_NOUGHT ?l_NOUGHT ?v_NOUGHT ?z_ONE ?l_ONE ?v_ONE
    (case a_is_integer => k_is)
    (case l_is_integer => k_is)
    (case c_is_integer => k_is)
    (case k_is_integer => k_is)
    (case a_is_from => k_is)
    (case l_is_from => k_is)
    (case c_is_from => k_is)
    (case k_is_from => k_is)
    (case a_is_tuple => k_is)
    (case l_is_tuple => k_is)
    (case c_is_tuple => k_is)
    (case k_is_tuple => k_is)
    (case a_lowest_in => k_is)
    (case l_lowest_in => k_is)
    (case c_lowest_in => k_is)
    (case k_lowest_in => k_is)
    (case a_is_fraction => k_is)
    (case l_is_fraction => k_is)
    (case c_is_fraction => k_is)
    (case k_is_fraction => k_is)
    (case a_is_row => k_is)
    (case l_is_row => k_is)
    (case c_is_row => k_is)
    (case k_is_row => k_is)
    (case a_is_matrix => k_is)
    (case l_is_matrix => k_is)
    (case c_is_matrix => k_is)
    (case k_is_matrix => k_is)
    (case a_take_in => k_is)
    (case l_take_in => k_is)
    (case c_take_in => k_is)
    (case k_take_in => k_is)
    (case a_times_in => k_is)
    (case l_times_in => k_is)
    (case c_times_in => k_is)
    (case k_times_in => k_is)
    (case a_over_in => k_is)
    (case l_over_in => k_is)
    (case c_over_in => k_is)
    (case k_over_in => k_is)
    (case a_less_in => k_is)
    (case l_less_in => k_is)
    (case c_less_in => k_is)
    (case k_less_in => k_is)
    (case a_scale_in => k_is)
    (case l_scale_in => k_is)
    (case c_scale_in => k_is)
    (case k_scale_in => k_is)
    (case a_check_polynomial => k_is)
    (case l_check_polynomial => k_is)
    (case c_check_polynomial => k_is)
    (case k_check_polynomial => k_is)
    (case a_monic_in => k_is)
    (case l_monic_in => k_is)
    (case c_monic_in => k_is)
    (case k_monic_in => k_is)
    (case a_is_open => k_is)
    (case l_is_open => k_is)
    (case c_is_open => k_is)
    (case k_is_open => k_is)
    (case a_next_in => k_is)
    (case l_next_in => k_is)
    (case c_next_in => k_is)
    (case k_next_in => k_is)
    (case a_circle_in => k_is)
    (case l_circle_in => k_is)
    (case c_circle_in => k_is)
    (case k_circle_in => k_is)
    (case a_is_within_in => k_is)
    (case l_is_within_in => k_is)
    (case c_is_within_in => k_is)
    (case k_is_within_in => k_is)
    (case a_circle_rows => k_is)
    (case l_circle_rows => k_is)
    (case c_circle_rows => k_is)
    (case k_circle_rows => k_is)
    (case a_is_within => k_is)
    (case l_is_within => k_is)
    (case c_is_within => k_is)
    (case k_is_within => k_is)
    (case a_is_circle_rows => k_is)
    (case l_is_circle_rows => k_is)
    (case c_is_circle_rows => k_is)
    (case k_is_circle_rows => k_is)
    (case a__law_jar => k_is)
    (case l__law_jar => k_is)
    (case c__law_jar => k_is)
    (case k__law_jar => k_is)
    (case a__law_next => k_is)
    (case l__law_next => k_is)
    (case c__law_next => k_is)
    (case k__law_next => k_is)
    (case a__law_pick => k_is)
    (case l__law_pick => k_is)
    (case c__law_pick => k_is)
    (case k__law_pick => k_is)
    (case a__law_equal => k_is)
    (case l__law_equal => k_is)
    (case c__law_equal => k_is)
    (case k__law_equal => k_is)
    (case a__law_odd => k_is)
    (case l__law_odd => k_is)
    (case c__law_odd => k_is)
    (case k__law_odd => k_is)
    (case a__law_frac => k_is)
    (case l__law_frac => k_is)
    (case c__law_frac => k_is)
    (case k__law_frac => k_is)
    (case a__law_plus => k_is)
    (case l__law_plus => k_is)
    (case c__law_plus => k_is)
    (case k__law_plus => k_is)
    (case a__law_take => k_is)
    (case l__law_take => k_is)
    (case c__law_take => k_is)
    (case k__law_take => k_is)
    (case a__law_mul => k_is)
    (case l__law_mul => k_is)
    (case c__law_mul => k_is)
    (case k__law_mul => k_is)
    (case a__law_number => k_is)
    (case l__law_number => k_is)
    (case c__law_number => k_is)
    (case k__law_number => k_is)
    (case a__law_times => k_is)
    (case l__law_times => k_is)
    (case c__law_times => k_is)
    (case k__law_times => k_is)
    (case a__law_less => k_is)
    (case l__law_less => k_is)
    (case c__law_less => k_is)
    (case k__law_less => k_is)
    (case a__law_inside => k_is)
    (case l__law_inside => k_is)
    (case c__law_inside => k_is)
    (case k__law_inside => k_is)
    (case a__law_factor => k_is)
    (case l__law_factor => k_is)
    (case c__law_factor => k_is)
    (case k__law_factor => k_is)
    (case a__law_rows => k_is)
    (case l__law_rows => k_is)
    (case c__law_rows => k_is)
    (case k__law_rows => k_is)
    (case a__law_bends => k_is)
    (case l__law_bends => k_is)
    (case c__law_bends => k_is)
    (case k__law_bends => k_is)
    (case a_law => k_is)
    (case l_law => k_is)
    (case c_law => k_is)
    (case k_law => k_is)
    (case z_isinstance => k_is)
    (case z_int => k_is)
    (case z_bool => k_is)
    (case z_str => k_is)
    (case z_tuple => k_is)
    (case z_list => k_is)
    (case z_len => k_is)
    (case z_all => k_is)
    (case z_zip => k_is)
    (case z_abs => k_is)
    (case z_min => k_is)
    (case z_max => k_is)
    (case z_range => k_is)
    (case z_gcd => k_is)
    (case z_NOUGHT => k_is)
    (case l_NOUGHT => k_is)
    (case v_NOUGHT => exact ⟨by decide, .cons ⟨_, rfl⟩ (.cons ⟨_, rfl⟩ .nil)⟩)
    (case z_ONE => k_is)
    (case l_ONE => k_is)
    (case v_ONE => exact ⟨by decide, .cons ⟨_, rfl⟩ (.cons ⟨_, rfl⟩ .nil)⟩)
