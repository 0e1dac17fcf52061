import PyProof.Rows.All
import Wide.All
import OpenK.AllK
import Wide.FinOn
import HandS.ForMost
import HandS.IsInst
import HandS.TupMul
import HandS.TupAny
import HandS.Deep
import HandS.Defaults
import HandS.Style
import HandS.SortInts
import HandS.Conv
import HandS.Flow
import HandS.Text
import KE.KStateDown
import Lean
import HandS.Base
import HandS.Call
import HandS.Ends
import HandS.More
import HandS.Words
import HandS.WordsExc
import HandS.Head0
import HandS.Head1
import HandS.Head2
import HandS.HeadEnd
import HandS.HeadHook1
import HandS.HeadHook2
import PySem.Challenge.RW_diffcompiler_k84_undo_schedules_against
set_option Elab.async false
set_option linter.all false
set_option maxRecDepth 100000
set_option maxHeartbeats 8000000
/-! Data told of values: Is; what a reading comes to: Ed (an expression), Et (a test), Ea (arguments). Two heaps: I holds the data that stays, H all that is tracked. -/
namespace KD
open PySem PySem.Spec PyProof.Rows L2

def Ex (H H' : Hp) : Prop := ∀ a o, H a = some o → H' a = some o
theorem Ex.refl (H : Hp) : Ex H H := fun _ _ h => h
theorem Ex.trans {H H1 H2 : Hp} (a : Ex H H1) (b : Ex H1 H2) : Ex H H2 := fun x o h => b x o (a x o h)
theorem Ex.new {H : Hp} {p : Addr} {o : HO} (h : H p = none) : Ex H (upd H p o) := fun a u e => by
  rw [upd_ne (ne_of_none e h)]
  exact e
/-- what I does not know may change in H -/
theorem Ex.mut {I H : Hp} {p : Addr} {o : HO} (e : Ex I H) (h : I p = none) : Ex I (upd H p o) := fun a u ha => by
  rw [upd_ne (ne_of_none ha h)]
  exact e a u ha
/-- both sides -/
theorem Ex.both {I H : Hp} {p : Addr} {o : HO} (e : Ex I H) : Ex (upd I p o) (upd H p o) := fun a u ha => by
  by_cases q : a = p
  · subst q
    rw [upd_same] at ha ⊢
    exact ha
  · rw [upd_ne q] at ha ⊢
    exact e a u ha
theorem Ex.lay {I H : Hp} {p : Addr} {o : HO} (e : Ex I H) (h : H p = some o) : Ex (upd I p o) H := fun a u ha => by
  by_cases q : a = p
  · subst q
    rw [upd_same] at ha
    rw [h]
    exact ha
  · rw [upd_ne q] at ha
    exact e a u ha
theorem Ex.free {H H' : Hp} {p : Addr} (e : Ex H H') (h : H' p = none) : H p = none := by
  cases h1 : H p with
  | none => rfl
  | some o =>
    rw [e p o h1] at h
    cases h
theorem Ex.ne {H H' : Hp} {p q : Addr} {o : HO} (e : Ex H H') (h : H p = some o) (hq : H' q = none) : p ≠ q := ne_of_none (e p o h) hq

mutual
inductive Is (H : Hp) : V → PyData → Prop
  | non : Is H .non .none
  | bl (b : Bool) : Is H (.bl b) (.bool b)
  | int (i : Int) : Is H (.int i) (.int i)
  | str (x : Str) : Is H (.str x) (.str x)
  | lst {a : Addr} {xs : List V} {ds : List PyData} : H a = some (.lst xs) → IsAll H xs ds → Is H (.ref a) (.list ds)
  | tup {a : Addr} {xs : List V} {ds : List PyData} : H a = some (.tup xs) → IsAll H xs ds → Is H (.ref a) (.tuple ds)
  | dct {a : Addr} : H a = some (.dK []) → Is H (.ref a) (.dict [])
inductive IsAll (H : Hp) : List V → List PyData → Prop
  | nil : IsAll H [] []
  | cons {v : V} {vs : List V} {d : PyData} {ds : List PyData} : Is H v d → IsAll H vs ds → IsAll H (v :: vs) (d :: ds)
end

mutual
theorem Is.mono {H H' : Hp} (e : Ex H H') : ∀ {d : PyData} {v : V}, Is H v d → Is H' v d
  | .none, _, h => by cases h; exact .non
  | .bool _, _, h => by cases h; exact .bl _
  | .int _, _, h => by cases h; exact .int _
  | .str _, _, h => by cases h; exact .str _
  | .list _, _, h => by
    cases h with
    | lst a b => exact .lst (e _ _ a) (IsAll.mono e b)
  | .tuple _, _, h => by
    cases h with
    | tup a b => exact .tup (e _ _ a) (IsAll.mono e b)
  | .dict _, _, h => by
    cases h with
    | dct a => exact .dct (e _ _ a)
theorem IsAll.mono {H H' : Hp} (e : Ex H H') : ∀ {ds : List PyData} {vs : List V}, IsAll H vs ds → IsAll H' vs ds
  | [], _, h => by cases h; exact .nil
  | _ :: _, _, h => by
    cases h with
    | cons a b => exact .cons (Is.mono e a) (IsAll.mono e b)
end
theorem IsAll.length {H : Hp} : ∀ {ds : List PyData} {vs : List V}, IsAll H vs ds → vs.length = ds.length
  | [], _, h => by cases h; rfl
  | _ :: _, _, h => by
    cases h with
    | cons a b => simp [IsAll.length b]
theorem IsAll.get {H : Hp} : ∀ {ds : List PyData} {vs : List V} {i : Nat} {d : PyData}, IsAll H vs ds → ds[i]? = some d → ∃ v, vs[i]? = some v ∧ Is H v d
  | [], _, _, _, h, e => by simp at e
  | _ :: _, _, 0, _, h, e => by
    cases h with
    | cons a b =>
      have q := Option.some.inj e
      subst q
      exact ⟨_, rfl, a⟩
  | _ :: _, _, i + 1, _, h, e => by
    cases h with
    | cons a b => exact IsAll.get (i := i) b e
theorem IsAll.get' {H : Hp} {ds : List PyData} {vs : List V} {i : Nat} {v : V} (h : IsAll H vs ds) (e : vs[i]? = some v) : ∃ d, ds[i]? = some d ∧ Is H v d := by
  have hi : i < vs.length := (List.getElem?_eq_some_iff.mp e).1
  rw [h.length] at hi
  obtain ⟨w, e2, hw⟩ := h.get (List.getElem?_eq_getElem hi)
  rw [e] at e2
  cases e2
  exact ⟨_, List.getElem?_eq_getElem hi, hw⟩
theorem IsAll.at_ {H : Hp} {ds : List PyData} {vs : List V} {i : Int} {d : PyData} (h : IsAll H vs ds) (e : atI ds i = some d) : ∃ v, atI vs i = some v ∧ Is H v d := by
  unfold atI at e ⊢
  rw [h.length]
  cases q : ixN ds.length i with
  | none => rw [q] at e; cases e
  | some j =>
    rw [q] at e
    obtain ⟨v, hv, hd⟩ := h.get (show ds[j]? = some d from e)
    exact ⟨v, hv, hd⟩
theorem IsAll.append {H : Hp} : ∀ {ds es : List PyData} {vs ws : List V}, IsAll H vs ds → IsAll H ws es → IsAll H (vs ++ ws) (ds ++ es)
  | [], _, _, _, h, k => by cases h; exact k
  | _ :: _, _, _, _, h, k => by
    cases h with
    | cons a b => exact .cons a (IsAll.append b k)
theorem IsAll.drop {H : Hp} : ∀ {n : Nat} {ds : List PyData} {vs : List V}, IsAll H vs ds → IsAll H (vs.drop n) (ds.drop n)
  | 0, _, _, h => h
  | _ + 1, [], _, h => by cases h; exact .nil
  | n + 1, _ :: _, _, h => by
    cases h with
    | cons a b => exact IsAll.drop (n := n) b
theorem IsAll.take {H : Hp} : ∀ {n : Nat} {ds : List PyData} {vs : List V}, IsAll H vs ds → IsAll H (vs.take n) (ds.take n)
  | 0, _, _, h => .nil
  | _ + 1, [], _, h => by cases h; exact .nil
  | n + 1, _ :: _, _, h => by
    cases h with
    | cons a b => exact .cons a (IsAll.take (n := n) b)
theorem IsAll.reverse {H : Hp} : ∀ {ds : List PyData} {vs : List V}, IsAll H vs ds → IsAll H vs.reverse ds.reverse
  | [], _, h => by cases h; exact .nil
  | _ :: _, _, h => by
    cases h with
    | cons a b =>
      rw [List.reverse_cons, List.reverse_cons]
      exact (IsAll.reverse b).append (.cons a .nil)
theorem IsAll.dropLast {H : Hp} {ds : List PyData} {vs : List V} (h : IsAll H vs ds) : IsAll H vs.dropLast ds.dropLast := by
  rw [List.dropLast_eq_take, List.dropLast_eq_take, h.length]
  exact h.take
theorem IsAll.flat_rep {H : Hp} {ds : List PyData} {vs : List V} (h : IsAll H vs ds) : ∀ n : Nat, IsAll H (List.replicate n vs).flatten (List.replicate n ds).flatten
  | 0 => .nil
  | n + 1 => by
    rw [List.replicate_succ, List.replicate_succ, List.flatten_cons, List.flatten_cons]
    exact h.append (h.flat_rep n)
/-- slices of data -/
def cutD (ds : List PyData) (lo hi : Option Int) : List PyData := (ds.drop (HT.sIx ds.length 0 lo)).take (HT.sIx ds.length ds.length hi - HT.sIx ds.length 0 lo)
theorem IsAll.cut {H : Hp} {ds : List PyData} {vs : List V} {lo hi : Option Int} (h : IsAll H vs ds) : IsAll H (cutV vs lo hi) (cutD ds lo hi) := by
  unfold cutV cutD
  rw [h.length]
  exact h.drop.take
mutual
def noD : PyData → Bool
  | .none | .bool _ | .int _ | .str _ => true
  | .list xs | .tuple xs => noDs xs
  | .dict _ => false
def noDs : List PyData → Bool
  | [] => true
  | x :: xs => noD x && noDs xs
end
mutual
theorem Is.dp {K : PySem.W.Frag} {H : Hp} : ∀ {d : PyData} {v : V}, Is H v d → noD d = true → Dp K H v d
  | .none, _, h, _ => by cases h; exact .non
  | .bool _, _, h, _ => by cases h; exact .bl _
  | .int _, _, h, _ => by cases h; exact .int _
  | .str _, _, h, _ => by cases h; exact .str _
  | .list ds, _, h, n => by
    cases h with
    | lst a b => exact .lst (SqL.of a) (IsAll.dp b (by simpa [noD] using n))
  | .tuple _, _, h, n => by
    cases h with
    | tup a b => exact .tup (SqT.of a) (IsAll.dp b (by simpa [noD] using n))
  | .dict _, _, h, n => by simp [noD] at n
theorem IsAll.dp {K : PySem.W.Frag} {H : Hp} : ∀ {ds : List PyData} {vs : List V}, IsAll H vs ds → noDs ds = true → DpAll K H vs ds
  | [], _, h, _ => by cases h; exact .nil
  | _ :: _, _, h, n => by
    cases h with
    | cons a b =>
      simp only [noDs, Bool.and_eq_true] at n
      exact .cons (Is.dp a n.1) (IsAll.dp b n.2)
end
/-! ### new things only -/
/-- what I2 knows beyond I is new behind H -/
def New (I H I2 : Hp) : Prop := ∀ a o, I2 a = some o → I a = some o ∨ H a = none
theorem New.refl (I H : Hp) : New I H I := fun _ _ h => .inl h
theorem New.none {I H I2 : Hp} (n : New I H I2) {a : Addr} {o : HO} (h : H a = some o) (hi : I a = Option.none) : I2 a = Option.none := by
  cases q : I2 a with
  | none => rfl
  | some u =>
    rcases n a u q with k | k
    · rw [hi] at k; cases k
    · rw [h] at k; cases k
theorem New.trans {I H I2 H2 I3 : Hp} (n : New I H I2) (m : New I2 H2 I3) (e : Ex H H2) : New I H I3 := fun a o h => by
  rcases m a o h with k | k
  · exact n a o k
  · exact .inr (e.free k)
theorem New.lay {I H I2 H2 : Hp} {p : Addr} {o : HO} (n : New I H I2) (e : Ex H H2) (h : H2 p = Option.none) : New I H (upd I2 p o) := fun a u q => by
  by_cases z : a = p
  · subst z
    exact .inr (e.free h)
  · rw [upd_ne z] at q
    exact n a u q
/-- two parts of one heap, together -/
def un (I J : Hp) : Hp := fun a => match I a with
  | some o => some o
  | none => J a
theorem un_l (I J : Hp) : Ex I (un I J) := fun a o h => by
  show (match I a with | some o => some o | none => J a) = _
  rw [h]
theorem un_r {I J H : Hp} (a : Ex I H) (b : Ex J H) : Ex J (un I J) := fun x o h => by
  show (match I x with | some o => some o | none => J x) = _
  cases q : I x with
  | none => exact h
  | some u =>
    have h1 := a x u q
    rw [b x o h] at h1
    exact congrArg some (Option.some.inj h1).symm
theorem un_in {I J H : Hp} (a : Ex I H) (b : Ex J H) : Ex (un I J) H := fun x o h => by
  have h : (match I x with | some o => some o | none => J x) = some o := h
  cases q : I x with
  | none =>
    rw [q] at h
    exact b x o h
  | some u =>
    rw [q] at h
    exact a x o (q.trans h)
theorem un_new {I I1 I2 H : Hp} (e : Ex I I1) (n : New I H I2) : New I1 H (un I1 I2) := fun a o h => by
  have h : (match I1 a with | some o => some o | none => I2 a) = some o := h
  cases q : I1 a with
  | none =>
    rw [q] at h
    rcases n a o h with k | k
    · rw [e a o k] at q; cases q
    · exact .inr k
  | some u =>
    rw [q] at h
    exact .inl h

/-! ### judgements -/
/-- e's value is the data d, told over I and what is new -/
def Ed (te : TE) (σ : L2.St) (H I : Hp) (d : PyData) : Prop := ∀ H1, Ex H H1 → Ex I H1 → ∀ Q : VK, (∀ v I2 H2, Ex I I2 → Ex H1 H2 → Ex I2 H2 → New I H1 I2 → Is I2 v d → Q v H2) → te σ H1 Q
def Ea (ta : TA) (σ : L2.St) (H I : Hp) (ds : List PyData) : Prop := ∀ H1, Ex H H1 → Ex I H1 → ∀ Q : List V → Hp → Prop, (∀ vs I2 H2, Ex I I2 → Ex H1 H2 → Ex I2 H2 → New I H1 I2 → IsAll I2 vs ds → Q vs H2) → ta σ H1 Q
def Et (tt : TT) (σ : L2.St) (H : Hp) (b : Bool) : Prop := ∀ H1, Ex H H1 → ∀ Q : Bool → Hp → Prop, (∀ H2, Ex H1 H2 → Q b H2) → tt σ H1 Q
def Eo (to : TO) (σ : L2.St) (H : Hp) (o : Option Int) : Prop := ∀ H1, Ex H H1 → ∀ Q : Option Int → Hp → Prop, (∀ H2, Ex H1 H2 → Q o H2) → to σ H1 Q
/-- a value itself -/
def Ev (te : TE) (σ : L2.St) (H : Hp) (v : V) : Prop := ∀ H1, Ex H H1 → ∀ Q : VK, (∀ H2, Ex H1 H2 → Q v H2) → te σ H1 Q
section
variable {K : PySem.W.Frag} {σ : L2.St} {H H' I I' J : Hp} {ta tb tc te : TE} {t u : TT} {x y z v : V} {d : PyData}
theorem Ed.mono (e : Ex H H') (h : Ed te σ H I d) : Ed te σ H' I d := fun H1 a b Q q => h H1 (e.trans a) b Q q
theorem Ea.mono {ta : TA} {ds : List PyData} (e : Ex H H') (h : Ea ta σ H I ds) : Ea ta σ H' I ds := fun H1 a b Q q => h H1 (e.trans a) b Q q
theorem Et.mono {b : Bool} (e : Ex H H') (h : Et t σ H b) : Et t σ H' b := fun H1 a Q q => h H1 (e.trans a) Q q
theorem Ev.mono (e : Ex H H') (h : Ev te σ H v) : Ev te σ H' v := fun H1 a Q q => h H1 (e.trans a) Q q
/-- over more data -/
theorem Ed.more (e : Ex I I') (h : Ed te σ H I d) : Ed te σ H I' d := fun H1 a b Q q =>
  h H1 a (e.trans b) Q fun v I2 H2 e1 e2 e3 n k => q v (un I' I2) H2 (un_l _ _) e2 (un_in (b.trans e2) e3) (un_new e n) (k.mono (un_r (b.trans e2) e3))
theorem Ed.is {d' : PyData} (h : Ed te σ H I d) (e : d = d') : Ed te σ H I d' := e ▸ h
theorem Et.is {b b' : Bool} (h : Et t σ H b) (e : b = b') : Et t σ H b' := e ▸ h
theorem ev_var {i : Nat} (h : σ[i]? = some (some v)) : Ev (tVar i) σ H v := fun H1 _ Q q => ⟨v, h, q H1 (Ex.refl _)⟩
theorem Ev.ed (h : Ev te σ H v) (hi : Is I v d) : Ed te σ H I d := fun H1 a b Q q => h H1 a Q fun H2 e2 => q v I H2 (Ex.refl _) e2 (b.trans e2) (New.refl _ _) hi
theorem ed_var {i : Nat} (h : σ[i]? = some (some v)) (hi : Is I v d) : Ed (tVar i) σ H I d := (ev_var h).ed hi
theorem ed_c (h : Is I v d) : Ed (tC v) σ H I d := fun H1 _ b Q q => q v I H1 (Ex.refl _) (Ex.refl _) b (New.refl _ _) h
theorem ed_int {n : Int} : Ed (tC (.int n)) σ H I (.int n) := ed_c (.int n)
theorem ed_bl {b : Bool} : Ed (tC (.bl b)) σ H I (.bool b) := ed_c (.bl b)
theorem ed_str {s : Str} : Ed (tC (.str s)) σ H I (.str s) := ed_c (.str s)
theorem ed_non : Ed (tC .non) σ H I .none := ed_c .non
/-- scalars come as themselves -/
theorem Ed.int {n : Int} (h : Ed te σ H I (.int n)) (e : Ex I H) : Ev te σ H (.int n) := fun H1 a Q q => h H1 a (e.trans a) Q fun v I2 H2 _ e2 _ _ k => by
  cases k
  exact q H2 e2
theorem Ed.bl {b : Bool} (h : Ed te σ H I (.bool b)) (e : Ex I H) : Ev te σ H (.bl b) := fun H1 a Q q => h H1 a (e.trans a) Q fun v I2 H2 _ e2 _ _ k => by
  cases k
  exact q H2 e2
theorem Ed.str {s : Str} (h : Ed te σ H I (.str s)) (e : Ex I H) : Ev te σ H (.str s) := fun H1 a Q q => h H1 a (e.trans a) Q fun v I2 H2 _ e2 _ _ k => by
  cases k
  exact q H2 e2
theorem Ed.non (h : Ed te σ H I .none) (e : Ex I H) : Ev te σ H .non := fun H1 a Q q => h H1 a (e.trans a) Q fun v I2 H2 _ e2 _ _ k => by
  cases k
  exact q H2 e2
/-- two operands, then the operation over what both know -/
theorem ed_two {r : R2} {d1 d2 : PyData} (ha : Ed ta σ H J d1) (hb : Ed tb σ H J d2) (ej : Ex J H) (ei : Ex I J)
    (hr : ∀ v1 v2 I2 H2, Ex J I2 → Ex H H2 → Ex I2 H2 → Is I2 v1 d1 → Is I2 v2 d2 → ∀ Q : VK, (∀ v I3 H3, Ex I I3 → Ex H2 H3 → Ex I3 H3 → New I H2 I3 → Is I3 v d → Q v H3) → r v1 v2 H2 Q) : Ed (tOp r ta tb) σ H I d := fun H1 e1 b Q q =>
  ha H1 e1 (ej.trans e1) _ fun v1 I2 H2 a1 a2 a3 n1 k1 => (hb.more a1) H2 (e1.trans a2) a3 _ fun v2 I3 H3 b1 b2 b3 n2 k2 =>
    hr v1 v2 I3 H3 (a1.trans b1) ((e1.trans a2).trans b2) b3 (k1.mono b1) k2 Q fun v I4 H4 c1 c2 c3 n3 k3 => q v I4 H4 c1 ((a2.trans b2).trans c2) c3 (fun a o h => (n3 a o h).imp id fun z => (a2.trans b2).free z) k3
/-- .. whose answer is a scalar -/
theorem ed_sc {r : R2} {d1 d2 : PyData} (hs : Is I v d) (ha : Ed ta σ H J d1) (hb : Ed tb σ H J d2) (ej : Ex J H) (ei : Ex I H)
    (hr : ∀ v1 v2 I2 H2, Ex H H2 → Ex I2 H2 → Is I2 v1 d1 → Is I2 v2 d2 → ∀ Q : VK, (∀ H3, Ex H2 H3 → Q v H3) → r v1 v2 H2 Q) : Ed (tOp r ta tb) σ H I d := fun H1 e1 b Q q =>
  ha H1 e1 (ej.trans e1) _ fun v1 I2 H2 a1 a2 a3 n1 k1 => (hb.more a1) H2 (e1.trans a2) a3 _ fun v2 I3 H3 b1 b2 b3 n2 k2 =>
    hr v1 v2 I3 H3 ((e1.trans a2).trans b2) b3 (k1.mono b1) k2 Q fun H4 c => q v I H4 (Ex.refl _) ((a2.trans b2).trans c) (b.trans ((a2.trans b2).trans c)) (New.refl _ _) hs
theorem ed_I0 {g : Int → Int → V} {i j : Int} (hs : Is I (g i j) d) (ha : Ed ta σ H J (.int i)) (hb : Ed tb σ H J (.int j)) (ej : Ex J H) (ei : Ex I H) : Ed (tOp (rI0 g) ta tb) σ H I d :=
  ed_sc hs ha hb ej ei fun _ _ _ H2 _ _ k1 k2 Q q => by
    cases k1
    cases k2
    exact ⟨i, j, rfl, rfl, q H2 (Ex.refl _)⟩
theorem ed_I {C : Int → Int → Prop} {g : Int → Int → V} {i j : Int} (hs : Is I (g i j) d) (hc : C i j) (ha : Ed ta σ H J (.int i)) (hb : Ed tb σ H J (.int j)) (ej : Ex J H) (ei : Ex I H) : Ed (tOp (rI C g) ta tb) σ H I d :=
  ed_sc hs ha hb ej ei fun _ _ _ H2 _ _ k1 k2 Q q => by
    cases k1
    cases k2
    exact ⟨i, j, rfl, rfl, hc, q H2 (Ex.refl _)⟩
theorem ed_add {i j : Int} (ha : Ed ta σ H J (.int i)) (hb : Ed tb σ H J (.int j)) (ej : Ex J H) (ei : Ex I H) : Ed (tOp (rI0 fun i j => .int (i + j)) ta tb) σ H I (.int (i + j)) := ed_I0 (.int _) ha hb ej ei
theorem ed_sub {i j : Int} (ha : Ed ta σ H J (.int i)) (hb : Ed tb σ H J (.int j)) (ej : Ex J H) (ei : Ex I H) : Ed (tOp (rI0 fun i j => .int (i - j)) ta tb) σ H I (.int (i - j)) := ed_I0 (.int _) ha hb ej ei
theorem ed_mul {i j : Int} (hc : CMul i j) (ha : Ed ta σ H J (.int i)) (hb : Ed tb σ H J (.int j)) (ej : Ex J H) (ei : Ex I H) : Ed (tOp (rI CMul fun i j => .int (i * j)) ta tb) σ H I (.int (i * j)) := ed_I (.int _) hc ha hb ej ei
theorem ed_lt {i j : Int} (ha : Ed ta σ H J (.int i)) (hb : Ed tb σ H J (.int j)) (ej : Ex J H) (ei : Ex I H) : Ed (tOp (rI0 fun i j => .bl (decide (i < j))) ta tb) σ H I (.bool (decide (i < j))) := ed_I0 (.bl _) ha hb ej ei
theorem ed_le {i j : Int} (ha : Ed ta σ H J (.int i)) (hb : Ed tb σ H J (.int j)) (ej : Ex J H) (ei : Ex I H) : Ed (tOp (rI0 fun i j => .bl (decide (i ≤ j))) ta tb) σ H I (.bool (decide (i ≤ j))) := ed_I0 (.bl _) ha hb ej ei
theorem ed_gt {i j : Int} (ha : Ed ta σ H J (.int i)) (hb : Ed tb σ H J (.int j)) (ej : Ex J H) (ei : Ex I H) : Ed (tOp (rI0 fun i j => .bl (decide (j < i))) ta tb) σ H I (.bool (decide (j < i))) := ed_I0 (.bl _) ha hb ej ei
theorem ed_ge {i j : Int} (ha : Ed ta σ H J (.int i)) (hb : Ed tb σ H J (.int j)) (ej : Ex J H) (ei : Ex I H) : Ed (tOp (rI0 fun i j => .bl (decide (j ≤ i))) ta tb) σ H I (.bool (decide (j ≤ i))) := ed_I0 (.bl _) ha hb ej ei
/-- == of scalars -/
theorem ed_eqI {i j : Int} (ha : Ed ta σ H J (.int i)) (hb : Ed tb σ H J (.int j)) (ej : Ex J H) (ei : Ex I H) : Ed (tOp rEq ta tb) σ H I (.bool (decide (i = j))) :=
  ed_sc (.bl _) ha hb ej ei fun _ _ _ H2 _ _ k1 k2 Q q => by
    cases k1
    cases k2
    refine ⟨rfl, ?_⟩
    rw [show decide (V.int i = V.int j) = decide (i = j) by simp]
    exact q H2 (Ex.refl _)
theorem ed_neI {i j : Int} (ha : Ed ta σ H J (.int i)) (hb : Ed tb σ H J (.int j)) (ej : Ex J H) (ei : Ex I H) : Ed (tOp rNe ta tb) σ H I (.bool (!decide (i = j))) :=
  ed_sc (.bl _) ha hb ej ei fun _ _ _ H2 _ _ k1 k2 Q q => by
    cases k1
    cases k2
    refine ⟨rfl, ?_⟩
    rw [show decide (V.int i = V.int j) = decide (i = j) by simp]
    exact q H2 (Ex.refl _)
theorem ed_eqS {i j : Str} (ha : Ed ta σ H J (.str i)) (hb : Ed tb σ H J (.str j)) (ej : Ex J H) (ei : Ex I H) : Ed (tOp rEq ta tb) σ H I (.bool (decide (i = j))) :=
  ed_sc (.bl _) ha hb ej ei fun _ _ _ H2 _ _ k1 k2 Q q => by
    cases k1
    cases k2
    refine ⟨rfl, ?_⟩
    rw [show decide (V.str i = V.str j) = decide (i = j) by simp]
    exact q H2 (Ex.refl _)
theorem ed_neS {i j : Str} (ha : Ed ta σ H J (.str i)) (hb : Ed tb σ H J (.str j)) (ej : Ex J H) (ei : Ex I H) : Ed (tOp rNe ta tb) σ H I (.bool (!decide (i = j))) :=
  ed_sc (.bl _) ha hb ej ei fun _ _ _ H2 _ _ k1 k2 Q q => by
    cases k1
    cases k2
    refine ⟨rfl, ?_⟩
    rw [show decide (V.str i = V.str j) = decide (i = j) by simp]
    exact q H2 (Ex.refl _)
theorem ed_eqB {i j : Bool} (ha : Ed ta σ H J (.bool i)) (hb : Ed tb σ H J (.bool j)) (ej : Ex J H) (ei : Ex I H) : Ed (tOp rEq ta tb) σ H I (.bool (decide (i = j))) :=
  ed_sc (.bl _) ha hb ej ei fun _ _ _ H2 _ _ k1 k2 Q q => by
    cases k1
    cases k2
    refine ⟨rfl, ?_⟩
    rw [show decide (V.bl i = V.bl j) = decide (i = j) by simp]
    exact q H2 (Ex.refl _)
/-- == of data -/
theorem ed_eqD {d1 d2 : PyData} (h1 : noD d1 = true) (h2 : noD d2 = true) (s1 : SeqAt.shaped d1 = true) (s2 : SeqAt.shaped d2 = true) (ha : Ed ta σ H J d1) (hb : Ed tb σ H J d2) (ej : Ex J H) (ei : Ex I H) : Ed (tOp (rEqD K) ta tb) σ H I (.bool (PyData.eqv d1 d2)) :=
  ed_sc (.bl _) ha hb ej ei fun _ _ _ H2 _ e k1 k2 Q q => ⟨d1, d2, (k1.mono e).dp h1, (k2.mono e).dp h2, s1, s2, q H2 (Ex.refl _)⟩
theorem ed_neD {d1 d2 : PyData} (h1 : noD d1 = true) (h2 : noD d2 = true) (s1 : SeqAt.shaped d1 = true) (s2 : SeqAt.shaped d2 = true) (ha : Ed ta σ H J d1) (hb : Ed tb σ H J d2) (ej : Ex J H) (ei : Ex I H) : Ed (tOp (rNeD K) ta tb) σ H I (.bool (!PyData.eqv d1 d2)) :=
  ed_sc (.bl _) ha hb ej ei fun _ _ _ H2 _ e k1 k2 Q q => ⟨d1, d2, (k1.mono e).dp h1, (k2.mono e).dp h2, s1, s2, q H2 (Ex.refl _)⟩
/-- is None -/
theorem Is.non_iff {H : Hp} {v : V} {d : PyData} (h : Is H v d) : decide (v = .non) = (match d with | .none => true | _ => false) := by
  cases h <;> simp
/-! ### tests -/
theorem et_test {b : Bool} (h : Ed te σ H J (.bool b)) (ej : Ex J H) : Et (tTest te) σ H b := fun H1 e _ q => h.bl ej H1 e _ fun H2 e2 => ⟨b, rfl, q H2 e2⟩
theorem et_B {b : Bool} (h : Ed te σ H J (.bool b)) (ej : Ex J H) : Et (tB te) σ H b := fun H1 e _ q => h.bl ej H1 e _ fun H2 e2 => ⟨b, rfl, q H2 e2⟩
theorem et_and {a b : Bool} (h1 : Et t σ H a) (h2 : a = true → Et u σ H b) : Et (tAnd t u) σ H (a && b) := fun H1 e Q q => h1 H1 e _ fun H2 e2 => by
  cases a with
  | true => exact h2 rfl H2 (e.trans e2) Q fun H3 e3 => q H3 (e2.trans e3)
  | false => exact q H2 e2
theorem et_or {a b : Bool} (h1 : Et t σ H a) (h2 : a = false → Et u σ H b) : Et (tOr t u) σ H (a || b) := fun H1 e Q q => h1 H1 e _ fun H2 e2 => by
  cases a with
  | true => exact q H2 e2
  | false => exact h2 rfl H2 (e.trans e2) Q fun H3 e3 => q H3 (e2.trans e3)
theorem et_not {a : Bool} (h1 : Et t σ H a) : Et (tNot t) σ H (!a) := fun H1 e _ q => h1 H1 e _ fun H2 e2 => q H2 e2
/-! ### and, or, not, if as values -/
theorem ed_andV {a b : Bool} (h1 : Ed ta σ H J (.bool a)) (h2 : a = true → Ed tb σ H J (.bool b)) (ej : Ex J H) : Ed (tAndV ta tb) σ H I (.bool (a && b)) := fun H1 e k Q q => h1.bl ej H1 e _ fun H2 e2 => ⟨a, rfl, by
  cases a with
  | true => exact (h2 rfl).bl ej H2 (e.trans e2) Q fun H3 e3 => q _ I H3 (Ex.refl _) (e2.trans e3) (k.trans (e2.trans e3)) (New.refl _ _) (.bl b)
  | false => exact q _ I H2 (Ex.refl _) e2 (k.trans e2) (New.refl _ _) (.bl false)⟩
theorem ed_orV {a b : Bool} (h1 : Ed ta σ H J (.bool a)) (h2 : a = false → Ed tb σ H J (.bool b)) (ej : Ex J H) : Ed (tOrV ta tb) σ H I (.bool (a || b)) := fun H1 e k Q q => h1.bl ej H1 e _ fun H2 e2 => ⟨a, rfl, by
  cases a with
  | true => exact q _ I H2 (Ex.refl _) e2 (k.trans e2) (New.refl _ _) (.bl true)
  | false => exact (h2 rfl).bl ej H2 (e.trans e2) Q fun H3 e3 => q _ I H3 (Ex.refl _) (e2.trans e3) (k.trans (e2.trans e3)) (New.refl _ _) (.bl b)⟩
theorem ed_notV {a : Bool} (h1 : Ed ta σ H J (.bool a)) (ej : Ex J H) : Ed (tNotV ta) σ H I (.bool (!a)) := fun H1 e k Q q => h1.bl ej H1 e _ fun H2 e2 => ⟨a, rfl, q _ I H2 (Ex.refl _) e2 (k.trans e2) (New.refl _ _) (.bl _)⟩
theorem ed_if {b : Bool} (h : Et t σ H b) (h1 : b = true → Ed ta σ H I d) (h2 : b = false → Ed tb σ H I d) : Ed (tIf t ta tb) σ H I d := fun H1 e k Q q => h H1 e _ fun H2 e2 => by
  cases b with
  | true => exact h1 rfl H2 (e.trans e2) (k.trans e2) Q fun v I3 H3 a1 a2 a3 n k3 => q v I3 H3 a1 (e2.trans a2) a3 (fun a o h => (n a o h).imp id fun z => e2.free z) k3
  | false => exact h2 rfl H2 (e.trans e2) (k.trans e2) Q fun v I3 H3 a1 a2 a3 n k3 => q v I3 H3 a1 (e2.trans a2) a3 (fun a o h => (n a o h).imp id fun z => e2.free z) k3
/-- a <= b <= c -/
theorem ed_chainI {g g' : Int → Int → Bool} {i j k : Int} (ha : Ed ta σ H J (.int i)) (hb : Ed tb σ H J (.int j)) (hc : Ed tc σ H J (.int k)) (ej : Ex J H) :
    Ed (tChain (rI0 fun i j => .bl (g i j)) (rI0 fun i j => .bl (g' i j)) ta tb tc) σ H I (.bool (g i j && g' j k)) := fun H1 e b Q q => by
  refine ha.int ej H1 e _ fun H2 e2 => hb.int ej H2 (e.trans e2) _ fun H3 e3 => ⟨i, j, rfl, rfl, g i j, rfl, ?_⟩
  revert q
  generalize g i j = p
  intro q
  cases p with
  | true => exact hc.int ej H3 ((e.trans e2).trans e3) _ fun H4 e4 => ⟨j, k, rfl, rfl, q _ I H4 (Ex.refl _) ((e2.trans e3).trans e4) (b.trans ((e2.trans e3).trans e4)) (New.refl _ _) (.bl _)⟩
  | false => exact q _ I H3 (Ex.refl _) (e2.trans e3) (b.trans (e2.trans e3)) (New.refl _ _) (.bl false)
/-! ### arguments, displays -/
theorem ea_nil : Ea tNil σ H I [] := fun H1 _ b Q q => q [] I H1 (Ex.refl _) (Ex.refl _) b (New.refl _ _) .nil
theorem Ea.more {ta : TA} {ds : List PyData} (e : Ex I I') (h : Ea ta σ H I ds) : Ea ta σ H I' ds := fun H1 a b Q q =>
  h H1 a (e.trans b) Q fun v I2 H2 e1 e2 e3 n k => q v (un I' I2) H2 (un_l _ _) e2 (un_in (b.trans e2) e3) (un_new e n) (k.mono (un_r (b.trans e2) e3))
theorem ea_cons {tr : TA} {ds : List PyData} (h : Ed te σ H I d) (hr : Ea tr σ H I ds) : Ea (tCons te tr) σ H I (d :: ds) := fun H1 e b Q q =>
  h H1 e b _ fun v I2 H2 a1 a2 a3 n1 k1 => (hr.more a1) H2 (e.trans a2) a3 _ fun vs I3 H3 b1 b2 b3 n2 k2 =>
    q (v :: vs) I3 H3 (a1.trans b1) (a2.trans b2) b3 (n1.trans n2 a2) (.cons (k1.mono b1) k2)
theorem sz_of {n : Nat} (h : n ≤ 100000) : n ≤ sizeLine := Nat.le_trans h (by decide)
theorem sz_lt {n : Nat} (h : n < 100000) : n < sizeLine := Nat.lt_of_lt_of_le h (by decide)
theorem ed_tup {ta : TA} {ds : List PyData} (h : Ea ta σ H I ds) (hl : ds.length ≤ 100000) : Ed (tTup ta) σ H I (.tuple ds) := fun H1 e b Q q =>
  h H1 e b _ fun vs I2 H2 a1 a2 a3 n k => ⟨sz_of (by rw [k.length]; exact hl), fun p hp => q (.ref p) (upd I2 p (.tup vs)) (upd H2 p (.tup vs)) (a1.trans (Ex.new (a3.free hp))) (a2.trans (Ex.new hp)) a3.both (n.lay a2 hp) (.tup upd_same (k.mono (Ex.new (a3.free hp))))⟩
theorem ed_lst {ta : TA} {ds : List PyData} (h : Ea ta σ H I ds) (hl : ds.length ≤ 100000) : Ed (tLst ta) σ H I (.list ds) := fun H1 e b Q q =>
  h H1 e b _ fun vs I2 H2 a1 a2 a3 n k => ⟨sz_of (by rw [k.length]; exact hl), fun p hp => q (.ref p) (upd I2 p (.lst vs)) (upd H2 p (.lst vs)) (a1.trans (Ex.new (a3.free hp))) (a2.trans (Ex.new hp)) a3.both (n.lay a2 hp) (.lst upd_same (k.mono (Ex.new (a3.free hp))))⟩
/-! ### subscripts, slices -/
theorem ed_ixL {ds : List PyData} {i : Int} (ha : Ed ta σ H I (.list ds)) (hb : Ed tb σ H I (.int i)) (ei : Ex I H) (h : atI ds i = some d) : Ed (tOp (rIxL K) ta tb) σ H I d := fun H1 e1 b Q q =>
  ha H1 e1 b _ fun v1 I2 H2 a1 a2 a3 n1 k1 => hb.int ei H2 (e1.trans a2) _ fun H3 e3 => by
    cases k1 with
    | lst ka kb =>
      obtain ⟨w, hw, kw⟩ := kb.at_ h
      exact ⟨_, _, i, w, rfl, rfl, SqL.of (e3 _ _ (a3 _ _ ka)), hw, q w I2 H3 a1 (a2.trans e3) (a3.trans e3) n1 kw⟩
theorem ed_ixT {ds : List PyData} {i : Int} (ha : Ed ta σ H I (.tuple ds)) (hb : Ed tb σ H I (.int i)) (ei : Ex I H) (h : atI ds i = some d) : Ed (tOp (rIxT K) ta tb) σ H I d := fun H1 e1 b Q q =>
  ha H1 e1 b _ fun v1 I2 H2 a1 a2 a3 n1 k1 => hb.int ei H2 (e1.trans a2) _ fun H3 e3 => by
    cases k1 with
    | tup ka kb =>
      obtain ⟨w, hw, kw⟩ := kb.at_ h
      exact ⟨_, _, i, w, rfl, rfl, SqT.of (e3 _ _ (a3 _ _ ka)), hw, q w I2 H3 a1 (a2.trans e3) (a3.trans e3) n1 kw⟩
theorem eo_none : Eo tNoPart σ H none := fun H1 _ Q q => q H1 (Ex.refl _)
theorem eo_some {i : Int} (h : Ed te σ H J (.int i)) (ej : Ex J H) : Eo (tPart te) σ H (some i) := fun H1 e Q q => h.int ej H1 e _ fun H2 e2 => ⟨i, rfl, q H2 e2⟩
theorem ed_sl {tl th : TO} {ds : List PyData} {lo hi : Option Int} (h : Ed te σ H I (.list ds)) (h1 : Eo tl σ H lo) (h2 : Eo th σ H hi) : Ed (tSl (rSlL K) te tl th) σ H I (.list (cutD ds lo hi)) := fun H1 e b Q q =>
  h H1 e b _ fun v I2 H2 a1 a2 a3 n k => h1 H2 (e.trans a2) _ fun H3 e3 => h2 H3 ((e.trans a2).trans e3) _ fun H4 e4 => by
    cases k with
    | @lst a xs _ ka kb =>
      have e5 : Ex H2 H4 := e3.trans e4
      exact ⟨a, xs, rfl, SqL.of (e5 _ _ (a3 _ _ ka)), fun p hp => q (.ref p) (upd I2 p (.lst (cutV xs lo hi))) (upd H4 p (.lst (cutV xs lo hi))) (a1.trans (Ex.new ((a3.trans e5).free hp))) ((a2.trans e5).trans (Ex.new hp)) (a3.trans e5).both (n.lay (a2.trans e5) hp) (.lst upd_same (kb.cut.mono (Ex.new ((a3.trans e5).free hp))))⟩
/-! ### calls -/
/-- a def that only reads its arguments: args, what is asked, the result -/
def spOf {α : Type} (args : α → List PyData) (pre : α → Prop) (res : α → PyData) : Sp := fun vs H Q _ => ∃ (a : α) (I : Hp), Ex I H ∧ IsAll I vs (args a) ∧ pre a ∧ ∀ v I2 H2, Ex I I2 → Ex H H2 → Ex I2 H2 → New I H I2 → Is I2 v (res a) → Q v H2
theorem ed_call {α : Type} {args : α → List PyData} {pre : α → Prop} {res : α → PyData} {E : XK} {ta : TA} (a : α) (hp : pre a) (h : Ea ta σ H J (args a)) (ej : Ex J H) (e : Ex I J) (hs : d = res a) (sc : I = J ∨ ∀ {I2 v}, Is I2 v (res a) → Is I v (res a)) : Ed (tCall (spOf args pre res) [] E ta) σ H I d := fun H1 e1 b Q q => by
  subst hs
  refine h H1 e1 (ej.trans e1) _ fun vs I2 H2 a1 a2 a3 n k => ⟨a, I2, a3, by rw [List.append_nil]; exact k, hp, fun v I3 H3 b1 b2 b3 n2 k2 => ?_⟩
  rcases sc with z | z
  · subst z
    exact q v I3 H3 (a1.trans b1) (a2.trans b2) b3 (n.trans n2 a2) k2
  · exact q v I H3 (Ex.refl _) (a2.trans b2) (b.trans (a2.trans b2)) (New.refl _ _) (z k2)
theorem ed_cb {r : List V → Hp → VK → Prop} {ta : TA} {ds : List PyData} (hs : Is I v d) (h : Ea ta σ H J ds) (ej : Ex J H) (hr : ∀ vs I2 H2, Ex H H2 → Ex I2 H2 → IsAll I2 vs ds → ∀ Q : VK, Q v H2 → r vs H2 Q) : Ed (tCB r ta) σ H I d := fun H1 e b Q q =>
  h H1 e (ej.trans e) _ fun vs I2 H2 a1 a2 a3 n k => hr vs I2 H2 (e.trans a2) a3 k Q (q v I H2 (Ex.refl _) a2 (b.trans a2) (New.refl _ _) hs)
end
/-! ### what comes behind an expression, for a statement -/
section
variable {K : PySem.W.Frag} {σ : L2.St} {H I J : Hp} {ta tb te : TE} {t : TT} {v : V} {d : PyData} {D : Ends} {tu tw tz : TS} {g : TG}
/-- x = e, the value its data -/
theorem s_set {i : Nat} (h : Ed te σ H I d) (e : Ex I H) (k : ∀ v I2 H2, Ex I I2 → Ex H H2 → Ex I2 H2 → New I H I2 → Is I2 v d → D.nx (σ.set i (some v)) H2) : tAsg te (gName i) D σ H := h H (Ex.refl _) e _ k
theorem s_int {i : Nat} {n : Int} (h : Ed te σ H J (.int n)) (e : Ex J H) (k : ∀ H2, Ex H H2 → D.nx (σ.set i (some (.int n))) H2) : tAsg te (gName i) D σ H := h.int e H (Ex.refl _) _ k
theorem s_bl {i : Nat} {b : Bool} (h : Ed te σ H J (.bool b)) (e : Ex J H) (k : ∀ H2, Ex H H2 → D.nx (σ.set i (some (.bl b))) H2) : tAsg te (gName i) D σ H := h.bl e H (Ex.refl _) _ k
theorem s_str {i : Nat} {s : Str} (h : Ed te σ H J (.str s)) (e : Ex J H) (k : ∀ H2, Ex H H2 → D.nx (σ.set i (some (.str s))) H2) : tAsg te (gName i) D σ H := h.str e H (Ex.refl _) _ k
theorem s_ret (h : Ed te σ H I d) (e : Ex I H) (k : ∀ v I2 H2, Ex I I2 → Ex H H2 → Ex I2 H2 → New I H I2 → Is I2 v d → D.rt v H2) : tRet te D σ H := h H (Ex.refl _) e _ k
theorem s_if {b : Bool} (h : Et t σ H b) (h1 : b = true → ∀ H1, Ex H H1 → tu D σ H1) (h2 : b = false → ∀ H1, Ex H H1 → tw D σ H1) : tIfS t tu tw D σ H := h H (Ex.refl H) _ fun H1 e => by
  cases b with
  | true => exact h1 rfl H1 e
  | false => exact h2 rfl H1 e
theorem s_drop (h : Ed te σ H I d) (e : Ex I H) (k : ∀ H2, Ex H H2 → D.nx σ H2) : tDrop te D σ H := h H (Ex.refl _) e _ fun _ _ H2 _ e2 _ _ _ => k H2 e2
/-- a new list: x = [..] -/
theorem s_new {i : Nat} {ta : TA} {ds : List PyData} (h : Ea ta σ H I ds) (e : Ex I H) (hl : ds.length ≤ 100000) (k : ∀ p vs I2 H2, Ex I I2 → Ex H H2 → Ex I2 H2 → New I H I2 → I2 p = none → H p = none → H2 p = some (.lst vs) → IsAll I2 vs ds → D.nx (σ.set i (some (.ref p))) H2) : tAsg (tLst ta) (gName i) D σ H :=
  h H (Ex.refl _) e _ fun vs I2 H2 a1 a2 a3 n hv => ⟨sz_of (by rw [hv.length]; exact hl), fun p hp => k p vs I2 (upd H2 p (.lst vs)) a1 (a2.trans (Ex.new hp)) (a3.mut (a3.free hp)) n (a3.free hp) (a2.free hp) upd_same hv⟩
/-- xs.append(e), xs owned -/
theorem s_app {l : Addr} {xs : List V} (hl : H l = some (.lst xs)) (hi : I l = none) (ei : Ex I H) (ha : Ev ta σ H (.ref l)) (h : Ed te σ H I d) (hz : xs.length < 100000) (k : ∀ v I2 H2, Ex I I2 → Ex H H2 → Ex I2 H2 → New I H I2 → I2 l = none → Is I2 v d → H2 l = some (.lst xs) → D.nx σ (upd H2 l (.lst (xs ++ [v])))) :
    tDrop (tBM K "list" rAppend ta (tCons te tNil)) D σ H := ha H (Ex.refl H) _ fun H1 e1 =>
  ⟨Or.inl ⟨rfl, xs, SqL.of (e1 l _ hl)⟩, h H1 e1 (ei.trans e1) _ fun v I2 H2 a1 a2 a3 n kv => ⟨l, xs, v, rfl, rfl, a2 l _ (e1 l _ hl), sz_lt hz, k v I2 H2 a1 (e1.trans a2) a3 (fun a o z => (n a o z).imp id fun q => e1.free q) (n.none (e1 l _ hl) hi) kv (a2 l _ (e1 l _ hl))⟩⟩
/-- xs.extend(e), xs owned, e new data -/
theorem s_ext {l : Addr} {xs : List V} {ds : List PyData} (hl : H l = some (.lst xs)) (hi : I l = none) (ei : Ex I H) (ha : Ev ta σ H (.ref l)) (h : Ed te σ H I (.list ds)) (hz : xs.length + ds.length ≤ 100000) (k : ∀ vs I2 H2, Ex I I2 → Ex H H2 → Ex I2 H2 → New I H I2 → I2 l = none → IsAll I2 vs ds → H2 l = some (.lst xs) → D.nx σ (upd H2 l (.lst (xs ++ vs)))) :
    tDrop (tBM K "list" rExtend ta (tCons te tNil)) D σ H := ha H (Ex.refl H) _ fun H1 e1 =>
  ⟨Or.inl ⟨rfl, xs, SqL.of (e1 l _ hl)⟩, h H1 e1 (ei.trans e1) _ fun v I2 H2 a1 a2 a3 n kv => by
    cases kv with
    | @lst b ws _ kb kc => exact ⟨l, b, xs, ws, rfl, rfl, a2 l _ (e1 l _ hl), a3 _ _ kb, sz_of (by rw [kc.length]; exact hz), k ws I2 H2 a1 (e1.trans a2) a3 (fun a o z => (n a o z).imp id fun q => e1.free q) (n.none (e1 l _ hl) hi) kc (a2 l _ (e1 l _ hl))⟩⟩
/-! ### loops -/
theorem s_while (W : Nat → L2.St → Hp → Prop) (m0 : Nat) (h0 : W m0 σ H)
    (hs : ∀ m σ' H', W m σ' H' → ∃ b, Et t σ' H' b ∧ (b = true → ∀ H1, Ex H' H1 → ∃ N : L2.St → Hp → Prop, (∀ σ2 H2, N σ2 H2 → ∃ m', m' < m ∧ W m' σ2 H2) ∧ tu { D with nx := N, ct := N, bk := D.nx } σ' H1) ∧ (b = false → ∀ H1, Ex H' H1 → D.nx σ' H1)) : tWhile t tu D σ H :=
  ⟨W, ⟨m0, h0⟩, fun m σ' H' hw => by
    obtain ⟨b, hb, h1, h2⟩ := hs m σ' H' hw
    refine hb H' (Ex.refl H') _ fun H1 e => ?_
    cases b with
    | true => exact h1 rfl H1 e
    | false => exact h2 rfl H1 e⟩
theorem s_forR1 {ta : TA} {j : Nat} {n : Int} (h : Ea ta σ H J [.int n]) (ej : Ex J H) (hn : -100000 ≤ n ∧ n ≤ 100000) (Pv : Nat → L2.St → Hp → Prop) (h0 : ∀ H1, Ex H H1 → Pv 0 σ H1)
    (hs : ∀ (i : Nat) σ' H', (i : Int) < n → Pv i σ' H' → tu { D with nx := Pv (i + 1), ct := Pv (i + 1), bk := D.nx } (σ'.set j (some (.int (i : Int)))) H') (hd : ∀ σ' H', Pv n.toNat σ' H' → D.nx σ' H') : tFor (iRng1 ta) (gName j) tu D σ H :=
  h H (Ex.refl H) ej _ fun vs I2 H1 _ e _ _ k => by
    cases k with
    | cons k1 k2 =>
      cases k1
      cases k2
      exact ⟨n, rfl, by omega, by omega, for_range (lo := 0) (n := n.toNat) Pv (h0 H1 e) (fun i σ' H' hi p => by
        have e0 : (0 : Int) + (i : Int) = (i : Int) := Int.zero_add _
        show tu { D with nx := Pv (i + 1), ct := Pv (i + 1), bk := D.nx } (σ'.set j (some (.int ((0 : Int) + (i : Int))))) H'
        rw [e0]
        exact hs i σ' H' (by omega) p) hd⟩
theorem s_forR2 {ta : TA} {j : Nat} {lo n : Int} (h : Ea ta σ H J [.int lo, .int n]) (ej : Ex J H) (hn : -100000 ≤ lo ∧ lo ≤ 100000 ∧ -100000 ≤ n ∧ n ≤ 100000) (Pv : Nat → L2.St → Hp → Prop) (h0 : ∀ H1, Ex H H1 → Pv 0 σ H1)
    (hs : ∀ (i : Nat) σ' H', lo + (i : Int) < n → Pv i σ' H' → tu { D with nx := Pv (i + 1), ct := Pv (i + 1), bk := D.nx } (σ'.set j (some (.int (lo + (i : Int))))) H') (hd : ∀ σ' H', Pv (n - lo).toNat σ' H' → D.nx σ' H') : tFor (iRng2 ta) (gName j) tu D σ H :=
  h H (Ex.refl H) ej _ fun vs I2 H1 _ e _ _ k => by
    cases k with
    | cons k1 k2 =>
      cases k1
      cases k2 with
      | cons k2 k3 =>
        cases k2
        cases k3
        exact ⟨lo, n, rfl, ⟨by omega, by omega, by omega, by omega⟩, for_range (lo := lo) (n := (n - lo).toNat) Pv (h0 H1 e) (fun i σ' H' hi p => hs i σ' H' (by omega) p) hd⟩
/-- for x in xs, xs data that stays -/
theorem s_forL {ds : List PyData} {tl : TE} (h : Ed tl σ H I (.list ds)) (ei : Ex I H) (Pv : Hp → Nat → L2.St → Hp → Prop) (hI : ∀ I2 i σ' H', Pv I2 i σ' H' → Ex I2 H') (h0 : ∀ I2 H2, Ex I I2 → Ex H H2 → Ex I2 H2 → New I H I2 → Pv I2 0 σ H2)
    (hs : ∀ I2 i d v σ' H', Ex I I2 → ds[i]? = some d → Is I2 v d → Pv I2 i σ' H' → g v σ' H' fun σ2 H2 => tu { D with nx := Pv I2 (i + 1), ct := Pv I2 (i + 1), bk := D.nx } σ2 H2) (hd : ∀ I2 σ' H', Ex I I2 → Pv I2 ds.length σ' H' → D.nx σ' H') : tFor (iList K tl) g tu D σ H :=
  h H (Ex.refl H) ei _ fun v I2 H2 a1 a2 a3 n k => by
    cases k with
    | @lst a xs _ ka kb =>
      refine ⟨a, rfl, ⟨xs, SqL.of (a3 _ _ ka)⟩, for_list (xs := xs) (Pv I2) (h0 I2 H2 a1 a2 a3 n) (fun i σ' H' _ p => SqL.of (hI _ _ _ _ p _ _ ka)) (fun i x σ' H' hx p => ?_) (fun σ' H' p => hd I2 σ' H' a1 (by rw [← kb.length]; exact p))⟩
      obtain ⟨d, hd', kd⟩ := kb.get' hx
      exact hs I2 i d x σ' H' a1 hd' kd p
/-- over a range by a step -/
theorem s_forR3 {ta : TA} {j : Nat} {lo hi c : Int} (m : Nat) (h : Ea ta σ H J [.int lo, .int hi, .int c]) (ej : Ex J H) (hn : RgC lo hi c m) (Pv : Nat → L2.St → Hp → Prop) (h0 : ∀ H1, Ex H H1 → Pv 0 σ H1)
    (hs : ∀ (i : Nat) σ' H', i < m → Pv i σ' H' → tu { D with nx := Pv (i + 1), ct := Pv (i + 1), bk := D.nx } (σ'.set j (some (.int (lo + (i : Int) * c)))) H') (hd : ∀ σ' H', Pv m σ' H' → D.nx σ' H') : tFor (iRng3 ta) (gName j) tu D σ H :=
  h H (Ex.refl H) ej _ fun vs I2 H1 _ e _ _ k => by
    cases k with
    | cons k1 k2 =>
      cases k1
      cases k2 with
      | cons k2 k3 =>
        cases k2
        cases k3 with
        | cons k3 k4 =>
          cases k3
          cases k4
          exact ⟨lo, hi, c, m, rfl, hn, for_rangeC (lo := lo) (c := c) (n := m) Pv (h0 H1 e) (fun i σ' H' hi p => hs i σ' H' hi p) hd⟩
/-! ### comprehensions -/
/-- the list that a comprehension has made so far -/
def Cw (I H : Hp) (Dl : Addr) (es : List PyData) (H' : Hp) : Prop := ∃ I' vs, Ex I I' ∧ Ex H H' ∧ Ex I' H' ∧ New I H I' ∧ I' Dl = none ∧ H' Dl = some (.lst vs) ∧ IsAll I' vs es
theorem Cw.nil {Dl : Addr} (e : Ex I H) (hD : H Dl = none) : Cw I H Dl [] (upd H Dl (.lst [])) := ⟨I, [], Ex.refl _, Ex.new hD, e.mut (e.free hD), New.refl _ _, e.free hD, upd_same, .nil⟩
theorem Cw.put {Dl : Addr} {es : List PyData} {H' : Hp} {σ2 : L2.St} (p : Cw I H Dl es H') (hD : H Dl = none) (hz : es.length < 100000) (h : ∀ I' H', Ex I I' → Ex I' H' → Ex H H' → Ed te σ2 H' I' d) :
    te σ2 H' fun y H4 => ∃ acc, H4 Dl = some (.lst acc) ∧ acc.length < sizeLine ∧ Cw I H Dl (es ++ [d]) (upd H4 Dl (.lst (acc ++ [y]))) := by
  obtain ⟨I', vs, a1, a2, a3, n, hi, hl, hv⟩ := p
  refine h I' H' a1 a3 a2 H' (Ex.refl _) a3 _ fun v I2 H2 b1 b2 b3 n2 k => ⟨vs, b2 _ _ hl, sz_lt (by rw [hv.length]; exact hz), I2, vs ++ [v], a1.trans b1, (a2.trans b2).mut hD, b3.mut (n2.none hl hi), n.trans n2 a2, n2.none hl hi, upd_same, (hv.mono b1).append (.cons k .nil)⟩
theorem Cw.out {Dl : Addr} {es : List PyData} {H1 H' : Hp} {Q : VK} (p : Cw I H Dl es H') (hD : H Dl = none) (e : Ex H1 H) (q : ∀ v I2 H2, Ex I I2 → Ex H1 H2 → Ex I2 H2 → New I H1 I2 → Is I2 v (.list es) → Q v H2) : Q (.ref Dl) H' := by
  obtain ⟨I', vs, a1, a2, a3, n, hi, hl, hv⟩ := p
  exact q (.ref Dl) (upd I' Dl (.lst vs)) H' (a1.trans (Ex.new hi)) (e.trans a2) (a3.lay hl) (fun a o z => by
    by_cases hh : a = Dl
    · subst hh
      exact .inr (e.free hD)
    · rw [upd_ne hh] at z
      exact (n a o z).imp id fun y => e.free y) (.lst upd_same (hv.mono (Ex.new hi)))
/-- [e for x in xs] -/
theorem ed_lcL {tl : TE} {j : Nat} {vs : List Nat} {ds : List PyData} (f : PyData → PyData) (h : Ed tl σ H I (.list ds)) (hz : ds.length ≤ 90000) (hw : ∀ x, wipe ((wipe σ vs).set j (some x)) vs = wipe σ vs)
    (he : ∀ (i : Nat) (d : PyData) (x : V) I' H', ds[i]? = some d → Ex I I' → Ex I' H' → Ex H H' → Is I' x d → Ed te ((wipe σ vs).set j (some x)) H' I' (f d)) : Ed (tLc (iList K tl) (gName j) tYes te vs) σ H I (.list (ds.map f)) := fun H1 e b Q q =>
  h H1 e b _ fun v I2 H2 a1 a2 a3 n k => by
    cases k with
    | @lst a xs _ ka kb =>
      refine ⟨a, rfl, ⟨xs, SqL.of (a3 _ _ ka)⟩, fun Dl hD => ?_⟩
      refine lc_list (xs := xs) (fun i H' => Cw I2 H2 Dl ((ds.take i).map f) H') (Cw.nil a3 hD) (fun i H' _ p => ?_) (fun i x H' hx p => ⟨hw x, ?_⟩) fun H' p => ?_
      · obtain ⟨I', ws, c1, c2, c3, _⟩ := p
        exact SqL.of (c3 _ _ (c1 _ _ ka))
      · obtain ⟨d, hd', kd⟩ := kb.get' hx
        have hi := (List.getElem?_eq_some_iff.mp hd').1
        show te _ H' fun y H4 => ∃ acc, H4 Dl = some (.lst acc) ∧ acc.length < sizeLine ∧ Cw I2 H2 Dl ((ds.take (i + 1)).map f) (upd H4 Dl (.lst (acc ++ [y])))
        have et : (ds.take (i + 1)).map f = (ds.take i).map f ++ [f d] := by
          rw [List.take_add_one, hd', List.map_append]
          rfl
        rw [et]
        refine p.put hD (by rw [List.length_map, List.length_take]; omega) fun I' H' c1 c2 c3 => he i d x I' H' hd' (a1.trans c1) c2 ((e.trans a2).trans c3) (kd.mono c1)
      · rw [kb.length, List.take_length] at p
        exact p.out hD a2 fun v I3 H3 b1 b2 b3 n3 k3 => q v I3 H3 (a1.trans b1) b2 b3 (fun a o z => by
          rcases n3 a o z with y | y
          · exact n a o y
          · exact .inr y) k3
/-- [e for x in range(n)] -/
theorem ed_lcR {ta : TA} {j : Nat} {vs : List Nat} {n : Int} (f : Nat → PyData) (h : Ea ta σ H J [.int n]) (ej : Ex J H) (hn : 0 ≤ n ∧ n ≤ 90000) (hw : ∀ x, wipe ((wipe σ vs).set j (some x)) vs = wipe σ vs)
    (he : ∀ (i : Nat) I' H', (i : Int) < n → Ex I I' → Ex I' H' → Ex H H' → Ed te ((wipe σ vs).set j (some (.int (i : Int)))) H' I' (f i)) : Ed (tLc (iRng1 ta) (gName j) tYes te vs) σ H I (.list ((List.range n.toNat).map f)) := fun H1 e b Q q =>
  h H1 e (ej.trans e) _ fun ws I2 H2 _ a2 _ _ k => by
    cases k with
    | cons k1 k2 =>
      cases k1
      cases k2
      refine ⟨n, rfl, by omega, by omega, fun Dl hD => ?_⟩
      have b2 : Ex I H2 := b.trans a2
      refine lc_range (lo := 0) (n := n.toNat) (fun i H' => Cw I H2 Dl ((List.range i).map f) H') (Cw.nil b2 hD) (fun i H' hi p => ⟨hw _, ?_⟩) fun H' p => ?_
      · have e0 : (0 : Int) + (i : Int) = (i : Int) := Int.zero_add _
        rw [e0]
        show te _ H' fun y H4 => ∃ acc, H4 Dl = some (.lst acc) ∧ acc.length < sizeLine ∧ Cw I H2 Dl ((List.range (i + 1)).map f) (upd H4 Dl (.lst (acc ++ [y])))
        rw [List.range_succ, List.map_append]
        exact p.put hD (by rw [List.length_map, List.length_range]; omega) fun I' H' c1 c2 c3 => he i I' H' (by omega) c1 c2 ((e.trans a2).trans c3)
      · exact p.out hD a2 q
end
end KD
namespace K84
open PySem PySem.Spec PyProof.Rows L2 KD
def topS (i : Nat) : Stmt := PySem.Challenge.pw_diffcompiler_k84_undo_schedules_against.main.body.getD i (.Pass ⟨0, 0, 0, 0⟩)
abbrev s_is_integer : Stmt := topS 7
abbrev s_is_between : Stmt := topS 8
abbrev s_is_list : Stmt := topS 9
abbrev s_is_word : Stmt := topS 10
abbrev s_are_costs : Stmt := topS 21
abbrev s_check_costs : Stmt := topS 22
abbrev s_check_slots : Stmt := topS 23
abbrev s_is_command : Stmt := topS 24
abbrev s_are_commands : Stmt := topS 25
abbrev s_walked : Stmt := topS 27
abbrev s_walk_of : Stmt := topS 28
abbrev s_is_schedule : Stmt := topS 29
abbrev s_schedule_cost : Stmt := topS 30
abbrev s_lone_row : Stmt := topS 32
abbrev s_split_costs : Stmt := topS 33
abbrev s_table_of : Stmt := topS 34
abbrev s_least_cost : Stmt := topS 35
abbrev s_lone_commands : Stmt := topS 36
abbrev s_schedule_of : Stmt := topS 37
abbrev s_best_schedule : Stmt := topS 38
abbrev s_choices : Stmt := topS 39
abbrev s_least_runs : Stmt := topS 40
abbrev s_alike_in : Stmt := topS 41
abbrev s_check_kinds : Stmt := topS 43
abbrev s_undo_walk : Stmt := topS 44
abbrev s_is_undo_schedule : Stmt := topS 45
abbrev s_undo_count : Stmt := topS 46
abbrev s_places_of : Stmt := topS 47
abbrev s_least_count : Stmt := topS 48
abbrev s_unit_turned : Stmt := topS 49
abbrev s_moved : Stmt := topS 50
abbrev s_undoing_of : Stmt := topS 51
abbrev s_best_undoing : Stmt := topS 52
abbrev s__law_cell : Stmt := topS 54
abbrev s__law_box : Stmt := topS 55
abbrev s__law_take : Stmt := topS 56
abbrev s__law_same : Stmt := topS 57
abbrev s__law_alike_cost : Stmt := topS 58
abbrev s__law_due : Stmt := topS 59
abbrev s__law_walked : Stmt := topS 60
abbrev s__law_searched : Stmt := topS 61
abbrev s__law_slow : Stmt := topS 62
abbrev s__law_near : Stmt := topS 63
abbrev s__law_kinds_right : Stmt := topS 64
abbrev s__law_plain_right : Stmt := topS 65
abbrev s_law : Stmt := topS 66
abbrev s_Walk___init__ : Stmt := inClass (topS 26) 0
abbrev s_Walk_does_turn : Stmt := inClass (topS 26) 1
abbrev s_Walk_does_move : Stmt := inClass (topS 26) 2
abbrev s_Walk_does : Stmt := inClass (topS 26) 3
/-- what the top has left -/
structure Txt (K : PySem.W.Frag) (mg : Str → Option Value) (C : Addr) : Prop where
  b_isinstance : mg "isinstance" = none
  b_all : mg "all" = none
  b_sum : mg "sum" = none
  b_range : mg "range" = none
  b_len : mg "len" = none
  b_bool : mg "bool" = none
  b_int : mg "int" = none
  b_str : mg "str" = none
  b_dict : mg "dict" = none
  b_list : mg "list" = none
  b_tuple : mg "tuple" = none
  b_abs : mg "abs" = none
  b_max : mg "max" = none
  b_enumerate : mg "enumerate" = none
  b_min : mg "min" = none
  b_sorted : mg "sorted" = none
  k_MOST_ROUNDS : ∃ u, mg "MOST_ROUNDS" = some u ∧ RelV (.int 60) u
  k_MOST_COST : ∃ u, mg "MOST_COST" = some u ∧ RelV (.int 1000000) u
  k_MOST_SLOTS : ∃ u, mg "MOST_SLOTS" = some u ∧ RelV (.int 40) u
  k_MOST_COMMANDS : ∃ u, mg "MOST_COMMANDS" = some u ∧ RelV (.int 4000) u
  k_KEEP : ∃ u, mg "KEEP" = some u ∧ RelV (.str "keep") u
  k_TAKE : ∃ u, mg "TAKE" = some u ∧ RelV (.str "take") u
  k_RUN : ∃ u, mg "RUN" = some u ∧ RelV (.str "run") u
  k_TURN : ∃ u, mg "TURN" = some u ∧ RelV (.str "turn") u
  k_UNDO : ∃ u, mg "UNDO" = some u ∧ RelV (.str "undo") u
  cl : Cls K C
  n_kinds : NoAttr K C "kinds"
  n_here : NoAttr K C "here"
  n_left : NoAttr K C "left"
  n_slots : NoAttr K C "slots"
  n_runs : NoAttr K C "runs"
/-- a def of the top -/
def Fn (K : PySem.W.Frag) (mg : Str → Option Value) (x : Str) (st : Stmt) : Prop := ∃ (f : Addr) (fd : FuncData), FunD K x x (defArgs st) (defBody st) (defScope st) [] [] f fd ∧ mg x = some (.ref f)
/-- .. that keeps a promise -/
structure Cal (P : Program) (w : World) (K : PySem.W.Frag) (mg : Str → Option Value) (base : Heap) (k : Nat) (x : Str) (ps : List Str) (st : Stmt) (sp : Sp) : Prop where
  ex : ∃ (f : Addr) (fd : FuncData), FnOk P w K mg base CX0 k f fd ps sp ∧ mg x = some (.ref f) ∧ PySem.W.keepIn K (.ref f) = true ∧ Binds K fd ps [] ∧ FunD K x x (defArgs st) (defBody st) (defScope st) [] [] f fd
section
variable {P : Program} {w : World} {K : PySem.W.Frag} {mg : Str → Option Value} {base : Heap} {k : Nat} {x : Str} {ps N : List Str} {st : Stmt} {sp : Sp}
theorem cal_mk (F : Fn K mg x st) (S : FnScope N ps (defScope st))
    (hb : ∀ (kV doc pm : Value) (an : Option Addr) (cdv ct : Value) (us : List Value), us.length = ps.length → bindArgs (PySem.W.fnOf x x (defArgs st) (defBody st) (defScope st) .none kV doc pm an cdv ct) ⟨us, []⟩ = pure (ps.zip us))
    (len : ∀ vs H Q E, sp vs H Q E → vs.length = ps.length)
    (hbody : ∀ (f : Addr) (cdv : Value) (A : Around) (outer : List Env) (s : Shared) (H : Hp) (vs : List V) (Q : VK) (E : XK), Room k (A.deeper (envOfC x (defScope st) s.heap.objs.size f cdv)) → sp vs H Q E →
      ∃ t, PSs (cxOf CX0 P w K mg base N x (defScope st) f cdv A outer s H E).nox (defBody st) t ∧ t { nx := fun _ H' => Q .non H', rt := Q } (start N vs) H) : Cal P w K mg base (k + 1) x ps st sp := by
  obtain ⟨f, fd, F, g⟩ := F
  refine ⟨f, fd, F.ok S len (fun cdv A outer s H vs Q E hr h => ?_), g, F.kp, F.bindsN hb, F⟩
  obtain ⟨t, h1, h2⟩ := hbody f cdv A outer s H vs Q E hr h
  exact ⟨t, h1.nox, h2⟩
theorem Cal.imp {sp' : Sp} (c : Cal P w K mg base k x ps st sp) (h : ∀ vs H Q E, sp' vs H Q E → sp vs H Q E) : Cal P w K mg base k x ps st sp' := by
  obtain ⟨f, fd, F, a, b, c, d⟩ := c.ex
  exact ⟨f, fd, F.imp h, a, b, c, d⟩
end
section
variable {X : Cx} {k j : Nat} {x : Str} {ps : List Str} {st : Stmt} {sp : Sp} {p pos : Pos} {e : Expr} {es : List Expr} {t tk : TA}
theorem pe_cal (c : Cal X.prog X.w X.K X.mg X.base k x ps st sp) (hr : Room j X.A) (hk : k ≤ j) (hg : Gl X x) (ha : PA X (e :: es) t)
    (hdb : (x == ("__debug__" : Str)) = false := by decide) (he : starEach (e :: es) X.env = (false, eval e X.env) :: starEach es X.env := by rfl) (hpl : (backTo pos (starEach es X.env)).any (·.1) = false := by rfl) :
    PE X (.Call (.Name x p) (e :: es) [] pos) (tCall sp [] E0 t) := by
  obtain ⟨f, fd, F, hm, kp, b, _⟩ := c.ex
  exact pe_call F (hr.mono hk) hg hm kp b .nil pass0 ha hdb he hpl
/-- a constant of the module -/
theorem pe_gk {v : V} (hm : ∃ u, X.mg x = some u ∧ RelV v u) (hg : Gl X x) (hd : (x == ("__debug__" : Str)) = false := by decide) : PE X (.Name x pos) (tC v) := by
  obtain ⟨u, h, r⟩ := hm
  exact pe_glob hg h r hd
/-- f(k = v, ..): keywords alone -/
theorem pe_kw {ks : List Str} {kws : List Keyword} {g : List Value → List Value → List Value} {gV : List V → List V → List V} {f : Addr} {fd : FuncData} (F : FnOk X.prog X.w X.K X.mg X.base CX0 k f fd ps sp) (hr : Room k X.A) (hg : Gl X x) (hm : X.mg x = some (.ref f)) (hk : PySem.W.keepIn X.K (.ref f) = true) (hb : KBn X.K fd ps 0 ks g gV)
    (hkw : PK X kws tk) (hall : (backToKw pos (keywordEach kws X.env)).all (·.1.isSome) = true := by rfl) (hks : (backToKw pos (keywordEach kws X.env)).filterMap (·.1) = ks := by rfl)
    (hdb : (x == ("__debug__" : Str)) = false := by decide) (hpl : ((backTo pos (starEach [] X.env)).any (·.1) || (backToKw pos (keywordEach kws X.env)).any (·.1.isNone)) = false := by rfl) :
    PE X (.Call (.Name x p) [] kws pos) (tCallN 0 ks.length sp gV E0 tNil tk) := by
  refine ⟨fun pins s σ H Q I h => ?_⟩
  refine wpAny_Call_Name_kw (ld_glob I hg hm ?_ hdb)
  refine PySem.W.callWith_KW0 (h₀ := X.base) I.ok.mod.kin hk hall ?_ hpl
  have h : tk σ H fun zs H2 => ([] : List V).length = 0 ∧ zs.length = ks.length ∧ sp (gV [] zs) H2 Q E0 := h
  refine thn (hkw.run pos pins s σ H _ I h) fun ws s2 ⟨zs, H2, I2, rz, l1, l2, q2⟩ => ⟨I2.kIn, ?_⟩
  rw [hks]
  exact run_fnN F hr hb pass0 I2 .nil rz l1 l2 q2
end
end K84
namespace KD
open PySem PySem.Spec PyProof.Rows L2
/-! ### kinds of data -/
def tyN : PyData → String
  | .none => "NoneType" | .bool _ => "bool" | .int _ => "int" | .str _ => "str" | .list _ => "list" | .tuple _ => "tuple" | .dict _ => "dict"
theorem Is.ty {K : PySem.W.Frag} {H : Hp} {v : V} {d : PyData} (h : Is H v d) : TyOf K H v (.type (tyN d)) := by
  cases h with
  | non => exact .non
  | bl b => exact .bl b
  | int i => exact .int i
  | str s => exact .str s
  | lst a b => exact .lst a
  | tup a b => exact .tup a
  | dct a => exact .dK a
def isB : PyData → Bool | .bool _ => true | _ => false
def isI : PyData → Bool | .bool _ => true | .int _ => true | _ => false
def isInt : PyData → Bool | .int _ => true | _ => false
def isStr : PyData → Bool | .str _ => true | _ => false
def isL : PyData → Bool | .list _ => true | _ => false
def isTup : PyData → Bool | .tuple _ => true | _ => false
def isSeq : PyData → Bool | .list _ => true | .tuple _ => true | _ => false
def isDct : PyData → Bool | .dict _ => true | _ => false
theorem kit_int (d : PyData) : kitB (tyN d) "int" = some (isI d) := by cases d <;> (simp only [tyN, isI]; decide +kernel)
theorem kit_bool (d : PyData) : kitB (tyN d) "bool" = some (isB d) := by cases d <;> (simp only [tyN, isB]; decide +kernel)
theorem kit_str (d : PyData) : kitB (tyN d) "str" = some (isStr d) := by cases d <;> (simp only [tyN, isStr]; decide +kernel)
theorem kit_list (d : PyData) : kitB (tyN d) "list" = some (isL d) := by cases d <;> (simp only [tyN, isL]; decide +kernel)
theorem kit_tuple (d : PyData) : kitB (tyN d) "tuple" = some (isTup d) := by cases d <;> (simp only [tyN, isTup]; decide +kernel)
theorem kit_dict (d : PyData) : kitB (tyN d) "dict" = some (isDct d) := by cases d <;> (simp only [tyN, isDct]; decide +kernel)
section
variable {K : PySem.W.Frag} {σ : L2.St} {H I J : Hp} {ta tb tc te : TE} {t u : TT} {x y z v : V} {d : PyData}
theorem ed_isi {T : String} {b : Bool} (hk : kitB (tyN d) T = some b) (h : Ed ta σ H J d) (ej : Ex J H) : Ed (tCB (rIsi K) (tCons ta (tCons (tC (.ty T)) tNil))) σ H I (.bool b) := fun H1 e k Q q =>
  h H1 e (ej.trans e) _ fun v I2 H2 a1 a2 a3 n kv => ⟨v, .ty T, .type (tyN d), .type T, b, rfl, .ty T, .base (kv.mono a3).ty, kit_ty hk, q _ I H2 (Ex.refl _) a2 (k.trans a2) (New.refl _ _) (.bl b)⟩
theorem ed_isiT {b1 b2 : Bool} {T1 T2 : String} (h1 : kitB (tyN d) T1 = some b1) (h2 : kitB (tyN d) T2 = some b2) (h : Ed ta σ H J d) (ej : Ex J H) : Ed (tCB (rIsiT K) (tCons ta (tCons (tTup (tCons (tC (.ty T1)) (tCons (tC (.ty T2)) tNil))) tNil))) σ H I (.bool (b1 || b2)) := fun H1 e k Q q =>
  h H1 e (ej.trans e) _ fun v I2 H2 a1 a2 a3 n kv => ⟨by show 2 ≤ sizeLine; decide, fun p hp => ⟨v, p, [.ty T1, .ty T2], .type (tyN d), [.type T1, .type T2], b1 || b2, rfl, upd_same, .cons (.ty T1) (.cons (.ty T2) .nil), .base (kv.mono (a3.trans (Ex.new hp))).ty,
    kitAny_cons (kit_ty h1) (fun e1 => kitAny_cons (kit_ty h2) (fun e2 => by rw [e1, e2]; rfl) (fun e2 => by rw [e1, e2]; rfl)) (fun e1 => by rw [e1]; rfl), q _ I _ (Ex.refl _) (a2.trans (Ex.new hp)) (k.trans (a2.trans (Ex.new hp))) (New.refl _ _) (.bl _)⟩⟩
/-- s in a tuple of texts -/
theorem inV_str (s : Str) : ∀ ws : List Str, inV (.str s) (ws.map V.str) = ws.contains s
  | [] => rfl
  | w :: ws => by
    have ih := inV_str s ws
    unfold inV at ih ⊢
    rw [List.map_cons, List.any_cons, ih, List.contains_cons]
    congr 1
    show (w == s) = (s == w)
    exact Bool.eq_iff_iff.mpr ⟨fun h => by rw [beq_iff_eq] at h ⊢; exact h.symm, fun h => by rw [beq_iff_eq] at h ⊢; exact h.symm⟩
theorem strs_of {H : Hp} : ∀ {ws : List Str} {vs : List V}, IsAll H vs (ws.map PyData.str) → vs = ws.map V.str
  | [], _, h => by cases h; rfl
  | w :: ws, _, h => by
    cases h with
    | cons a b =>
      cases a
      rw [strs_of b]
      rfl
theorem ints_of {H : Hp} : ∀ {ns : List Int} {vs : List V}, IsAll H vs (ns.map PyData.int) → vs = ns.map V.int
  | [], _, h => by cases h; rfl
  | w :: ws, _, h => by
    cases h with
    | cons a b =>
      cases a
      rw [ints_of b]
      rfl
theorem bls_of {H : Hp} : ∀ {ns : List Bool} {vs : List V}, IsAll H vs (ns.map PyData.bool) → vs = ns.map V.bl
  | [], _, h => by cases h; rfl
  | w :: ws, _, h => by
    cases h with
    | cons a b =>
      cases a
      rw [bls_of b]
      rfl
theorem isAll_ints {H : Hp} : ∀ ns : List Int, IsAll H (ns.map V.int) (ns.map PyData.int)
  | [] => .nil
  | n :: ns => .cons (.int n) (isAll_ints ns)
theorem flat_strs (ws : List Str) : (ws.map V.str).all flatV = true := by
  rw [List.all_map, List.all_eq_true]
  intro _ _
  rfl
theorem flat_ints (ws : List Int) : (ws.map V.int).all flatV = true := by
  rw [List.all_map, List.all_eq_true]
  intro _ _
  rfl
theorem ed_inS {s : Str} {ws : List Str} (ha : Ed ta σ H J (.str s)) (hb : Ed tb σ H J (.tuple (ws.map PyData.str))) (ej : Ex J H) (ei : Ex I H) : Ed (tOp (rIn K false) ta tb) σ H I (.bool (ws.contains s)) :=
  ed_sc (.bl _) ha hb ej ei fun v1 v2 I2 H2 _ e k1 k2 Q q => by
    cases k1
    cases k2 with
    | @tup p xs _ kp ka =>
      have ex := strs_of ka
      subst ex
      refine ⟨p, _, rfl, .inr (SqT.of (e _ _ kp)), rfl, flat_strs ws, ?_⟩
      show Q (.bl (inV (.str s) (ws.map V.str))) H2
      rw [inV_str]
      exact q H2 (Ex.refl _)
theorem inV_int (s : Int) : ∀ ws : List Int, inV (.int s) (ws.map V.int) = ws.contains s
  | [] => rfl
  | w :: ws => by
    have ih := inV_int s ws
    unfold inV at ih ⊢
    rw [List.map_cons, List.any_cons, ih, List.contains_cons]
    congr 1
    show (w == s) = (s == w)
    exact Bool.eq_iff_iff.mpr ⟨fun h => by rw [beq_iff_eq] at h ⊢; exact h.symm, fun h => by rw [beq_iff_eq] at h ⊢; exact h.symm⟩
theorem ed_niIT {s : Int} {ws : List Int} (ha : Ed ta σ H J (.int s)) (hb : Ed tb σ H J (.tuple (ws.map PyData.int))) (ej : Ex J H) (ei : Ex I H) : Ed (tOp (rIn K true) ta tb) σ H I (.bool (!ws.contains s)) :=
  ed_sc (.bl _) ha hb ej ei fun v1 v2 I2 H2 _ e k1 k2 Q q => by
    cases k1
    cases k2 with
    | @tup p xs _ kp ka =>
      have ex := ints_of ka
      subst ex
      refine ⟨p, _, rfl, .inr (SqT.of (e _ _ kp)), rfl, flat_ints ws, ?_⟩
      show Q (.bl (!inV (.int s) (ws.map V.int))) H2
      rw [inV_int]
      exact q H2 (Ex.refl _)
theorem ed_inIL {s : Int} {ws : List Int} (ha : Ed ta σ H J (.int s)) (hb : Ed tb σ H J (.list (ws.map PyData.int))) (ej : Ex J H) (ei : Ex I H) : Ed (tOp (rIn K false) ta tb) σ H I (.bool (ws.contains s)) :=
  ed_sc (.bl _) ha hb ej ei fun v1 v2 I2 H2 _ e k1 k2 Q q => by
    cases k1
    cases k2 with
    | @lst p xs _ kp ka =>
      have ex := ints_of ka
      subst ex
      refine ⟨p, _, rfl, .inl (SqL.of (e _ _ kp)), rfl, flat_ints ws, ?_⟩
      show Q (.bl (inV (.int s) (ws.map V.int))) H2
      rw [inV_int]
      exact q H2 (Ex.refl _)
/-- len, sum, all, min of data -/
def rLenSq (K : PySem.W.Frag) : List V → Hp → VK → Prop := fun xs H Q => ∃ p ys, xs = [.ref p] ∧ (SqL K H p ys ∨ SqT K H p ys) ∧ Q (.int (ys.length : Nat)) H
theorem ed_lenL {ds : List PyData} (h : Ed ta σ H J (.list ds)) (ej : Ex J H) : Ed (tCB (rLenSq K) (tCons ta tNil)) σ H I (.int ds.length) := fun H1 e k Q q =>
  h H1 e (ej.trans e) _ fun v I2 H2 a1 a2 a3 n kv => by
    cases kv with
    | @lst p xs _ kp ka => exact ⟨p, xs, rfl, .inl (SqL.of (a3 _ _ kp)), by rw [ka.length]; exact q _ I H2 (Ex.refl _) a2 (k.trans a2) (New.refl _ _) (.int _)⟩
theorem ed_lenT {ds : List PyData} (h : Ed ta σ H J (.tuple ds)) (ej : Ex J H) : Ed (tCB (rLenSq K) (tCons ta tNil)) σ H I (.int ds.length) := fun H1 e k Q q =>
  h H1 e (ej.trans e) _ fun v I2 H2 a1 a2 a3 n kv => by
    cases kv with
    | @tup p xs _ kp ka => exact ⟨p, xs, rfl, .inr (SqT.of (a3 _ _ kp)), by rw [ka.length]; exact q _ I H2 (Ex.refl _) a2 (k.trans a2) (New.refl _ _) (.int _)⟩
theorem ed_sum {ns : List Int} (h : Ed ta σ H J (.list (ns.map PyData.int))) (ej : Ex J H) : Ed (tCB (rSum K) (tCons ta tNil)) σ H I (.int ns.sum) := fun H1 e k Q q =>
  h H1 e (ej.trans e) _ fun v I2 H2 a1 a2 a3 n kv => by
    cases kv with
    | @lst p xs _ kp ka =>
      have ex := ints_of ka
      subst ex
      exact ⟨p, ns, rfl, SqL.of (a3 _ _ kp), q _ I H2 (Ex.refl _) a2 (k.trans a2) (New.refl _ _) (.int _)⟩
theorem ed_all {ns : List Bool} (h : Ed ta σ H J (.list (ns.map PyData.bool))) (ej : Ex J H) : Ed (tCB (rAll K) (tCons ta tNil)) σ H I (.bool (ns.all id)) := fun H1 e k Q q =>
  h H1 e (ej.trans e) _ fun v I2 H2 a1 a2 a3 n kv => by
    cases kv with
    | @lst p xs _ kp ka =>
      have ex := bls_of ka
      subst ex
      exact ⟨p, ns, rfl, SqL.of (a3 _ _ kp), q _ I H2 (Ex.refl _) a2 (k.trans a2) (New.refl _ _) (.bl _)⟩
theorem ed_min {ns : List Int} {m : Int} (hm : m ∈ ns) (hl : ∀ y ∈ ns, m ≤ y) (h : Ed ta σ H J (.list (ns.map PyData.int))) (ej : Ex J H) : Ed (tCB (rMin K) (tCons ta tNil)) σ H I (.int m) := fun H1 e k Q q =>
  h H1 e (ej.trans e) _ fun v I2 H2 a1 a2 a3 n kv => by
    cases kv with
    | @lst p xs _ kp ka =>
      have ex := ints_of ka
      subst ex
      refine ⟨p, ns, rfl, SqL.of (a3 _ _ kp), List.length_pos_of_mem hm, fun m' h1 h2 => ?_⟩
      have e1 : m' = m := Int.le_antisymm (h2 m hm) (hl m' h1)
      rw [e1]
      exact q _ I H2 (Ex.refl _) a2 (k.trans a2) (New.refl _ _) (.int _)
theorem ed_intI {n : Int} (h : Ed ta σ H J (.int n)) (ej : Ex J H) : Ed (tCB (fun xs H Q => (∃ i, xs = [.int i] ∧ Q (.int i) H) ∨ ∃ k, xs = [.bl k] ∧ Q (.int (if k then 1 else 0)) H) (tCons ta tNil)) σ H I (.int n) := fun H1 e k Q q =>
  h.int ej H1 e _ fun H2 a2 => .inl ⟨n, rfl, q _ I H2 (Ex.refl _) a2 (k.trans a2) (New.refl _ _) (.int _)⟩
theorem ed_intB {b : Bool} (h : Ed ta σ H J (.bool b)) (ej : Ex J H) : Ed (tCB (fun xs H Q => (∃ i, xs = [.int i] ∧ Q (.int i) H) ∨ ∃ k, xs = [.bl k] ∧ Q (.int (if k then 1 else 0)) H) (tCons ta tNil)) σ H I (.int (if b then 1 else 0)) := fun H1 e k Q q =>
  h.bl ej H1 e _ fun H2 a2 => .inr ⟨b, rfl, q _ I H2 (Ex.refl _) a2 (k.trans a2) (New.refl _ _) (.int _)⟩
theorem ed_abs {n : Int} (h : Ed ta σ H J (.int n)) (ej : Ex J H) : Ed (tCB (fun xs H Q => ∃ i, xs = [.int i] ∧ Q (.int (if i < 0 then -i else i)) H) (tCons ta tNil)) σ H I (.int (if n < 0 then -n else n)) := fun H1 e k Q q =>
  h.int ej H1 e _ fun H2 a2 => ⟨n, rfl, q _ I H2 (Ex.refl _) a2 (k.trans a2) (New.refl _ _) (.int _)⟩
theorem ed_neg {n : Int} (h : Ed ta σ H J (.int n)) (ej : Ex J H) : Ed (tUn (rU fun i => .int (-i)) ta) σ H I (.int (-n)) := fun H1 e k Q q =>
  h.int ej H1 e _ fun H2 a2 => ⟨n, rfl, q _ I H2 (Ex.refl _) a2 (k.trans a2) (New.refl _ _) (.int _)⟩
theorem ed_fdiv {i j : Int} (hj : j ≠ 0 ∧ j.natAbs < 1073741824) (ha : Ed ta σ H J (.int i)) (hb : Ed tb σ H J (.int j)) (ej : Ex J H) (ei : Ex I H) : Ed (tOp (rI CDivN fun i j => .int (i.fdiv j)) ta tb) σ H I (.int (i.fdiv j)) := ed_I (.int _) hj ha hb ej ei
theorem ed_mod {i j : Int} (hj : j ≠ 0) (ha : Ed ta σ H J (.int i)) (hb : Ed tb σ H J (.int j)) (ej : Ex J H) (ei : Ex I H) : Ed (tOp (rI (fun _ j => j ≠ 0) fun i j => .int (i.fmod j)) ta tb) σ H I (.int (i.fmod j)) := ed_I (.int _) hj ha hb ej ei
theorem ed_pow {i j : Int} (hj : CPow i j) (ha : Ed ta σ H J (.int i)) (hb : Ed tb σ H J (.int j)) (ej : Ex J H) (ei : Ex I H) : Ed (tOp (rI CPow fun i j => .int (i ^ j.toNat)) ta tb) σ H I (.int (i ^ j.toNat)) := ed_I (.int _) hj ha hb ej ei
/-- calls: a scalar comes, told over anything; data comes, over the arguments' data -/
theorem ed_callI {α : Type} {args : α → List PyData} {pre : α → Prop} {res : α → PyData} {E : XK} {ta : TA} {n : Int} (a : α) (hs : res a = .int n) (hp : pre a) (h : Ea ta σ H J (args a)) (ej : Ex J H) : Ed (tCall (spOf args pre res) [] E ta) σ H I (.int n) := fun H1 e1 b Q q => by
  refine h H1 e1 (ej.trans e1) _ fun vs I2 H2 a1 a2 a3 n k => ⟨a, I2, a3, by rw [List.append_nil]; exact k, hp, fun v I3 H3 b1 b2 b3 n2 k2 => ?_⟩
  rw [hs] at k2
  cases k2
  exact q _ I H3 (Ex.refl _) (a2.trans b2) (b.trans (a2.trans b2)) (New.refl _ _) (.int _)
theorem ed_callB {α : Type} {args : α → List PyData} {pre : α → Prop} {res : α → PyData} {E : XK} {ta : TA} {n : Bool} (a : α) (hs : res a = .bool n) (hp : pre a) (h : Ea ta σ H J (args a)) (ej : Ex J H) : Ed (tCall (spOf args pre res) [] E ta) σ H I (.bool n) := fun H1 e1 b Q q => by
  refine h H1 e1 (ej.trans e1) _ fun vs I2 H2 a1 a2 a3 n k => ⟨a, I2, a3, by rw [List.append_nil]; exact k, hp, fun v I3 H3 b1 b2 b3 n2 k2 => ?_⟩
  rw [hs] at k2
  cases k2
  exact q _ I H3 (Ex.refl _) (a2.trans b2) (b.trans (a2.trans b2)) (New.refl _ _) (.bl _)
theorem ed_callD {α : Type} {args : α → List PyData} {pre : α → Prop} {res : α → PyData} {E : XK} {ta : TA} (a : α) (hp : pre a) (h : Ea ta σ H I (args a)) : Ed (tCall (spOf args pre res) [] E ta) σ H I (res a) := fun H1 e1 b Q q => by
  refine h H1 e1 b _ fun vs I2 H2 a1 a2 a3 n k => ⟨a, I2, a3, by rw [List.append_nil]; exact k, hp, fun v I3 H3 b1 b2 b3 n2 k2 => ?_⟩
  exact q v I3 H3 (a1.trans b1) (a2.trans b2) b3 (n.trans n2 a2) k2
theorem spOf_len {α : Type} {args : α → List PyData} {pre : α → Prop} {res : α → PyData} {n : Nat} (hn : ∀ a, (args a).length = n) {vs : List V} {H : Hp} {Q : VK} {E : XK} (h : spOf args pre res vs H Q E) : vs.length = n := by
  obtain ⟨a, I, _, k, _⟩ := h
  rw [k.length, hn]
end
theorem isAll1 {H : Hp} {vs : List V} {d1 : PyData} (h : IsAll H vs [d1]) : ∃ v1, vs = [v1] ∧ Is H v1 d1 := by
  cases h with
  | cons a b =>
    cases b
    exact ⟨_, rfl, a⟩
theorem isAll2 {H : Hp} {vs : List V} {d1 d2 : PyData} (h : IsAll H vs [d1, d2]) : ∃ v1 v2, vs = [v1, v2] ∧ Is H v1 d1 ∧ Is H v2 d2 := by
  cases h with
  | cons a b =>
    obtain ⟨v2, rfl, k2⟩ := isAll1 b
    exact ⟨_, v2, rfl, a, k2⟩
theorem isAll3 {H : Hp} {vs : List V} {d1 d2 d3 : PyData} (h : IsAll H vs [d1, d2, d3]) : ∃ v1 v2 v3, vs = [v1, v2, v3] ∧ Is H v1 d1 ∧ Is H v2 d2 ∧ Is H v3 d3 := by
  cases h with
  | cons a b =>
    obtain ⟨v2, v3, rfl, k2, k3⟩ := isAll2 b
    exact ⟨_, v2, v3, rfl, a, k2, k3⟩
theorem isAll4 {H : Hp} {vs : List V} {d1 d2 d3 d4 : PyData} (h : IsAll H vs [d1, d2, d3, d4]) : ∃ v1 v2 v3 v4, vs = [v1, v2, v3, v4] ∧ Is H v1 d1 ∧ Is H v2 d2 ∧ Is H v3 d3 ∧ Is H v4 d4 := by
  cases h with
  | cons a b =>
    obtain ⟨v2, v3, v4, rfl, k2, k3, k4⟩ := isAll3 b
    exact ⟨_, v2, v3, v4, rfl, a, k2, k3, k4⟩
theorem isAll5 {H : Hp} {vs : List V} {d1 d2 d3 d4 d5 : PyData} (h : IsAll H vs [d1, d2, d3, d4, d5]) : ∃ v1 v2 v3 v4 v5, vs = [v1, v2, v3, v4, v5] ∧ Is H v1 d1 ∧ Is H v2 d2 ∧ Is H v3 d3 ∧ Is H v4 d4 ∧ Is H v5 d5 := by
  cases h with
  | cons a b =>
    obtain ⟨v2, v3, v4, v5, rfl, k2, k3, k4, k5⟩ := isAll4 b
    exact ⟨_, v2, v3, v4, v5, rfl, a, k2, k3, k4, k5⟩
section
variable {K : PySem.W.Frag} {σ : L2.St} {H I : Hp} {ta tb tc te : TE} {d : PyData}
theorem ad_add {i j : Int} (ha : Ed ta σ H I (.int i)) (hb : Ed tb σ H I (.int j)) (ei : Ex I H) : Ed (tOp (rI0 fun i j => .int (i + j)) ta tb) σ H I (.int (i + j)) := ed_add ha hb ei ei
theorem ad_sub {i j : Int} (ha : Ed ta σ H I (.int i)) (hb : Ed tb σ H I (.int j)) (ei : Ex I H) : Ed (tOp (rI0 fun i j => .int (i - j)) ta tb) σ H I (.int (i - j)) := ed_sub ha hb ei ei
theorem ad_lt {i j : Int} (ha : Ed ta σ H I (.int i)) (hb : Ed tb σ H I (.int j)) (ei : Ex I H) : Ed (tOp (rI0 fun i j => .bl (decide (i < j))) ta tb) σ H I (.bool (decide (i < j))) := ed_lt ha hb ei ei
theorem ad_le {i j : Int} (ha : Ed ta σ H I (.int i)) (hb : Ed tb σ H I (.int j)) (ei : Ex I H) : Ed (tOp (rI0 fun i j => .bl (decide (i ≤ j))) ta tb) σ H I (.bool (decide (i ≤ j))) := ed_le ha hb ei ei
theorem ad_gt {i j : Int} (ha : Ed ta σ H I (.int i)) (hb : Ed tb σ H I (.int j)) (ei : Ex I H) : Ed (tOp (rI0 fun i j => .bl (decide (j < i))) ta tb) σ H I (.bool (decide (j < i))) := ed_gt ha hb ei ei
theorem ad_ge {i j : Int} (ha : Ed ta σ H I (.int i)) (hb : Ed tb σ H I (.int j)) (ei : Ex I H) : Ed (tOp (rI0 fun i j => .bl (decide (j ≤ i))) ta tb) σ H I (.bool (decide (j ≤ i))) := ed_ge ha hb ei ei
theorem ad_eqI {i j : Int} (ha : Ed ta σ H I (.int i)) (hb : Ed tb σ H I (.int j)) (ei : Ex I H) : Ed (tOp rEq ta tb) σ H I (.bool (decide (i = j))) := ed_eqI ha hb ei ei
theorem ad_neI {i j : Int} (ha : Ed ta σ H I (.int i)) (hb : Ed tb σ H I (.int j)) (ei : Ex I H) : Ed (tOp rNe ta tb) σ H I (.bool (!decide (i = j))) := ed_neI ha hb ei ei
theorem ad_eqS {i j : Str} (ha : Ed ta σ H I (.str i)) (hb : Ed tb σ H I (.str j)) (ei : Ex I H) : Ed (tOp rEq ta tb) σ H I (.bool (decide (i = j))) := ed_eqS ha hb ei ei
theorem ad_neS {i j : Str} (ha : Ed ta σ H I (.str i)) (hb : Ed tb σ H I (.str j)) (ei : Ex I H) : Ed (tOp rNe ta tb) σ H I (.bool (!decide (i = j))) := ed_neS ha hb ei ei
theorem ad_neg {n : Int} (h : Ed ta σ H I (.int n)) (ei : Ex I H) : Ed (tUn (rU fun i => .int (-i)) ta) σ H I (.int (-n)) := ed_neg h ei
theorem ad_tup {ta : TA} {ds : List PyData} (h : Ea ta σ H I ds) (hl : ds.length ≤ 100000 := by decide) : Ed (tTup ta) σ H I (.tuple ds) := ed_tup h hl
theorem ad_lst {ta : TA} {ds : List PyData} (h : Ea ta σ H I ds) (hl : ds.length ≤ 100000 := by decide) : Ed (tLst ta) σ H I (.list ds) := ed_lst h hl
theorem ad_mul {i j : Int} (hc : CMul i j) (ha : Ed ta σ H I (.int i)) (hb : Ed tb σ H I (.int j)) (ei : Ex I H) : Ed (tOp (rI CMul fun i j => .int (i * j)) ta tb) σ H I (.int (i * j)) := ed_mul hc ha hb ei ei
theorem ad_fdiv {i j : Int} (hj : j ≠ 0 ∧ j.natAbs < 1073741824) (ha : Ed ta σ H I (.int i)) (hb : Ed tb σ H I (.int j)) (ei : Ex I H) : Ed (tOp (rI CDivN fun i j => .int (i.fdiv j)) ta tb) σ H I (.int (i.fdiv j)) := ed_fdiv hj ha hb ei ei
theorem ad_mod {i j : Int} (hj : j ≠ 0) (ha : Ed ta σ H I (.int i)) (hb : Ed tb σ H I (.int j)) (ei : Ex I H) : Ed (tOp (rI (fun _ j => j ≠ 0) fun i j => .int (i.fmod j)) ta tb) σ H I (.int (i.fmod j)) := ed_mod hj ha hb ei ei
theorem ad_pow {i j : Int} (hj : CPow i j) (ha : Ed ta σ H I (.int i)) (hb : Ed tb σ H I (.int j)) (ei : Ex I H) : Ed (tOp (rI CPow fun i j => .int (i ^ j.toNat)) ta tb) σ H I (.int (i ^ j.toNat)) := ed_pow hj ha hb ei ei
theorem ad_lenL {ds : List PyData} (h : Ed ta σ H I (.list ds)) (ei : Ex I H) : Ed (tCB (rLenSq K) (tCons ta tNil)) σ H I (.int ds.length) := ed_lenL h ei
theorem ad_lenT {ds : List PyData} (h : Ed ta σ H I (.tuple ds)) (ei : Ex I H) : Ed (tCB (rLenSq K) (tCons ta tNil)) σ H I (.int ds.length) := ed_lenT h ei
theorem ad_andV {a b : Bool} (h1 : Ed ta σ H I (.bool a)) (h2 : a = true → Ed tb σ H I (.bool b)) (ei : Ex I H) : Ed (tAndV ta tb) σ H I (.bool (a && b)) := ed_andV h1 h2 ei
theorem ad_orV {a b : Bool} (h1 : Ed ta σ H I (.bool a)) (h2 : a = false → Ed tb σ H I (.bool b)) (ei : Ex I H) : Ed (tOrV ta tb) σ H I (.bool (a || b)) := ed_orV h1 h2 ei
theorem ad_notV {a : Bool} (h1 : Ed ta σ H I (.bool a)) (ei : Ex I H) : Ed (tNotV ta) σ H I (.bool (!a)) := ed_notV h1 ei
end
/-! ### how far one has come: from data I0 and heap H0 to I and H -/
structure Go (I0 H0 I H : Hp) : Prop where
  i : Ex I0 I
  n : New I0 H0 I
  h : Ex H0 H
  o : Ex I H
section
variable {I0 H0 I H I2 H2 : Hp} {σ : L2.St} {D : Ends} {te ta tb : TE} {d : PyData} {l : Addr} {xs : List V} {Q : VK} {K : PySem.W.Frag} {t : TT} {tu tw : TS}
theorem Go.refl (e : Ex I H) : Go I H I H := ⟨Ex.refl _, New.refl _ _, Ex.refl _, e⟩
theorem Go.trans (a : Go I0 H0 I H) (b : Go I H I2 H2) : Go I0 H0 I2 H2 := ⟨a.i.trans b.i, a.n.trans b.n a.h, a.h.trans b.h, b.o⟩
theorem Go.step (a : Go I0 H0 I H) (b : Ex H H2) : Go I0 H0 I H2 := ⟨a.i, a.n, a.h.trans b, a.o.trans b⟩
/-- an owned thing changes: neither the data nor the first heap knows it -/
theorem Go.mut {o : HO} (a : Go I0 H0 I H) (hi : I l = none) (h0 : H0 l = none) : Go I0 H0 I (upd H l o) := ⟨a.i, a.n, a.h.mut h0, a.o.mut hi⟩
/-- a list of one's own -/
structure Own (I H : Hp) (l : Addr) (xs : List V) : Prop where
  i : I l = none
  h : H l = some (.lst xs)
theorem Own.mv (a : Own I H l xs) (n : New I H I2) (e : Ex H H2) : Own I2 H2 l xs := ⟨n.none a.h a.i, e _ _ a.h⟩
theorem Own.go (a : Own I H l xs) (b : Go I H I2 H2) : Own I2 H2 l xs := a.mv b.n b.h
theorem Own.step (a : Own I H l xs) (e : Ex H H2) : Own I H2 l xs := ⟨a.i, e _ _ a.h⟩
theorem Own.put {o : HO} {p : Addr} (a : Own I H l xs) (h : l ≠ p) : Own I (upd H p o) l xs := ⟨a.i, by rw [upd_ne h]; exact a.h⟩
/-- the owned list becomes data -/
theorem Own.lay {ds : List PyData} (a : Own I H l xs) (b : IsAll I xs ds) (g : Go I0 H0 I H) (h0 : H0 l = none) : Go I0 H0 (upd I l (.lst xs)) H ∧ Is (upd I l (.lst xs)) (.ref l) (.list ds) :=
  ⟨⟨g.i.trans (Ex.new a.i), fun x o q => by
    by_cases z : x = l
    · subst z
      exact .inr h0
    · rw [upd_ne z] at q
      exact g.n x o q, g.h, g.o.lay a.h⟩, .lst upd_same (b.mono (Ex.new a.i))⟩
/-- .. for reading alone -/
theorem Own.read {ds : List PyData} (a : Own I H l xs) (b : IsAll I xs ds) (e : Ex I H) : Ex (upd I l (.lst xs)) H ∧ Is (upd I l (.lst xs)) (.ref l) (.list ds) := ⟨e.lay a.h, .lst upd_same (b.mono (Ex.new a.i))⟩
/-- what is wanted of a result -/
def Ret (I H : Hp) (d : PyData) (Q : VK) : Prop := ∀ v I2 H2, Ex I I2 → Ex H H2 → Ex I2 H2 → New I H I2 → Is I2 v d → Q v H2
theorem Ret.go (q : Ret I0 H0 d Q) (g : Go I0 H0 I H) : Ret I H d Q := fun v I2 H2 a1 a2 a3 n k => q v I2 H2 (g.i.trans a1) (g.h.trans a2) a3 (g.n.trans n g.h) k
theorem g_ret (q : Ret I0 H0 d D.rt) (g : Go I0 H0 I H) (h : Ed te σ H I d) : tRet te D σ H := h H (Ex.refl _) g.o _ fun v I2 H2 a1 a2 a3 n k => q v I2 H2 (g.i.trans a1) (g.h.trans a2) a3 (g.n.trans n g.h) k
/-- an owned list is handed back -/
theorem g_retO {i : Nat} {ds : List PyData} (q : Ret I0 H0 (.list ds) D.rt) (g : Go I0 H0 I H) (hs : σ[i]? = some (some (.ref l))) (a : Own I H l xs) (b : IsAll I xs ds) (h0 : H0 l = none) : tRet (tVar i) D σ H := by
  obtain ⟨g2, k⟩ := a.lay b g h0
  exact g_ret q g2 (ed_var hs k)
theorem g_set {i : Nat} (g : Go I0 H0 I H) (h : Ed te σ H I d) (k : ∀ v I2 H2, Go I0 H0 I2 H2 → Go I H I2 H2 → Is I2 v d → D.nx (σ.set i (some v)) H2) : tAsg te (gName i) D σ H :=
  h H (Ex.refl _) g.o _ fun v I2 H2 a1 a2 a3 n kd => k v I2 H2 (g.trans ⟨a1, n, a2, a3⟩) ⟨a1, n, a2, a3⟩ kd
theorem g_int {i : Nat} {n : Int} (g : Go I0 H0 I H) (h : Ed te σ H I (.int n)) (k : ∀ H2, Go I0 H0 I H2 → Ex H H2 → D.nx (σ.set i (some (.int n))) H2) : tAsg te (gName i) D σ H := s_int h g.o fun H2 e => k H2 (g.step e) e
theorem g_bl {i : Nat} {n : Bool} (g : Go I0 H0 I H) (h : Ed te σ H I (.bool n)) (k : ∀ H2, Go I0 H0 I H2 → Ex H H2 → D.nx (σ.set i (some (.bl n))) H2) : tAsg te (gName i) D σ H := s_bl h g.o fun H2 e => k H2 (g.step e) e
theorem g_str {i : Nat} {n : Str} (g : Go I0 H0 I H) (h : Ed te σ H I (.str n)) (k : ∀ H2, Go I0 H0 I H2 → Ex H H2 → D.nx (σ.set i (some (.str n))) H2) : tAsg te (gName i) D σ H := s_str h g.o fun H2 e => k H2 (g.step e) e
theorem g_if {b : Bool} (g : Go I0 H0 I H) (h : Et t σ H b) (h1 : b = true → ∀ H1, Go I0 H0 I H1 → Ex H H1 → tu D σ H1) (h2 : b = false → ∀ H1, Go I0 H0 I H1 → Ex H H1 → tw D σ H1) : tIfS t tu tw D σ H := s_if h (fun a H1 e => h1 a H1 (g.step e) e) fun a H1 e => h2 a H1 (g.step e) e
/-- a new list -/
theorem g_new {i : Nat} {ta : TA} {ds : List PyData} (g : Go I0 H0 I H) (h : Ea ta σ H I ds) (hl : ds.length ≤ 100000) (k : ∀ p vs I2 H2, Go I0 H0 I2 H2 → Go I H I2 H2 → Own I2 H2 p vs → IsAll I2 vs ds → H p = none → D.nx (σ.set i (some (.ref p))) H2) : tAsg (tLst ta) (gName i) D σ H :=
  s_new h g.o hl fun p vs I2 H2 a1 a2 a3 n hi hn hp hv => k p vs I2 H2 (g.trans ⟨a1, n, a2, a3⟩) ⟨a1, n, a2, a3⟩ ⟨hi, hp⟩ hv hn
theorem g_app {i : Nat} (g : Go I0 H0 I H) (hs : σ[i]? = some (some (.ref l))) (a : Own I H l xs) (h0 : H0 l = none) (h : Ed te σ H I d) (hz : xs.length < 100000) (k : ∀ v I2 H2, Go I0 H0 I2 (upd H2 l (.lst (xs ++ [v]))) → Go I H I2 H2 → Own I2 (upd H2 l (.lst (xs ++ [v]))) l (xs ++ [v]) → Is I2 v d → D.nx σ (upd H2 l (.lst (xs ++ [v])))) :
    tDrop (tBM K "list" rAppend (tVar i) (tCons te tNil)) D σ H :=
  s_app a.h a.i g.o (ev_var hs) h hz fun v I2 H2 a1 a2 a3 n hi kv hl => k v I2 H2 ((g.trans ⟨a1, n, a2, a3⟩).mut hi h0) ⟨a1, n, a2, a3⟩ ⟨hi, upd_same⟩ kv
theorem g_ext {i : Nat} {ds : List PyData} (g : Go I0 H0 I H) (hs : σ[i]? = some (some (.ref l))) (a : Own I H l xs) (h0 : H0 l = none) (h : Ed te σ H I (.list ds)) (hz : xs.length + ds.length ≤ 100000) (k : ∀ vs I2 H2, Go I0 H0 I2 (upd H2 l (.lst (xs ++ vs))) → Go I H I2 H2 → Own I2 (upd H2 l (.lst (xs ++ vs))) l (xs ++ vs) → IsAll I2 vs ds → D.nx σ (upd H2 l (.lst (xs ++ vs)))) :
    tDrop (tBM K "list" rExtend (tVar i) (tCons te tNil)) D σ H :=
  s_ext a.h a.i g.o (ev_var hs) h hz fun v I2 H2 a1 a2 a3 n hi kv hl => k v I2 H2 ((g.trans ⟨a1, n, a2, a3⟩).mut hi h0) ⟨a1, n, a2, a3⟩ ⟨hi, upd_same⟩ kv
/-- a, b = e, e' : a new list and a scalar (the list first) -/
theorem g_parLI {i j : Nat} {ta : TA} {te2 : TE} {ds : List PyData} {n : Int} (g : Go I0 H0 I H) (h : Ea ta σ H I ds) (hl : ds.length ≤ 100000) (h2 : Ed te2 σ H I (.int n)) (k : ∀ p vs I2 H2, Go I0 H0 I2 H2 → Go I H I2 H2 → Own I2 H2 p vs → IsAll I2 vs ds → H p = none → D.nx ((σ.set i (some (.ref p))).set j (some (.int n))) H2) : tPar i j (tCons (tLst ta) (tCons te2 tNil)) D σ H :=
  h H (Ex.refl _) g.o _ fun vs I2 H2 a1 a2 a3 nw hv => ⟨sz_of (by rw [hv.length]; exact hl), fun p hp => h2.int g.o (upd H2 p (.lst vs)) (a2.trans (Ex.new hp)) _ fun H3 e3 =>
    ⟨.ref p, .int n, rfl, k p vs I2 H3 (g.trans ⟨a1, nw, (a2.trans (Ex.new hp)).trans e3, (a3.mut (a3.free hp)).trans e3⟩) ⟨a1, nw, (a2.trans (Ex.new hp)).trans e3, (a3.mut (a3.free hp)).trans e3⟩ ⟨a3.free hp, e3 _ _ upd_same⟩ hv (a2.free hp)⟩⟩
theorem g_parII {i j : Nat} {te1 te2 : TE} {m n : Int} (g : Go I0 H0 I H) (h1 : Ed te1 σ H I (.int m)) (h2 : Ed te2 σ H I (.int n)) (k : ∀ H2, Go I0 H0 I H2 → Ex H H2 → D.nx ((σ.set i (some (.int m))).set j (some (.int n))) H2) : tPar i j (tCons te1 (tCons te2 tNil)) D σ H :=
  h1.int g.o H (Ex.refl _) _ fun H1 e1 => h2.int g.o H1 e1 _ fun H2 e2 => ⟨.int m, .int n, rfl, k H2 (g.step (e1.trans e2)) (e1.trans e2)⟩
end
section
variable {I0 H0 I H I2 H2 J : Hp} {σ : L2.St} {D : Ends} {te ta tb : TE} {d : PyData} {l : Addr} {xs : List V} {Q : VK} {K : PySem.W.Frag} {t : TT} {tu tw tz : TS} {g : TG}
theorem q_set {i : Nat} (g : Go I0 H0 I H) (h : Ed te σ H I d) (k : ∀ v I2 H2, Go I0 H0 I2 H2 → Go I H I2 H2 → Is I2 v d → tz D (σ.set i (some v)) H2) : tSeq (tAsg te (gName i)) tz D σ H := g_set (D := { D with nx := tz D }) g h k
theorem q_int {i : Nat} {n : Int} (g : Go I0 H0 I H) (h : Ed te σ H I (.int n)) (k : ∀ H2, Go I0 H0 I H2 → Ex H H2 → tz D (σ.set i (some (.int n))) H2) : tSeq (tAsg te (gName i)) tz D σ H := g_int (D := { D with nx := tz D }) g h k
theorem q_bl {i : Nat} {n : Bool} (g : Go I0 H0 I H) (h : Ed te σ H I (.bool n)) (k : ∀ H2, Go I0 H0 I H2 → Ex H H2 → tz D (σ.set i (some (.bl n))) H2) : tSeq (tAsg te (gName i)) tz D σ H := g_bl (D := { D with nx := tz D }) g h k
theorem q_str {i : Nat} {n : Str} (g : Go I0 H0 I H) (h : Ed te σ H I (.str n)) (k : ∀ H2, Go I0 H0 I H2 → Ex H H2 → tz D (σ.set i (some (.str n))) H2) : tSeq (tAsg te (gName i)) tz D σ H := g_str (D := { D with nx := tz D }) g h k
theorem q_if {b : Bool} (g : Go I0 H0 I H) (h : Et t σ H b) (h1 : b = true → ∀ H1, Go I0 H0 I H1 → Ex H H1 → tu { D with nx := tz D } σ H1) (h2 : b = false → ∀ H1, Go I0 H0 I H1 → Ex H H1 → tw { D with nx := tz D } σ H1) : tSeq (tIfS t tu tw) tz D σ H := g_if (D := { D with nx := tz D }) g h h1 h2
/-- an if without else -/
theorem q_when {b : Bool} (g : Go I0 H0 I H) (h : Et t σ H b) (h1 : b = true → ∀ H1, Go I0 H0 I H1 → Ex H H1 → tu { D with nx := tz D } σ H1) (h2 : b = false → ∀ H1, Go I0 H0 I H1 → Ex H H1 → tz D σ H1) : tSeq (tIfS t tu tNext) tz D σ H := g_if (D := { D with nx := tz D }) g h h1 h2
theorem q_new {i : Nat} {ta : TA} {ds : List PyData} (g : Go I0 H0 I H) (h : Ea ta σ H I ds) (hl : ds.length ≤ 100000) (k : ∀ p vs I2 H2, Go I0 H0 I2 H2 → Go I H I2 H2 → Own I2 H2 p vs → IsAll I2 vs ds → H p = none → tz D (σ.set i (some (.ref p))) H2) : tSeq (tAsg (tLst ta) (gName i)) tz D σ H := g_new (D := { D with nx := tz D }) g h hl k
theorem q_app {i : Nat} (g : Go I0 H0 I H) (hs : σ[i]? = some (some (.ref l))) (a : Own I H l xs) (h0 : H0 l = none) (h : Ed te σ H I d) (hz : xs.length < 100000) (k : ∀ v I2 H2, Go I0 H0 I2 (upd H2 l (.lst (xs ++ [v]))) → Go I H I2 H2 → Own I2 (upd H2 l (.lst (xs ++ [v]))) l (xs ++ [v]) → Is I2 v d → tz D σ (upd H2 l (.lst (xs ++ [v])))) :
    tSeq (tDrop (tBM K "list" rAppend (tVar i) (tCons te tNil))) tz D σ H := g_app (D := { D with nx := tz D }) g hs a h0 h hz k
theorem q_ext {i : Nat} {ds : List PyData} (g : Go I0 H0 I H) (hs : σ[i]? = some (some (.ref l))) (a : Own I H l xs) (h0 : H0 l = none) (h : Ed te σ H I (.list ds)) (hz : xs.length + ds.length ≤ 100000) (k : ∀ vs I2 H2, Go I0 H0 I2 (upd H2 l (.lst (xs ++ vs))) → Go I H I2 H2 → Own I2 (upd H2 l (.lst (xs ++ vs))) l (xs ++ vs) → IsAll I2 vs ds → tz D σ (upd H2 l (.lst (xs ++ vs)))) :
    tSeq (tDrop (tBM K "list" rExtend (tVar i) (tCons te tNil))) tz D σ H := g_ext (D := { D with nx := tz D }) g hs a h0 h hz k
theorem q_parLI {i j : Nat} {ta : TA} {te2 : TE} {ds : List PyData} {n : Int} (g : Go I0 H0 I H) (h : Ea ta σ H I ds) (hl : ds.length ≤ 100000) (h2 : Ed te2 σ H I (.int n)) (k : ∀ p vs I2 H2, Go I0 H0 I2 H2 → Go I H I2 H2 → Own I2 H2 p vs → IsAll I2 vs ds → H p = none → tz D ((σ.set i (some (.ref p))).set j (some (.int n))) H2) : tSeq (tPar i j (tCons (tLst ta) (tCons te2 tNil))) tz D σ H := g_parLI (D := { D with nx := tz D }) g h hl h2 k
theorem q_parII {i j : Nat} {te1 te2 : TE} {m n : Int} (g : Go I0 H0 I H) (h1 : Ed te1 σ H I (.int m)) (h2 : Ed te2 σ H I (.int n)) (k : ∀ H2, Go I0 H0 I H2 → Ex H H2 → tz D ((σ.set i (some (.int m))).set j (some (.int n))) H2) : tSeq (tPar i j (tCons te1 (tCons te2 tNil))) tz D σ H := g_parII (D := { D with nx := tz D }) g h1 h2 k
theorem q_while (W : Nat → L2.St → Hp → Prop) (m0 : Nat) (h0 : W m0 σ H)
    (hs : ∀ m σ' H', W m σ' H' → ∃ b, Et t σ' H' b ∧ (b = true → ∀ H1, Ex H' H1 → tu { D with nx := fun σ2 H2 => ∃ m', m' < m ∧ W m' σ2 H2, ct := fun σ2 H2 => ∃ m', m' < m ∧ W m' σ2 H2, bk := tz D } σ' H1) ∧ (b = false → ∀ H1, Ex H' H1 → tz D σ' H1)) : tSeq (tWhile t tu) tz D σ H :=
  s_while (D := { D with nx := tz D }) W m0 h0 fun m σ' H' hw => by
    obtain ⟨b, hb, h1, h2⟩ := hs m σ' H' hw
    exact ⟨b, hb, fun z H1 e => ⟨_, fun _ _ y => y, h1 z H1 e⟩, h2⟩
theorem q_forR1 {ta : TA} {j : Nat} {n : Int} (h : Ea ta σ H J [.int n]) (ej : Ex J H) (hn : -100000 ≤ n ∧ n ≤ 100000) (Pv : Nat → L2.St → Hp → Prop) (h0 : ∀ H1, Ex H H1 → Pv 0 σ H1)
    (hs : ∀ (i : Nat) σ' H', (i : Int) < n → Pv i σ' H' → tu { D with nx := Pv (i + 1), ct := Pv (i + 1), bk := tz D } (σ'.set j (some (.int (i : Int)))) H') (hd : ∀ σ' H', Pv n.toNat σ' H' → tz D σ' H') : tSeq (tFor (iRng1 ta) (gName j) tu) tz D σ H := s_forR1 (D := { D with nx := tz D }) h ej hn Pv h0 hs hd
theorem q_forR2 {ta : TA} {j : Nat} {lo n : Int} (h : Ea ta σ H J [.int lo, .int n]) (ej : Ex J H) (hn : -100000 ≤ lo ∧ lo ≤ 100000 ∧ -100000 ≤ n ∧ n ≤ 100000) (Pv : Nat → L2.St → Hp → Prop) (h0 : ∀ H1, Ex H H1 → Pv 0 σ H1)
    (hs : ∀ (i : Nat) σ' H', lo + (i : Int) < n → Pv i σ' H' → tu { D with nx := Pv (i + 1), ct := Pv (i + 1), bk := tz D } (σ'.set j (some (.int (lo + (i : Int))))) H') (hd : ∀ σ' H', Pv (n - lo).toNat σ' H' → tz D σ' H') : tSeq (tFor (iRng2 ta) (gName j) tu) tz D σ H := s_forR2 (D := { D with nx := tz D }) h ej hn Pv h0 hs hd
theorem q_forR3 {ta : TA} {j : Nat} {lo hi c : Int} (m : Nat) (h : Ea ta σ H J [.int lo, .int hi, .int c]) (ej : Ex J H) (hn : RgC lo hi c m) (Pv : Nat → L2.St → Hp → Prop) (h0 : ∀ H1, Ex H H1 → Pv 0 σ H1)
    (hs : ∀ (i : Nat) σ' H', i < m → Pv i σ' H' → tu { D with nx := Pv (i + 1), ct := Pv (i + 1), bk := tz D } (σ'.set j (some (.int (lo + (i : Int) * c)))) H') (hd : ∀ σ' H', Pv m σ' H' → tz D σ' H') : tSeq (tFor (iRng3 ta) (gName j) tu) tz D σ H := s_forR3 (D := { D with nx := tz D }) m h ej hn Pv h0 hs hd
theorem q_forL {ds : List PyData} {tl : TE} (h : Ed tl σ H I (.list ds)) (ei : Ex I H) (Pv : Hp → Nat → L2.St → Hp → Prop) (hI : ∀ I2 i σ' H', Pv I2 i σ' H' → Ex I2 H') (h0 : ∀ I2 H2, Go I H I2 H2 → Pv I2 0 σ H2)
    (hs : ∀ I2 i d v σ' H', Ex I I2 → ds[i]? = some d → Is I2 v d → Pv I2 i σ' H' → g v σ' H' fun σ2 H2 => tu { D with nx := Pv I2 (i + 1), ct := Pv I2 (i + 1), bk := tz D } σ2 H2) (hd : ∀ I2 σ' H', Ex I I2 → Pv I2 ds.length σ' H' → tz D σ' H') : tSeq (tFor (iList K tl) g tu) tz D σ H :=
  s_forL (D := { D with nx := tz D }) h ei Pv hI (fun I2 H2 a b c n => h0 I2 H2 ⟨a, n, b, c⟩) hs hd
theorem q_drop (g : Go I0 H0 I H) (h : Ed te σ H I d) (k : ∀ H2, Go I0 H0 I H2 → Ex H H2 → tz D σ H2) : tSeq (tDrop te) tz D σ H := s_drop (D := { D with nx := tz D }) h g.o fun H2 e => k H2 (g.step e) e
end
theorem spOf_out {α : Type} {args : α → List PyData} {pre : α → Prop} {res : α → PyData} {vs : List V} {H : Hp} {Q : VK} {E : XK} (h : spOf args pre res vs H Q E) : ∃ (a : α) (I : Hp), Ex I H ∧ IsAll I vs (args a) ∧ pre a ∧ Ret I H (res a) Q := h
end KD
namespace K84
open PySem PySem.Spec PyProof.Rows L2 KD
local macro_rules
  | `(tactic| walk_at "ed") => `(tactic| first
    | with_reducible assumption
    | with_reducible exact Ex.refl _
    | (with_reducible apply Go.o; with_reducible assumption)
    | with_reducible exact ed_int
    | with_reducible exact ed_bl
    | with_reducible exact ed_str
    | with_reducible exact ed_non
    | ((with_reducible apply ed_var) <;> (first | (exact rfl) | exact Is.int _ | exact Is.bl _ | exact Is.str _ | exact Is.non | with_reducible assumption))
    | ((with_reducible apply ad_add) <;> walk_at "ed")
    | ((with_reducible apply ad_sub) <;> walk_at "ed")
    | ((with_reducible apply ad_lt) <;> walk_at "ed")
    | ((with_reducible apply ad_le) <;> walk_at "ed")
    | ((with_reducible apply ad_gt) <;> walk_at "ed")
    | ((with_reducible apply ad_ge) <;> walk_at "ed")
    | ((with_reducible apply ad_eqI) <;> walk_at "ed")
    | ((with_reducible apply ad_neI) <;> walk_at "ed")
    | ((with_reducible apply ad_eqS) <;> walk_at "ed")
    | ((with_reducible apply ad_neS) <;> walk_at "ed")
    | ((with_reducible apply ad_notV) <;> walk_at "ed")
    | ((with_reducible apply ad_neg) <;> walk_at "ed")
    | ((with_reducible apply ad_lenL) <;> walk_at "ed")
    | ((with_reducible refine ad_tup ?_ ?_) <;> (first | walk_at "ed" | (simp only [List.length_cons, List.length_nil]; decide)))
    | ((with_reducible refine ad_lst ?_ ?_) <;> (first | walk_at "ed" | (simp only [List.length_cons, List.length_nil]; decide)))
    | ((with_reducible apply ea_cons) <;> walk_at "ed")
    | with_reducible exact ea_nil)
section
variable {P : Program} {w : World} {K : PySem.W.Frag} {mg : Str → Option Value} {base : Heap} {C : Addr}
/-! ### is_integer, is_between, is_list, is_word -/
abbrev N_is_integer : List Str := ["value"]
theorem sc_is_integer : FnScope N_is_integer ["value"] (defScope s_is_integer) := ⟨rfl, rfl, rfl, by decide +kernel, rfl, by decide +kernel, by decide +kernel⟩
abbrev sp_is_integer : Sp := spOf (fun d : PyData => [d]) (fun _ => True) fun d => .bool (isInt d)
theorem ok_is_integer (T : Txt K mg C) (F : Fn K mg "is_integer" s_is_integer) : Cal P w K mg base 1 "is_integer" ["value"] s_is_integer sp_is_integer := by
  refine cal_mk F sc_is_integer (fun _ _ _ _ _ _ us hl => match us, hl with | [_], _ => rfl) (fun vs H Q E h => spOf_len (n := 1) (fun _ => rfl) h) (fun f cdv A outer s H vs Q E hr h => ?_)
  obtain ⟨d, I, e, k, _, q⟩ := h
  cases k with
  | cons k1 k2 =>
    cases k2
    refine ⟨_, (pss_one (ps_ret (pe_and (pe_callB call_isi (by rfl) T.b_isinstance (by decide +kernel) (pa_cons (pv 0) (pa_cons (pe_bltn (v := .ty "int") (by rfl) T.b_int (by decide +kernel) rfl) pa_nil))) (pe_one (pe_not (pe_callB call_isi (by rfl) T.b_isinstance (by decide +kernel) (pa_cons (pv 0) (pa_cons (pe_bltn (v := .ty "bool") (by rfl) T.b_bool (by decide +kernel) rfl) pa_nil)))))))), ?_⟩
    refine s_ret (I := I) (Ed.is (ed_andV (ed_isi (kit_int d) (ed_var rfl k1) e) (fun _ => ed_notV (ed_isi (kit_bool d) (ed_var rfl k1) e) e) e) ?_) e q
    cases d <;> rfl
abbrev N_is_between : List Str := ["value", "low", "high"]
theorem sc_is_between : FnScope N_is_between ["value", "low", "high"] (defScope s_is_between) := ⟨rfl, rfl, rfl, by decide +kernel, rfl, by decide +kernel, by decide +kernel⟩
def between (d : PyData) (lo hi : Int) : Bool := match d with | .int n => decide (lo ≤ n) && decide (n ≤ hi) | _ => false
abbrev sp_is_between : Sp := spOf (fun a : PyData × Int × Int => [a.1, .int a.2.1, .int a.2.2]) (fun _ => True) fun a => .bool (between a.1 a.2.1 a.2.2)
theorem ok_is_between (T : Txt K mg C) (F : Fn K mg "is_between" s_is_between) (c_is_integer : Cal P w K mg base 1 "is_integer" ["value"] s_is_integer sp_is_integer) : Cal P w K mg base 2 "is_between" ["value", "low", "high"] s_is_between sp_is_between := by
  refine cal_mk F sc_is_between (fun _ _ _ _ _ _ us hl => match us, hl with | [_, _, _], _ => rfl) (fun vs H Q E h => spOf_len (n := 3) (fun _ => rfl) h) (fun f cdv A outer s H vs Q E hr h => ?_)
  obtain ⟨⟨d, lo, hi⟩, I, e, k, _, q⟩ := h
  cases k with
  | cons k1 k2 =>
    cases k2 with
    | cons k2 k3 =>
      cases k3 with
      | cons k3 k4 =>
        cases k2
        cases k3
        cases k4
        refine ⟨_, (pss_one (ps_ret (pe_and (pe_cal c_is_integer hr (by first | decide | exact Nat.le_refl _) rfl (pa_cons (pv 0) pa_nil)) (pe_one (pe_chain op_le op_le (pv 1) (pv 0) (pv 2)))))), ?_⟩
        have h1 : Ed (tCall sp_is_integer [] E0 (tCons (tVar 0) tNil)) (start N_is_between [_, V.int lo, V.int hi]) H I (.bool (isInt d)) := ed_callB d rfl trivial (ea_cons (ed_var rfl k1) ea_nil) e
        cases d with
        | int n =>
          cases k1
          exact s_ret (I := I) (ed_andV h1 (fun _ => ed_chainI (J := I) (by walk_at "ed") (by walk_at "ed") (by walk_at "ed") e) e) e q
        | _ => exact s_ret (I := I) (ed_andV (b := true) h1 (fun z => by cases z) e) e q
abbrev N_is_list : List Str := ["value"]
theorem sc_is_list : FnScope N_is_list ["value"] (defScope s_is_list) := ⟨rfl, rfl, rfl, by decide +kernel, rfl, by decide +kernel, by decide +kernel⟩
abbrev sp_is_list : Sp := spOf (fun d : PyData => [d]) (fun _ => True) fun d => .bool (isL d || isTup d)
theorem ok_is_list (T : Txt K mg C) (F : Fn K mg "is_list" s_is_list) : Cal P w K mg base 1 "is_list" ["value"] s_is_list sp_is_list := by
  refine cal_mk F sc_is_list (fun _ _ _ _ _ _ us hl => match us, hl with | [_], _ => rfl) (fun vs H Q E h => spOf_len (n := 1) (fun _ => rfl) h) (fun f cdv A outer s H vs Q E hr h => ?_)
  obtain ⟨d, I, e, k, _, q⟩ := h
  cases k with
  | cons k1 k2 =>
    cases k2
    refine ⟨_, (pss_one (ps_ret (pe_callB call_isiT (by rfl) T.b_isinstance (by decide +kernel) (pa_cons (pv 0) (pa_cons (pe_tup (pa_cons (pe_bltn (v := .ty "list") (by rfl) T.b_list (by decide +kernel) rfl) (pa_cons (pe_bltn (v := .ty "tuple") (by rfl) T.b_tuple (by decide +kernel) rfl) pa_nil))) pa_nil))))), ?_⟩
    exact s_ret (I := I) (ed_isiT (kit_list d) (kit_tuple d) (ed_var rfl k1) e) e q
abbrev N_is_word : List Str := ["value", "words"]
theorem sc_is_word : FnScope N_is_word ["value", "words"] (defScope s_is_word) := ⟨rfl, rfl, rfl, by decide +kernel, rfl, by decide +kernel, by decide +kernel⟩
def wordIn (d : PyData) (ws : List Str) : Bool := match d with | .str s => ws.contains s | _ => false
abbrev sp_is_word : Sp := spOf (fun a : PyData × List Str => [a.1, .tuple (a.2.map PyData.str)]) (fun _ => True) fun a => .bool (wordIn a.1 a.2)
theorem ok_is_word (T : Txt K mg C) (F : Fn K mg "is_word" s_is_word) : Cal P w K mg base 1 "is_word" ["value", "words"] s_is_word sp_is_word := by
  refine cal_mk F sc_is_word (fun _ _ _ _ _ _ us hl => match us, hl with | [_, _], _ => rfl) (fun vs H Q E h => spOf_len (n := 2) (fun _ => rfl) h) (fun f cdv A outer s H vs Q E hr h => ?_)
  obtain ⟨⟨d, ws⟩, I, e, k, _, q⟩ := h
  obtain ⟨v1, v2, rfl, k1, k2⟩ := isAll2 k
  refine ⟨_, (pss_one (ps_ret (pe_and (pe_callB call_isi (by rfl) T.b_isinstance (by decide +kernel) (pa_cons (pv 0) (pa_cons (pe_bltn (v := .ty "str") (by rfl) T.b_str (by decide +kernel) rfl) pa_nil))) (pe_one (pe_cmpR op_in_seq (pv 0) (pv 1) (by with_unfolding_all rfl)))))), ?_⟩
  cases d with
  | str s =>
    cases k1
    exact s_ret (I := I) (ed_andV (ed_isi (kit_str _) (ed_var rfl (.str _)) e) (fun _ => ed_inS (J := I) (I := I) (ed_var rfl (.str _)) (ed_var rfl k2) e e) e) e q
  | _ => exact s_ret (I := I) (ed_andV (b := true) (ed_isi (kit_str _) (ed_var rfl k1) e) (fun z => by cases z) e) e q
/-! ### choices, least_runs, alike_in -/
def chN (many : Int) : Nat → Int
  | 0 => 1
  | n + 1 => (chN many n * (many - n)).fdiv (n + 1)
@[irreducible] def chI (many some : Int) : Int := chN many some.toNat
abbrev N_choices : List Str := ["many", "some", "found", "at"]
theorem sc_choices : FnScope N_choices ["many", "some"] (defScope s_choices) := ⟨rfl, rfl, rfl, by decide +kernel, rfl, by decide +kernel, by decide +kernel⟩
abbrev sp_choices : Sp := spOf (fun a : Int × Int => [.int a.1, .int a.2]) (fun a => -1000 ≤ a.1 ∧ a.1 ≤ 1000 ∧ -1000 ≤ a.2 ∧ a.2 ≤ 1000) fun a => .int (chI a.1 a.2)
theorem ok_choices (T : Txt K mg C) (F : Fn K mg "choices" s_choices) : Cal P w K mg base 1 "choices" ["many", "some"] s_choices sp_choices := by
  refine cal_mk F sc_choices (fun _ _ _ _ _ _ us hl => match us, hl with | [_, _], _ => rfl) (fun vs H Q E h => spOf_len (n := 2) (fun _ => rfl) h) (fun f cdv A outer s H vs Q E hr h => ?_)
  obtain ⟨⟨m, s⟩, I, e, k, ⟨h1, h2, h3, h4⟩, q⟩ := spOf_out h
  dsimp only at k h1 h2 h3 h4 q
  obtain ⟨v1, v2, rfl, k1, k2⟩ := isAll2 k
  cases k1
  cases k2
  refine ⟨_, (pss_cons (ps_set (i := 2) sc_choices.nd rfl (Or.inl rfl) pe_int) (pss_cons (ps_for PassesOwn.never rfl (pi_range1 (by rfl) T.b_range (pa_cons (pv 1) pa_nil)) (pg_name (i := 3) sc_choices.nd rfl (Or.inl rfl)) (pss_one (ps_set (i := 2) sc_choices.nd rfl (Or.inl rfl) (pe_op op_fdivN (pe_op op_mul (pv 2) (pe_op op_sub (pv 0) (pv 3))) (pe_op op_add (pv 3) pe_int))))) (pss_one (ps_ret (pv 2))))), ?_⟩
  refine q_int (Go.refl e) ed_int fun H1 g1 e1 => ?_
  refine q_forR1 (J := I) (n := s) (ea_cons (ed_var rfl (.int _)) ea_nil) g1.o (by omega) (fun i σ H' => ∃ x, σ = [some (.int m), some (.int s), some (.int (chN m i)), x] ∧ Go I H I H') (fun H2 e2 => ⟨none, rfl, g1.step e2⟩) (fun i σ H' hi hP => ?_) (fun σ H' hP => ?_)
  · obtain ⟨x, rfl, g⟩ := hP
    have ei := g.o
    refine g_int g (n := chN m (i + 1)) (ad_fdiv (by omega) (ad_mul (.inr ⟨by omega, by omega⟩) (by walk_at "ed") (by walk_at "ed") ei) (by walk_at "ed") ei) fun H3 g3 e3 => ⟨_, rfl, g3⟩
  · obtain ⟨x, rfl, g⟩ := hP
    exact g_ret q g (ed_var rfl (by
      unfold chI
      exact .int _))
abbrev N_least_runs : List Str := ["rounds", "c", "low", "high", "middle"]
theorem sc_least_runs : FnScope N_least_runs ["rounds", "c"] (defScope s_least_runs) := ⟨rfl, rfl, rfl, by decide +kernel, rfl, by decide +kernel, by decide +kernel⟩
@[irreducible] def lrGo (rounds c : Int) : Nat → Int → Int → Int
  | 0, low, _ => low
  | f + 1, low, high => if low < high then (if rounds ≤ chI (c + (low + high).fdiv 2) c then lrGo rounds c f low ((low + high).fdiv 2) else lrGo rounds c f ((low + high).fdiv 2 + 1) high) else low
@[irreducible] def lrI (rounds c : Int) : Int := lrGo rounds c 100 0 (rounds - 1)
theorem lrGo_lt {n c low high : Int} {f : Nat} (h : low < high) : lrGo n c (f + 1) low high = (if n ≤ chI (c + (low + high).fdiv 2) c then lrGo n c f low ((low + high).fdiv 2) else lrGo n c f ((low + high).fdiv 2 + 1) high) := by
  rw [lrGo, if_pos h]
theorem lrGo_ge {n c low high : Int} {f : Nat} (h : ¬ low < high) : lrGo n c f low high = low := by
  cases f with
  | zero => rw [lrGo]
  | succ f => rw [lrGo, if_neg h]
theorem lrI_eq (n c : Int) : lrGo n c 100 0 (n - 1) = lrI n c := by
  unfold lrI
  rfl
abbrev sp_least_runs : Sp := spOf (fun a : Int × Int => [.int a.1, .int a.2]) (fun a => 0 ≤ a.1 ∧ a.1 ≤ 100 ∧ 1 ≤ a.2 ∧ a.2 ≤ 40) fun a => .int (lrI a.1 a.2)
theorem mid_in {low high : Int} (h : low < high) : low ≤ (low + high).fdiv 2 ∧ (low + high).fdiv 2 < high := by
  rw [Int.fdiv_eq_ediv_of_nonneg _ (by omega)]
  omega
theorem ok_least_runs (T : Txt K mg C) (F : Fn K mg "least_runs" s_least_runs) (c_choices : Cal P w K mg base 1 "choices" ["many", "some"] s_choices sp_choices) : Cal P w K mg base 2 "least_runs" ["rounds", "c"] s_least_runs sp_least_runs := by
  refine cal_mk F sc_least_runs (fun _ _ _ _ _ _ us hl => match us, hl with | [_, _], _ => rfl) (fun vs H Q E h => spOf_len (n := 2) (fun _ => rfl) h) (fun f cdv A outer s H vs Q E hr h => ?_)
  obtain ⟨⟨n, c⟩, I, e, k, ⟨h1, h2, h3, h4⟩, q⟩ := spOf_out h
  dsimp only at k h1 h2 h3 h4 q
  obtain ⟨v1, v2, rfl, k1, k2⟩ := isAll2 k
  cases k1
  cases k2
  refine ⟨_, (pss_cons (ps_par (i := 2) (j := 3) (by rfl) sc_least_runs.nd rfl rfl (by decide) rfl rfl (pa_cons pe_int (pa_cons (pe_op op_sub (pv 0) pe_int) pa_nil)) (by rfl)) (pss_cons (ps_while PassesOwn.never (pt_cmpR op_lt (pv 2) (pv 3) (nomark _)) (pss_cons (ps_set (i := 4) sc_least_runs.nd rfl (Or.inl rfl) (pe_op op_fdivN (pe_op op_add (pv 2) (pv 3)) pe_int)) (pss_one (ps_if (pt_cmpR op_ge (pe_cal c_choices hr (by first | decide | exact Nat.le_refl _) rfl (pa_cons (pe_op op_add (pv 1) (pv 4)) (pa_cons (pv 1) pa_nil))) (pv 0) (nomark _)) (pss_one (ps_set (i := 3) sc_least_runs.nd rfl (Or.inl rfl) (pv 4))) (pss_one (ps_set (i := 2) sc_least_runs.nd rfl (Or.inl rfl) (pe_op op_add (pv 4) pe_int))))))) (pss_one (ps_ret (pv 2))))), ?_⟩
  refine q_parII (Go.refl e) ed_int (by walk_at "ed") fun H1 g1 e1 => ?_
  refine q_while (fun m σ H' => ∃ low high x, ∃ f : Nat, σ = [some (.int n), some (.int c), some (.int low), some (.int high), x] ∧ Go I H I H' ∧ lrGo n c f low high = lrI n c ∧ (high - low).toNat ≤ f ∧ m = (high - low).toNat ∧ 0 ≤ low ∧ high ≤ 100) (n - 1 - 0).toNat ⟨0, n - 1, none, 100, rfl, g1, lrI_eq n c, by omega, rfl, by omega, by omega⟩ ?_
  rintro m σ H' ⟨low, high, x, f, rfl, g, hr', hf, rfl, h5, h6⟩
  refine ⟨decide (low < high), et_test (J := I) (by walk_at "ed") g.o, fun hb H2 e2 => ?_, fun hb H2 e2 => ?_⟩
  · have hlt : low < high := of_decide_eq_true hb
    obtain ⟨hm1, hm2⟩ := mid_in hlt
    have g2 := g.step e2
    obtain ⟨f', rfl⟩ : ∃ f', f = f' + 1 := ⟨f - 1, by omega⟩
    refine q_int g2 (n := (low + high).fdiv 2) (ad_fdiv (by omega) (by walk_at "ed") (by walk_at "ed") g2.o) fun H3 g3 e3 => ?_
    rw [lrGo_lt hlt] at hr'
    refine g_if g3 (b := decide (n ≤ chI (c + (low + high).fdiv 2) c)) (et_test (J := I) (ad_ge (ed_callI (J := I) (c + (low + high).fdiv 2, c) (by rfl) (by exact ⟨by omega, by omega, by omega, by omega⟩) (by walk_at "ed") g3.o) (by walk_at "ed") g3.o) g3.o) (fun hb H4 g4 e4 => ?_) (fun hb H4 g4 e4 => ?_)
    · rw [if_pos (of_decide_eq_true hb)] at hr'
      exact g_int g4 (by walk_at "ed") fun H5 g5 e5 => ⟨_, by omega, low, _, _, f', rfl, g5, hr', by omega, rfl, h5, by omega⟩
    · rw [if_neg (of_decide_eq_false hb)] at hr'
      exact g_int g4 (by walk_at "ed") fun H5 g5 e5 => ⟨_, by omega, _, high, _, f', rfl, g5, hr', by omega, rfl, by omega, h6⟩
  · have hge : ¬ low < high := of_decide_eq_false hb
    rw [lrGo_ge hge] at hr'
    subst hr'
    exact g_ret q (g.step e2) (ed_var rfl (.int _))
abbrev N_alike_in : List Str := ["rounds", "c", "runs"]
theorem sc_alike_in : FnScope N_alike_in ["rounds", "c"] (defScope s_alike_in) := ⟨rfl, rfl, rfl, by decide +kernel, rfl, by decide +kernel, by decide +kernel⟩
def alikeD (a : Int × Int) : PyData := .tuple [.int (lrI a.1 a.2), .int (lrI a.1 a.2 * a.1 - chI (a.2 + lrI a.1 a.2) (a.2 + 1))]
abbrev sp_alike_in : Sp := spOf (fun a : Int × Int => [.int a.1, .int a.2]) (fun a => 0 ≤ a.1 ∧ a.1 ≤ 100 ∧ 1 ≤ a.2 ∧ a.2 ≤ 40) alikeD
theorem lrGo_in (n c : Int) : ∀ (f : Nat) (low high : Int), low ≤ lrGo n c f low high ∧ (lrGo n c f low high ≤ high ∨ lrGo n c f low high = low)
  | 0, low, high => by
    rw [lrGo]
    exact ⟨Int.le_refl _, .inr rfl⟩
  | f + 1, low, high => by
    by_cases h : low < high
    · obtain ⟨hm1, hm2⟩ := mid_in h
      rw [lrGo_lt h]
      split
      · obtain ⟨a, b⟩ := lrGo_in n c f low ((low + high).fdiv 2)
        exact ⟨a, b.elim (fun z => .inl (by omega)) .inr⟩
      · obtain ⟨a, b⟩ := lrGo_in n c f ((low + high).fdiv 2 + 1) high
        exact ⟨by omega, b.elim .inl fun z => .inl (by omega)⟩
    · rw [lrGo_ge h]
      exact ⟨Int.le_refl _, .inr rfl⟩
theorem lrI_in {n c : Int} (h : 0 ≤ n ∧ n ≤ 100) : 0 ≤ lrI n c ∧ lrI n c ≤ 100 := by
  obtain ⟨a, b⟩ := lrGo_in n c 100 0 (n - 1)
  rw [lrI_eq] at a b
  generalize lrI n c = z at a b ⊢
  exact ⟨a, b.elim (fun z => by omega) fun z => by omega⟩
theorem ok_alike_in (T : Txt K mg C) (F : Fn K mg "alike_in" s_alike_in) (c_choices : Cal P w K mg base 1 "choices" ["many", "some"] s_choices sp_choices) (c_least_runs : Cal P w K mg base 2 "least_runs" ["rounds", "c"] s_least_runs sp_least_runs) : Cal P w K mg base 3 "alike_in" ["rounds", "c"] s_alike_in sp_alike_in := by
  refine cal_mk F sc_alike_in (fun _ _ _ _ _ _ us hl => match us, hl with | [_, _], _ => rfl) (fun vs H Q E h => spOf_len (n := 2) (fun _ => rfl) h) (fun f cdv A outer s H vs Q E hr h => ?_)
  obtain ⟨⟨n, c⟩, I, e, k, ⟨h1, h2, h3, h4⟩, q⟩ := spOf_out h
  dsimp only at k h1 h2 h3 h4 q
  obtain ⟨v1, v2, rfl, k1, k2⟩ := isAll2 k
  cases k1
  cases k2
  refine ⟨_, (pss_cons (ps_set (i := 2) sc_alike_in.nd rfl (Or.inl rfl) (pe_cal c_least_runs hr (by first | decide | exact Nat.le_refl _) rfl (pa_cons (pv 0) (pa_cons (pv 1) pa_nil)))) (pss_one (ps_ret (pe_tup (pa_cons (pv 2) (pa_cons (pe_op op_sub (pe_op op_mul (pv 2) (pv 0)) (pe_cal c_choices hr (by first | decide | exact Nat.le_refl _) rfl (pa_cons (pe_op op_add (pv 1) (pv 2)) (pa_cons (pe_op op_add (pv 1) pe_int) pa_nil)))) pa_nil)))))), ?_⟩
  obtain ⟨hl1, hl2⟩ := lrI_in (n := n) (c := c) ⟨h1, h2⟩
  refine q_int (Go.refl e) (n := lrI n c) (ed_callI (J := I) (n, c) (by rfl) (by exact ⟨h1, h2, h3, h4⟩) (by walk_at "ed") e) fun H1 g1 e1 => ?_
  have q : Ret I H (.tuple [.int (lrI n c), .int (lrI n c * n - chI (c + lrI n c) (c + 1))]) Q := q
  refine g_ret q g1 (ed_tup (ea_cons (by walk_at "ed") (ea_cons (ad_sub (ad_mul (.inl ⟨by omega, by omega⟩) (by walk_at "ed") (by walk_at "ed") g1.o) (ed_callI (J := I) (c + lrI n c, c + 1) (by rfl) (by exact ⟨by omega, by omega, by omega, by omega⟩) (by walk_at "ed") g1.o) g1.o) ea_nil)) (by show 2 ≤ 100000; decide))
end
end K84
namespace KD
open PySem PySem.Spec PyProof.Rows L2
/-! ### comprehensions with a test, over typed data -/
section
variable {K : PySem.W.Frag} {σ : L2.St} {H I J : Hp} {te : TE} {tt : TT} {d : PyData} {g : TG} {vs : List Nat} {j : Nat}
theorem et_yes : Et tYes σ H true := fun H1 e Q q => q H1 (Ex.refl _)
/-- one turn's element: with it, or passed over -/
def ElOk (tt : TT) (te : TE) (σ2 : L2.St) (H' I' : Hp) : Option PyData → Prop
  | some e => Et tt σ2 H' true ∧ Ed te σ2 H' I' e
  | none => Et tt σ2 H' false
theorem Cw.step {Dl : Addr} {es : List PyData} {H' H2 : Hp} (p : Cw I H Dl es H') (e : Ex H' H2) : Cw I H Dl es H2 := by
  obtain ⟨I', vs, a1, a2, a3, n, hi, hl, hv⟩ := p
  exact ⟨I', vs, a1, a2.trans e, a3.trans e, n, hi, e _ _ hl, hv⟩
theorem Cw.turn {Dl : Addr} {es : List PyData} {H' : Hp} {σ2 : L2.St} {o : Option PyData} (p : Cw I H Dl es H') (hD : H Dl = none) (hz : es.length < 100000) (h : ∀ I' H', Ex I I' → Ex I' H' → Ex H H' → ElOk tt te σ2 H' I' o) :
    tt σ2 H' fun b H3 => if b = true then te σ2 H3 fun y H4 => ∃ acc, H4 Dl = some (.lst acc) ∧ acc.length < sizeLine ∧ Cw I H Dl (es ++ o.toList) (upd H4 Dl (.lst (acc ++ [y]))) else Cw I H Dl (es ++ o.toList) H3 := by
  obtain ⟨I1, vs, a1, a2, a3, n, hi, hl, hv⟩ := id p
  cases o with
  | some d =>
    have h1 := (h I1 H' a1 a3 a2).1
    refine h1 H' (Ex.refl _) _ fun H3 e3 => ?_
    rw [if_pos rfl]
    exact (p.step e3).put hD hz fun I' H' b1 b2 b3 => (h I' H' b1 b2 b3).2
  | none =>
    have h1 := h I1 H' a1 a3 a2
    refine h1 H' (Ex.refl _) _ fun H3 e3 => ?_
    rw [if_neg (by simp)]
    simpa using p.step e3
theorem fm_take {α β : Type} (f : α → Option β) (as : List α) (i : Nat) (a : α) (h : as[i]? = some a) : (as.take (i + 1)).filterMap f = (as.take i).filterMap f ++ (f a).toList := by
  rw [List.take_add_one, h, List.filterMap_append]
  cases q : f a <;> simp [q]
theorem fm_len {α β : Type} (f : α → Option β) (as : List α) (i : Nat) : ((as.take i).filterMap f).length ≤ as.length := by
  refine Nat.le_trans (List.length_filterMap_le _ _) ?_
  rw [List.length_take]
  omega
theorem map_get {α β : Type} {f : α → β} {as : List α} {i : Nat} {b : β} (h : (as.map f)[i]? = some b) : ∃ a, as[i]? = some a ∧ b = f a := by
  rw [List.getElem?_map] at h
  cases q : as[i]? with
  | none => rw [q] at h; cases h
  | some a => rw [q] at h; exact ⟨a, rfl, (Option.some.inj h).symm⟩
theorem ed_lcF {α : Type} {tl : TE} (as : List α) (r : α → PyData) (f : α → Option PyData) (h : Ed tl σ H I (.list (as.map r))) (hz : as.length ≤ 90000) (hw : ∀ x, wipe ((wipe σ vs).set j (some x)) vs = wipe σ vs)
    (he : ∀ (i : Nat) (a : α) (x : V) I' H', as[i]? = some a → Ex I I' → Ex I' H' → Ex H H' → Is I' x (r a) → ElOk tt te ((wipe σ vs).set j (some x)) H' I' (f a)) : Ed (tLc (iList K tl) (gName j) tt te vs) σ H I (.list (as.filterMap f)) := fun H1 e b Q q =>
  h H1 e b _ fun v I2 H2 a1 a2 a3 n k => by
    cases k with
    | @lst a xs _ ka kb =>
      have hl := kb.length
      rw [List.length_map] at hl
      refine ⟨a, rfl, ⟨xs, SqL.of (a3 _ _ ka)⟩, fun Dl hD => ?_⟩
      refine lc_list (xs := xs) (fun i H' => Cw I2 H2 Dl ((as.take i).filterMap f) H') (Cw.nil a3 hD) (fun i H' _ p => ?_) (fun i x H' hx p => ⟨hw x, ?_⟩) fun H' p => ?_
      · obtain ⟨I', ws, c1, c2, c3, _⟩ := p
        exact SqL.of (c3 _ _ (c1 _ _ ka))
      · obtain ⟨d, hd', kd⟩ := kb.get' hx
        obtain ⟨z, hz', rfl⟩ := map_get hd'
        have hi := (List.getElem?_eq_some_iff.mp hz').1
        have t := p.turn hD (Nat.lt_of_le_of_lt (fm_len _ _ _) (by omega)) fun I' H' c1 c2 c3 => he i z x I' H' hz' (a1.trans c1) c2 ((e.trans a2).trans c3) (kd.mono c1)
        rw [← fm_take f as i z hz'] at t
        exact t
      · rw [hl, List.take_length] at p
        exact p.out hD a2 fun v I3 H3 b1 b2 b3 n3 k3 => q v I3 H3 (a1.trans b1) b2 b3 (fun a o z => by
          rcases n3 a o z with y | y
          · exact n a o y
          · exact .inr y) k3
theorem ed_lcFT {α : Type} {tl : TE} (as : List α) (r : α → PyData) (f : α → Option PyData) (h : Ed tl σ H I (.tuple (as.map r))) (hz : as.length ≤ 90000) (hw : ∀ x, wipe ((wipe σ vs).set j (some x)) vs = wipe σ vs)
    (he : ∀ (i : Nat) (a : α) (x : V) I' H', as[i]? = some a → Ex I I' → Ex I' H' → Ex H H' → Is I' x (r a) → ElOk tt te ((wipe σ vs).set j (some x)) H' I' (f a)) : Ed (tLc (iTup K tl) (gName j) tt te vs) σ H I (.list (as.filterMap f)) := fun H1 e b Q q =>
  h H1 e b _ fun v I2 H2 a1 a2 a3 n k => by
    cases k with
    | @tup a xs _ ka kb =>
      have hl := kb.length
      rw [List.length_map] at hl
      refine ⟨a, rfl, ⟨xs, SqT.of (a3 _ _ ka)⟩, fun Dl hD => ?_⟩
      refine lc_tup (xs := xs) (fun i H' => Cw I2 H2 Dl ((as.take i).filterMap f) H') (Cw.nil a3 hD) (fun i H' _ p => ?_) (fun i x H' hx p => ⟨hw x, ?_⟩) fun H' p => ?_
      · obtain ⟨I', ws, c1, c2, c3, _⟩ := p
        exact SqT.of (c3 _ _ (c1 _ _ ka))
      · obtain ⟨d, hd', kd⟩ := kb.get' hx
        obtain ⟨z, hz', rfl⟩ := map_get hd'
        have hi := (List.getElem?_eq_some_iff.mp hz').1
        have t := p.turn hD (Nat.lt_of_le_of_lt (fm_len _ _ _) (by omega)) fun I' H' c1 c2 c3 => he i z x I' H' hz' (a1.trans c1) c2 ((e.trans a2).trans c3) (kd.mono c1)
        rw [← fm_take f as i z hz'] at t
        exact t
      · rw [hl, List.take_length] at p
        exact p.out hD a2 fun v I3 H3 b1 b2 b3 n3 k3 => q v I3 H3 (a1.trans b1) b2 b3 (fun a o z => by
          rcases n3 a o z with y | y
          · exact n a o y
          · exact .inr y) k3
theorem ed_lcA {α : Type} {tl : TE} (as : List α) (r : α → PyData) (f : α → PyData) (h : Ed tl σ H I (.list (as.map r))) (hz : as.length ≤ 90000) (hw : ∀ x, wipe ((wipe σ vs).set j (some x)) vs = wipe σ vs)
    (he : ∀ (i : Nat) (a : α) (x : V) I' H', as[i]? = some a → Ex I I' → Ex I' H' → Ex H H' → Is I' x (r a) → Ed te ((wipe σ vs).set j (some x)) H' I' (f a)) : Ed (tLc (iList K tl) (gName j) tYes te vs) σ H I (.list (as.map f)) := by
  have q := ed_lcF (K := K) (tt := tYes) as r (fun a => some (f a)) h hz hw fun i a x I' H' b1 b2 b3 b4 b5 => ⟨et_yes, he i a x I' H' b1 b2 b3 b4 b5⟩
  rw [List.filterMap_eq_map'] at q
  exact q
theorem ed_lcAT {α : Type} {tl : TE} (as : List α) (r : α → PyData) (f : α → PyData) (h : Ed tl σ H I (.tuple (as.map r))) (hz : as.length ≤ 90000) (hw : ∀ x, wipe ((wipe σ vs).set j (some x)) vs = wipe σ vs)
    (he : ∀ (i : Nat) (a : α) (x : V) I' H', as[i]? = some a → Ex I I' → Ex I' H' → Ex H H' → Is I' x (r a) → Ed te ((wipe σ vs).set j (some x)) H' I' (f a)) : Ed (tLc (iTup K tl) (gName j) tYes te vs) σ H I (.list (as.map f)) := by
  have q := ed_lcFT (K := K) (tt := tYes) as r (fun a => some (f a)) h hz hw fun i a x I' H' b1 b2 b3 b4 b5 => ⟨et_yes, he i a x I' H' b1 b2 b3 b4 b5⟩
  rw [List.filterMap_eq_map'] at q
  exact q
/-- over range(n), with a test -/
theorem ed_lcFR {ta : TA} {n : Int} (f : Nat → Option PyData) (h : Ea ta σ H J [.int n]) (ej : Ex J H) (hn : 0 ≤ n ∧ n ≤ 90000) (hw : ∀ x, wipe ((wipe σ vs).set j (some x)) vs = wipe σ vs)
    (he : ∀ (i : Nat) I' H', (i : Int) < n → Ex I I' → Ex I' H' → Ex H H' → ElOk tt te ((wipe σ vs).set j (some (.int (i : Int)))) H' I' (f i)) : Ed (tLc (iRng1 ta) (gName j) tt te vs) σ H I (.list ((List.range n.toNat).filterMap f)) := fun H1 e b Q q =>
  h H1 e (ej.trans e) _ fun ws I2 H2 _ a2 _ _ k => by
    cases k with
    | cons k1 k2 =>
      cases k1
      cases k2
      refine ⟨n, rfl, by omega, by omega, fun Dl hD => ?_⟩
      have b2 : Ex I H2 := b.trans a2
      refine lc_range (lo := 0) (n := n.toNat) (fun i H' => Cw I H2 Dl ((List.range i).filterMap f) H') (Cw.nil b2 hD) (fun i H' hi p => ⟨hw _, ?_⟩) fun H' p => ?_
      · have e0 : (0 : Int) + (i : Int) = (i : Int) := Int.zero_add _
        rw [e0]
        have t := p.turn hD (Nat.lt_of_le_of_lt (List.length_filterMap_le _ _) (by rw [List.length_range]; omega)) fun I' H' c1 c2 c3 => he i I' H' (by omega) c1 c2 ((e.trans a2).trans c3)
        have ef : (List.range (i + 1)).filterMap f = (List.range i).filterMap f ++ (f i).toList := by
          rw [List.range_succ, List.filterMap_append]
          cases q : f i <;> simp [q]
        rw [← ef] at t
        exact t
      · exact p.out hD a2 q
/-- [.. for x, y in xs] -/
theorem ed_lcP {α : Type} {tl : TE} {j2 : Nat} (as : List α) (r1 r2 : α → PyData) (f : α → PyData) (h : Ed tl σ H I (.list (as.map fun a => .tuple [r1 a, r2 a]))) (hz : as.length ≤ 90000) (hw : ∀ x y, wipe (((wipe σ vs).set j (some x)).set j2 (some y)) vs = wipe σ vs)
    (he : ∀ (i : Nat) (a : α) (x y : V) I' H', as[i]? = some a → Ex I I' → Ex I' H' → Ex H H' → Is I' x (r1 a) → Is I' y (r2 a) → Ed te (((wipe σ vs).set j (some x)).set j2 (some y)) H' I' (f a)) : Ed (tLc (iList K tl) (gTup K 2 (gCons (gName j) (gCons (gName j2) gNil))) tYes te vs) σ H I (.list (as.map f)) := fun H1 e b Q q =>
  h H1 e b _ fun v I2 H2 a1 a2 a3 n k => by
    cases k with
    | @lst a xs _ ka kb =>
      have hl := kb.length
      rw [List.length_map] at hl
      refine ⟨a, rfl, ⟨xs, SqL.of (a3 _ _ ka)⟩, fun Dl hD => ?_⟩
      refine lc_list (xs := xs) (fun i H' => Cw I2 H2 Dl ((as.take i).filterMap fun a => some (f a)) H') (Cw.nil a3 hD) (fun i H' _ p => ?_) (fun i x H' hx p => ?_) fun H' p => ?_
      · obtain ⟨I', ws, c1, c2, c3, _⟩ := p
        exact SqL.of (c3 _ _ (c1 _ _ ka))
      · obtain ⟨d, hd', kd⟩ := kb.get' hx
        obtain ⟨z, hz', rfl⟩ := map_get hd'
        have hi := (List.getElem?_eq_some_iff.mp hz').1
        cases kd with
        | @tup T ys _ kt ks =>
          cases ks with
          | cons k1 ks =>
            cases ks with
            | cons k2 ks =>
              cases ks
              obtain ⟨I', ws, c1, c2, c3, _⟩ := id p
              refine ⟨T, _, rfl, SqT.of (c3 _ _ (c1 _ _ kt)), rfl, _, _, rfl, _, _, rfl, rfl, hw _ _, ?_⟩
              have t := p.turn (tt := tYes) (te := te) hD (Nat.lt_of_le_of_lt (fm_len _ _ _) (by omega)) fun I' H' c1 c2 c3 => (show ElOk tYes te _ H' I' (some (f z)) from ⟨et_yes, he i z _ _ I' H' hz' (a1.trans c1) c2 ((e.trans a2).trans c3) (k1.mono c1) (k2.mono c1)⟩)
              rw [← fm_take (fun a => some (f a)) as i z hz'] at t
              exact t
      · rw [hl, List.take_length, List.filterMap_eq_map'] at p
        exact p.out hD a2 fun v I3 H3 b1 b2 b3 n3 k3 => q v I3 H3 (a1.trans b1) b2 b3 (fun a o z => by
          rcases n3 a o z with y | y
          · exact n a o y
          · exact .inr y) k3
/-- [.. for i, x in enumerate(xs) if ..] -/
theorem ed_lcE {α : Type} {tl : TE} {j2 : Nat} (as : List α) (r : α → PyData) (f : Nat → α → Option PyData) (h : Ed tl σ H I (.list (as.map r))) (hz : as.length ≤ 90000) (hw : ∀ x y, wipe (((wipe σ vs).set j (some x)).set j2 (some y)) vs = wipe σ vs)
    (he : ∀ (i : Nat) (a : α) (x : V) I' H', as[i]? = some a → Ex I I' → Ex I' H' → Ex H H' → Is I' x (r a) → ElOk tt te (((wipe σ vs).set j (some (.int (i : Int)))).set j2 (some x)) H' I' (f i a)) :
    ∀ es : Nat → List PyData, (es 0 = []) → (∀ i a, as[i]? = some a → es (i + 1) = es i ++ (f i a).toList) → (∀ i, (es i).length ≤ i) → Ed (tLc (iEnum K (tCons tl tNil)) (gTup K 2 (gCons (gName j) (gCons (gName j2) gNil))) tt te vs) σ H I (.list (es as.length)) := fun es h0 hst hle H1 e b Q q =>
  h H1 e b _ fun v I2 H2 a1 a2 a3 n k => by
    cases k with
    | @lst a xs _ ka kb =>
      have hl := kb.length
      rw [List.length_map] at hl
      refine ⟨a, xs, rfl, SqL.of (a3 _ _ ka), fun Dl hD => ?_⟩
      have hq : ∀ {H'}, (∃ i, Cw I2 H2 Dl (es i) H') → SqL K H' a xs := fun {H'} p => by
        obtain ⟨i, I', ws, c1, c2, c3, _⟩ := p
        exact SqL.of (c3 _ _ (c1 _ _ ka))
      refine ⟨fun i m H' => m = xs.length - i ∧ i ≤ xs.length ∧ Cw I2 H2 Dl (es i) H', ⟨xs.length, by simp, Nat.zero_le _, h0 ▸ Cw.nil a3 hD⟩, ?_⟩
      rintro i m H' ⟨rfl, hi, p⟩
      by_cases hlt : i < xs.length
      · refine .inr ⟨⟨xs, _, hq ⟨i, p⟩, List.getElem?_eq_getElem hlt⟩, fun H'' => i + 1 ≤ xs.length ∧ Cw I2 H2 Dl (es (i + 1)) H'', fun H'' p' => ⟨xs.length - (i + 1), by omega, rfl, p'.1, p'.2⟩, ?_⟩
        rintro x H'' ⟨T, y, rfl, hT, rfl, hy⟩
        have hx := hy xs (hq ⟨i, p⟩)
        obtain ⟨d, hd', kd⟩ := kb.get' hx
        obtain ⟨z, hz', rfl⟩ := map_get hd'
        refine ⟨T, _, rfl, SqT.of upd_same, rfl, _, _, rfl, _, _, rfl, rfl, hw _ _, ?_⟩
        have t := (p.step (Ex.new (o := .tup [.int (i : Nat), y]) hT)).turn (tt := tt) (te := te) hD (Nat.lt_of_le_of_lt (hle i) (by omega)) fun I' H' c1 c2 c3 => he i z y I' H' hz' (a1.trans c1) c2 ((e.trans a2).trans c3) (kd.mono c1)
        rw [← hst i z hz'] at t
        have ex : ∀ H', (i + 1 ≤ xs.length ∧ Cw I2 H2 Dl (es (i + 1)) H') = Cw I2 H2 Dl (es (i + 1)) H' := fun H' => propext ⟨fun z => z.2, fun z => ⟨by omega, z⟩⟩
        simp only [ex]
        exact t
      · have ei : i = xs.length := by omega
        subst ei
        refine .inl ⟨⟨xs, hq ⟨_, p⟩, Nat.le_refl _⟩, ?_⟩
        rw [hl] at p
        exact p.out hD a2 fun v I3 H3 b1 b2 b3 n3 k3 => q v I3 H3 (a1.trans b1) b2 b3 (fun a o z => by
          rcases n3 a o z with y | y
          · exact n a o y
          · exact .inr y) k3
end
/-! ### for x in a tuple -/
section
variable {I0 H0 I H I2 H2 J : Hp} {σ : L2.St} {D : Ends} {te ta tb : TE} {d : PyData} {l : Addr} {xs : List V} {Q : VK} {K : PySem.W.Frag} {t : TT} {tu tw tz : TS} {g : TG}
theorem s_forT {ds : List PyData} {tl : TE} (h : Ed tl σ H I (.tuple ds)) (ei : Ex I H) (Pv : Hp → Nat → L2.St → Hp → Prop) (hI : ∀ I2 i σ' H', Pv I2 i σ' H' → Ex I2 H') (h0 : ∀ I2 H2, Go I H I2 H2 → Pv I2 0 σ H2)
    (hs : ∀ I2 i d v σ' H', Ex I I2 → ds[i]? = some d → Is I2 v d → Pv I2 i σ' H' → g v σ' H' fun σ2 H2 => tu { D with nx := Pv I2 (i + 1), ct := Pv I2 (i + 1), bk := D.nx } σ2 H2) (hd : ∀ I2 σ' H', Ex I I2 → Pv I2 ds.length σ' H' → D.nx σ' H') : tFor (iTup K tl) g tu D σ H :=
  h H (Ex.refl H) ei _ fun v I2 H2 a1 a2 a3 n k => by
    cases k with
    | @tup a xs _ ka kb =>
      refine ⟨a, rfl, ⟨xs, SqT.of (a3 _ _ ka)⟩, for_tup (xs := xs) (Pv I2) (h0 I2 H2 ⟨a1, n, a2, a3⟩) (fun i σ' H' _ p => SqT.of (hI _ _ _ _ p _ _ ka)) (fun i x σ' H' hx p => ?_) (fun σ' H' p => hd I2 σ' H' a1 (by rw [← kb.length]; exact p))⟩
      obtain ⟨d, hd', kd⟩ := kb.get' hx
      exact hs I2 i d x σ' H' a1 hd' kd p
theorem q_forT {ds : List PyData} {tl : TE} (h : Ed tl σ H I (.tuple ds)) (ei : Ex I H) (Pv : Hp → Nat → L2.St → Hp → Prop) (hI : ∀ I2 i σ' H', Pv I2 i σ' H' → Ex I2 H') (h0 : ∀ I2 H2, Go I H I2 H2 → Pv I2 0 σ H2)
    (hs : ∀ I2 i d v σ' H', Ex I I2 → ds[i]? = some d → Is I2 v d → Pv I2 i σ' H' → g v σ' H' fun σ2 H2 => tu { D with nx := Pv I2 (i + 1), ct := Pv I2 (i + 1), bk := tz D } σ2 H2) (hd : ∀ I2 σ' H', Ex I I2 → Pv I2 ds.length σ' H' → tz D σ' H') : tSeq (tFor (iTup K tl) g tu) tz D σ H :=
  s_forT (D := { D with nx := tz D }) h ei Pv hI h0 hs hd
/-! ### dicts from ints to ints, told by their function -/
def DI (H : Hp) (a : Addr) (m : Int → Option Int) (n : Nat) : Prop := ∃ kvs : List (Key × V), H a = some (.dK kvs) ∧ (∀ i : Int, valV kvs (.inl i) = (m i).map V.int) ∧ kvs.length ≤ n
theorem DI.ex {a : Addr} {m : Int → Option Int} {n : Nat} (h : DI H a m n) (e : Ex H H2) : DI H2 a m n := by
  obtain ⟨kvs, k, r⟩ := h
  exact ⟨kvs, e _ _ k, r⟩
theorem DI.ne {a b : Addr} {m : Int → Option Int} {n : Nat} {o : HO} (h : DI H a m n) (hb : a ≠ b) : DI (upd H b o) a m n := by
  obtain ⟨kvs, k, r⟩ := h
  exact ⟨kvs, by rw [upd_ne hb]; exact k, r⟩
theorem DI.nil {a : Addr} {n : Nat} (h : H a = some (.dK [])) : DI H a (fun _ => none) n := ⟨[], h, fun _ => rfl, Nat.zero_le _⟩
theorem DI.put {a : Addr} {m : Int → Option Int} {n : Nat} {k v : Int} (h : DI H a m n) (hn : n < 100000) : ∃ H', DPut H a (.int k) (.int v) H' ∧ ∃ o, H' = upd H a o ∧ DI H' a (fun i => if i = k then some v else m i) (n + 1) := by
  obtain ⟨kvs, h1, h2, h3⟩ := h
  refine ⟨_, DPut.k (k := .inl k) h1 (sz_lt (by omega)), _, rfl, putK kvs (.inl k) (.int v), upd_same, fun i => ?_, Nat.le_trans (length_putK _ _ _) (by omega)⟩
  rw [valV_put, h2]
  by_cases q : i = k
  · subst q
    simp
  · rw [if_neg (fun z => q (Sum.inl.inj z))]
    simp [q]
theorem ed_dget {a : Addr} {m : Int → Option Int} {n : Nat} {k v : Int} (hd : DI H a m n) (h : m k = some v) (ha : Ev ta σ H (.ref a)) (hb : Ed tb σ H J (.int k)) (ej : Ex J H) : Ed (tDGet ta tb) σ H I (.int v) := fun H1 e b Q q =>
  ha H1 e _ fun H2 e2 => hb.int ej H2 (e.trans e2) _ fun H3 e3 => by
    obtain ⟨kvs, h1, h2, h3⟩ := hd.ex ((e.trans e2).trans e3)
    refine ⟨a, .int v, rfl, ?_, q _ I H3 (Ex.refl _) (e2.trans e3) (b.trans (e2.trans e3)) (New.refl _ _) (.int v)⟩
    have := DGet.k (k := .inl k) h1
    rw [h2, h] at this
    exact this
theorem ed_din {a : Addr} {m : Int → Option Int} {n : Nat} {k : Int} (hd : DI H a m n) (ha : Ev ta σ H (.ref a)) (hb : Ed tb σ H J (.int k)) (ej : Ex J H) : Ed (tDIn tb ta) σ H I (.bool (m k).isSome) := fun H1 e b Q q =>
  hb.int ej H1 e _ fun H2 e2 => ha H2 (e.trans e2) _ fun H3 e3 => by
    obtain ⟨kvs, h1, h2, h3⟩ := hd.ex ((e.trans e2).trans e3)
    refine ⟨a, _, rfl, DGet.k (k := .inl k) h1, ?_⟩
    rw [h2, Option.isSome_map]
    exact q _ I H3 (Ex.refl _) (e2.trans e3) (b.trans (e2.trans e3)) (New.refl _ _) (.bl _)
/-- d[k] = v -/
theorem g_dput {a : Addr} {m : Int → Option Int} {n : Nat} {k v : Int} {tv : TE} (hd : DI H a m n) (hn : n < 100000) (g : Go I0 H0 I H) (hi : I a = none) (h0 : H0 a = none) (ha : Ev ta σ H (.ref a)) (hb : Ed tb σ H I (.int k)) (hv : Ed tv σ H I (.int v))
    (kk : ∀ H2 o, Ex H H2 → Go I0 H0 I (upd H2 a o) → DI (upd H2 a o) a (fun i => if i = k then some v else m i) (n + 1) → D.nx σ (upd H2 a o)) : sDPut ta tb tv D σ H :=
  hv.int g.o H (Ex.refl _) _ fun H1 e1 => ha H1 e1 _ fun H2 e2 => hb.int g.o H2 (e1.trans e2) _ fun H3 e3 => by
    have e := (e1.trans e2).trans e3
    obtain ⟨H', hp, o, rfl, hdi⟩ := (hd.ex e).put (k := k) (v := v) hn
    exact ⟨a, _, rfl, hp, kk H3 o e ((g.step e).mut hi h0) hdi⟩
theorem q_dput {a : Addr} {m : Int → Option Int} {n : Nat} {k v : Int} {tv : TE} (hd : DI H a m n) (hn : n < 100000) (g : Go I0 H0 I H) (hi : I a = none) (h0 : H0 a = none) (ha : Ev ta σ H (.ref a)) (hb : Ed tb σ H I (.int k)) (hv : Ed tv σ H I (.int v))
    (kk : ∀ H2 o, Ex H H2 → Go I0 H0 I (upd H2 a o) → DI (upd H2 a o) a (fun i => if i = k then some v else m i) (n + 1) → tz D σ (upd H2 a o)) : tSeq (sDPut ta tb tv) tz D σ H := g_dput (D := { D with nx := tz D }) hd hn g hi h0 ha hb hv kk
theorem q_dnew {i : Nat} (g : Go I0 H0 I H) (k : ∀ p, H p = none → Go I0 H0 I (upd H p (.dK [])) → tz D (σ.set i (some (.ref p))) (upd H p (.dK []))) : tSeq (tAsg tDNewK (gName i)) tz D σ H := fun p hp => k p hp (g.step (Ex.new hp))
end
end KD
namespace K84
open PySem PySem.Spec PyProof.Rows L2 KD
local macro_rules
  | `(tactic| walk_at "ed") => `(tactic| first
    | with_reducible assumption
    | with_reducible exact Ex.refl _
    | (with_reducible apply Go.o; with_reducible assumption)
    | with_reducible exact ed_int
    | with_reducible exact ed_bl
    | with_reducible exact ed_str
    | with_reducible exact ed_non
    | ((with_reducible apply ed_var) <;> (first | (exact rfl) | exact Is.int _ | exact Is.bl _ | exact Is.str _ | exact Is.non | with_reducible assumption))
    | ((with_reducible apply ad_add) <;> walk_at "ed")
    | ((with_reducible apply ad_sub) <;> walk_at "ed")
    | ((with_reducible apply ad_lt) <;> walk_at "ed")
    | ((with_reducible apply ad_le) <;> walk_at "ed")
    | ((with_reducible apply ad_gt) <;> walk_at "ed")
    | ((with_reducible apply ad_ge) <;> walk_at "ed")
    | ((with_reducible apply ad_eqI) <;> walk_at "ed")
    | ((with_reducible apply ad_neI) <;> walk_at "ed")
    | ((with_reducible apply ad_eqS) <;> walk_at "ed")
    | ((with_reducible apply ad_neS) <;> walk_at "ed")
    | ((with_reducible apply ad_notV) <;> walk_at "ed")
    | ((with_reducible apply ad_neg) <;> walk_at "ed")
    | ((with_reducible apply ad_lenL) <;> walk_at "ed")
    | ((with_reducible refine ad_tup ?_ ?_) <;> (first | walk_at "ed" | (simp only [List.length_cons, List.length_nil]; decide)))
    | ((with_reducible refine ad_lst ?_ ?_) <;> (first | walk_at "ed" | (simp only [List.length_cons, List.length_nil]; decide)))
    | ((with_reducible apply ea_cons) <;> walk_at "ed")
    | with_reducible exact ea_nil)

/-! ### commands, values -/
inductive Cm | turn | mv (w : Str) (n : Int) | bl (w : Str) (b : Bool) | non | ls (ds : List PyData)
def cmD : Cm → PyData
  | .turn => .tuple [.str "turn"]
  | .mv w n => .tuple [.str w, .int n]
  | .bl w b => .tuple [.str w, .bool b]
  | .non => .none
  | .ls ds => .list ds
inductive Val | ls (cs : List Cm) | tp (cs : List Cm) | oth (d : PyData)
def valD : Val → PyData
  | .ls cs => .list (cs.map cmD)
  | .tp cs => .tuple (cs.map cmD)
  | .oth d => d
def valOk : Val → Prop
  | .ls cs => cs.length ≤ 90000
  | .tp cs => cs.length ≤ 90000
  | .oth d => isSeq d = false
def cmOk (c : Int) (ws : List Str) : Cm → Bool
  | .turn => ws.contains "turn"
  | .mv w n => ws.contains w && (!decide (w = "turn") && (if w = "keep" ∨ w = "take" then decide (0 ≤ n) && decide (n ≤ c - 1) else decide (1 ≤ n) && decide (n ≤ 60)))
  | _ => false
def valGood (c : Int) (ws : List Str) : Val → Bool
  | .ls cs => decide ((cs.length : Int) ≤ 4000) && cs.all (cmOk c ws)
  | .tp cs => decide ((cs.length : Int) ≤ 4000) && cs.all (cmOk c ws)
  | .oth _ => false
section
variable {P : Program} {w : World} {K : PySem.W.Frag} {mg : Str → Option Value} {base : Heap} {C : Addr}
abbrev N_are_costs : List Str := ["value", "cost"]
theorem sc_are_costs : FnScope N_are_costs ["value"] (defScope s_are_costs) := ⟨rfl, rfl, rfl, by decide +kernel, rfl, by decide +kernel, by decide +kernel⟩
def GoodCosts (ns : List Int) : Prop := 1 ≤ ns.length ∧ ns.length ≤ 60 ∧ ∀ n ∈ ns, 1 ≤ n ∧ n ≤ 1000000
abbrev sp_are_costs : Sp := spOf (fun ns : List Int => [.list (ns.map PyData.int)]) GoodCosts fun _ => .bool true
theorem ok_are_costs (T : Txt K mg C) (F : Fn K mg "are_costs" s_are_costs) (c_is_list : Cal P w K mg base 1 "is_list" ["value"] s_is_list sp_is_list) (c_is_between : Cal P w K mg base 2 "is_between" ["value", "low", "high"] s_is_between sp_is_between) : Cal P w K mg base 3 "are_costs" ["value"] s_are_costs sp_are_costs := by
  refine cal_mk F sc_are_costs (fun _ _ _ _ _ _ us hl => match us, hl with | [_], _ => rfl) (fun vs H Q E h => spOf_len (n := 1) (fun _ => rfl) h) (fun f cdv A outer s H vs Q E hr h => ?_)
  obtain ⟨ns, I, e, k, ⟨h1, h2, h3⟩, q⟩ := spOf_out h
  obtain ⟨v1, rfl, k1⟩ := isAll1 k
  refine ⟨_, (pss_cons (ps_if (PW.pt (pw_or (pt_not (pt_val (pe_cal c_is_list hr (by first | decide | exact Nat.le_refl _) rfl (pa_cons (pv 0) pa_nil)))) (pw_or1 (pt_not (pt_chain op_le op_le pe_int (pe_callB call_len_seq (by rfl) T.b_len (by decide +kernel) (pa_cons (pv 0) pa_nil)) (pe_gk T.k_MOST_ROUNDS rfl)))))) (pss_one (ps_ret pe_bl)) pss_nil) (pss_one (ps_ret (pe_callB (cr_all rfl) (by rfl) T.b_all (by decide +kernel) (pa_cons (pe_lc (own := [("cost", 1)]) (by rfl) sc_are_costs.nd (pi_list (pv 0)) (blkOk_by (N := N_are_costs) (own := [("cost", 1)]) (sc := defScope s_are_costs) (by decide +kernel)) (fun _ _ _ _ _ => (pg_name (i := 1) sc_are_costs.nd rfl (Or.inl rfl))) (fun _ _ _ _ _ => pts_nil) (fun _ _ _ _ _ => (pe_cal c_is_between hr (by first | decide | exact Nat.le_refl _) rfl (pa_cons (pv 1) (pa_cons pe_int (pa_cons (pe_gk T.k_MOST_COST rfl) pa_nil)))))) pa_nil))))), ?_⟩
  refine q_when (Go.refl e) (b := !true || !(decide (1 ≤ ((ns.map PyData.int).length : Int)) && decide (((ns.map PyData.int).length : Int) ≤ 60))) (et_or (et_not (et_test (J := I) (ed_callB (J := I) _ (by rfl) trivial (ea_cons (ed_var rfl k1) ea_nil) e) e)) fun _ => et_not (et_test (J := I) (ed_chainI (J := I) (g := fun i j => decide (i ≤ j)) (g' := fun i j => decide (i ≤ j)) (by walk_at "ed") (ed_lenL (ed_var rfl k1) e) (by walk_at "ed") e) e)) (fun hb => ?_) fun _ H2 g2 e2 => ?_
  · exfalso
    rw [List.length_map] at hb
    simp only [Bool.not_true, Bool.false_or, Bool.not_eq_true', Bool.and_eq_false_iff, decide_eq_false_iff_not] at hb
    omega
  · refine g_ret q g2 (Ed.is (ed_all (J := I) (ns := ns.map fun n => between (.int n) 1 1000000) (Ed.is (ed_lcA ns PyData.int (fun n => .bool (between (.int n) 1 1000000)) (ed_var rfl k1) (by omega) (fun _ => rfl) fun i a x I' H' ha a1 a2 a3 kx => ?_) (by rw [List.map_map]; rfl)) g2.o) ?_)
    · exact ed_callB (J := I') (PyData.int a, 1, 1000000) (by rfl) trivial (ea_cons (ed_var rfl kx) (by walk_at "ed")) a2
    · congr 1
      rw [List.all_map, List.all_eq_true]
      intro n hn
      obtain ⟨z1, z2⟩ := h3 n hn
      show (decide (1 ≤ n) && decide (n ≤ 1000000)) = true
      rw [decide_eq_true z1, decide_eq_true z2]
      rfl
abbrev N_check_costs : List Str := ["costs"]
theorem sc_check_costs : FnScope N_check_costs ["costs"] (defScope s_check_costs) := ⟨rfl, rfl, rfl, by decide +kernel, rfl, by decide +kernel, by decide +kernel⟩
abbrev sp_check_costs : Sp := spOf (fun ns : List Int => [.list (ns.map PyData.int)]) GoodCosts fun _ => .none
theorem ok_check_costs (T : Txt K mg C) (F : Fn K mg "check_costs" s_check_costs) (c_are_costs : Cal P w K mg base 3 "are_costs" ["value"] s_are_costs sp_are_costs) : Cal P w K mg base 4 "check_costs" ["costs"] s_check_costs sp_check_costs := by
  refine cal_mk F sc_check_costs (fun _ _ _ _ _ _ us hl => match us, hl with | [_], _ => rfl) (fun vs H Q E h => spOf_len (n := 1) (fun _ => rfl) h) (fun f cdv A outer s H vs Q E hr h => ?_)
  obtain ⟨ns, I, e, k, h1, q⟩ := spOf_out h
  obtain ⟨v1, rfl, k1⟩ := isAll1 k
  refine ⟨_, (pss_one (ps_if (pt_not (pt_val (pe_cal c_are_costs hr (by first | decide | exact Nat.le_refl _) rfl (pa_cons (pv 0) pa_nil)))) (pss_one ps_never) pss_nil)), ?_⟩
  refine g_if (Go.refl e) (b := !true) (et_not (et_test (J := I) (ed_callB (J := I) ns (by rfl) h1 (ea_cons (ed_var rfl k1) ea_nil) e) e)) (fun hb => by cases hb) fun _ H2 g2 e2 => q .non I H2 (Ex.refl _) e2 g2.o (New.refl _ _) .non
abbrev N_check_slots : List Str := ["c"]
theorem sc_check_slots : FnScope N_check_slots ["c"] (defScope s_check_slots) := ⟨rfl, rfl, rfl, by decide +kernel, rfl, by decide +kernel, by decide +kernel⟩
abbrev sp_check_slots : Sp := spOf (fun c : Int => [.int c]) (fun c => 1 ≤ c ∧ c ≤ 40) fun _ => .none
theorem ok_check_slots (T : Txt K mg C) (F : Fn K mg "check_slots" s_check_slots) (c_is_between : Cal P w K mg base 2 "is_between" ["value", "low", "high"] s_is_between sp_is_between) : Cal P w K mg base 3 "check_slots" ["c"] s_check_slots sp_check_slots := by
  refine cal_mk F sc_check_slots (fun _ _ _ _ _ _ us hl => match us, hl with | [_], _ => rfl) (fun vs H Q E h => spOf_len (n := 1) (fun _ => rfl) h) (fun f cdv A outer s H vs Q E hr h => ?_)
  obtain ⟨c, I, e, k, ⟨h1, h2⟩, q⟩ := spOf_out h
  obtain ⟨v1, rfl, k1⟩ := isAll1 k
  refine ⟨_, (pss_one (ps_if (pt_not (pt_val (pe_cal c_is_between hr (by first | decide | exact Nat.le_refl _) rfl (pa_cons (pv 0) (pa_cons pe_int (pa_cons (pe_gk T.k_MOST_SLOTS rfl) pa_nil)))))) (pss_one ps_never) pss_nil)), ?_⟩
  refine g_if (Go.refl e) (b := !true) (et_not (et_test (J := I) (ed_callB (J := I) (PyData.int c, 1, 40) (by show PyData.bool (decide (1 ≤ c) && decide (c ≤ 40)) = _; rw [decide_eq_true h1, decide_eq_true h2]; rfl) trivial (ea_cons (ed_var rfl k1) (by walk_at "ed")) e) e)) (fun hb => by cases hb) fun _ H2 g2 e2 => q .non I H2 (Ex.refl _) e2 g2.o (New.refl _ _) .non
end
end K84
namespace K84
open PySem PySem.Spec PyProof.Rows L2 KD
local macro_rules
  | `(tactic| walk_at "ed") => `(tactic| first
    | with_reducible assumption
    | with_reducible exact Ex.refl _
    | (with_reducible apply Go.o; with_reducible assumption)
    | with_reducible exact ed_int
    | with_reducible exact ed_bl
    | with_reducible exact ed_str
    | with_reducible exact ed_non
    | ((with_reducible apply ed_var) <;> (first | (exact rfl) | exact Is.int _ | exact Is.bl _ | exact Is.str _ | exact Is.non | with_reducible assumption))
    | ((with_reducible apply ad_add) <;> walk_at "ed")
    | ((with_reducible apply ad_sub) <;> walk_at "ed")
    | ((with_reducible apply ad_lt) <;> walk_at "ed")
    | ((with_reducible apply ad_le) <;> walk_at "ed")
    | ((with_reducible apply ad_gt) <;> walk_at "ed")
    | ((with_reducible apply ad_ge) <;> walk_at "ed")
    | ((with_reducible apply ad_eqI) <;> walk_at "ed")
    | ((with_reducible apply ad_neI) <;> walk_at "ed")
    | ((with_reducible apply ad_eqS) <;> walk_at "ed")
    | ((with_reducible apply ad_neS) <;> walk_at "ed")
    | ((with_reducible apply ad_notV) <;> walk_at "ed")
    | ((with_reducible apply ad_neg) <;> walk_at "ed")
    | ((with_reducible apply ad_lenL) <;> walk_at "ed")
    | ((with_reducible refine ad_tup ?_ ?_) <;> (first | walk_at "ed" | (simp only [List.length_cons, List.length_nil]; decide)))
    | ((with_reducible refine ad_lst ?_ ?_) <;> (first | walk_at "ed" | (simp only [List.length_cons, List.length_nil]; decide)))
    | ((with_reducible apply ea_cons) <;> walk_at "ed")
    | with_reducible exact ea_nil)

section
variable {P : Program} {w : World} {K : PySem.W.Frag} {mg : Str → Option Value} {base : Heap} {C : Addr}
theorem wordIn_str (s : Str) (ws : List Str) : wordIn (.str s) ws = ws.contains s := rfl
def wsD (ws : List Str) : PyData := .tuple (ws.map PyData.str)
abbrev N_is_command : List Str := ["value", "c", "words"]
theorem sc_is_command : FnScope N_is_command ["value", "c", "words"] (defScope s_is_command) := ⟨rfl, rfl, rfl, by decide +kernel, rfl, by decide +kernel, by decide +kernel⟩
abbrev sp_is_command : Sp := spOf (fun a : Cm × Int × List Str => [cmD a.1, .int a.2.1, .tuple (a.2.2.map PyData.str)]) (fun _ => True) fun a => .bool (cmOk a.2.1 a.2.2 a.1)
theorem ok_is_command (T : Txt K mg C) (F : Fn K mg "is_command" s_is_command) (c_is_word : Cal P w K mg base 1 "is_word" ["value", "words"] s_is_word sp_is_word) (c_is_between : Cal P w K mg base 2 "is_between" ["value", "low", "high"] s_is_between sp_is_between) : Cal P w K mg base 3 "is_command" ["value", "c", "words"] s_is_command sp_is_command := by
  refine cal_mk F sc_is_command (fun _ _ _ _ _ _ us hl => match us, hl with | [_, _, _], _ => rfl) (fun vs H Q E h => spOf_len (n := 3) (fun _ => rfl) h) (fun f cdv A outer s H vs Q E hr h => ?_)
  obtain ⟨⟨d, c, ws⟩, I, e, k, _, q⟩ := spOf_out h
  dsimp only at k q
  obtain ⟨v1, v2, v3, rfl, k1, k2, k3⟩ := isAll3 k
  cases k2
  refine ⟨_, (pss_cons (ps_if (PW.pt (pw_or (pt_not (pt_val (pe_callB call_isi (by rfl) T.b_isinstance (by decide +kernel) (pa_cons (pv 0) (pa_cons (pe_bltn (v := .ty "tuple") (by rfl) T.b_tuple (by decide +kernel) rfl) pa_nil))))) (pw_or (pt_cmpR op_notIn_seq (pe_callB call_len_seq (by rfl) T.b_len (by decide +kernel) (pa_cons (pv 0) pa_nil)) (pe_tup (pa_cons pe_int (pa_cons pe_int pa_nil))) (by with_unfolding_all rfl)) (pw_or1 (pt_not (pt_val (pe_cal c_is_word hr (by first | decide | exact Nat.le_refl _) rfl (pa_cons (pe_ix ix_tup (pv 0) pe_int (fun _ _ => rfl)) (pa_cons (pv 2) pa_nil))))))))) (pss_one (ps_ret pe_bl)) pss_nil) (pss_cons (ps_if (PW.pt (pw_or (pt_cmpR op_eq (pe_ix ix_tup (pv 0) pe_int (fun _ _ => rfl)) (pe_gk T.k_TURN rfl) (nomark _)) (pw_or1 (pt_cmpR op_eq (pe_callB call_len_seq (by rfl) T.b_len (by decide +kernel) (pa_cons (pv 0) pa_nil)) pe_int (nomark _))))) (pss_one (ps_ret (pe_and (pe_cmpR op_eq (pe_ix ix_tup (pv 0) pe_int (fun _ _ => rfl)) (pe_gk T.k_TURN rfl) (nomark _)) (pe_one (pe_cmpR op_eq (pe_callB call_len_seq (by rfl) T.b_len (by decide +kernel) (pa_cons (pv 0) pa_nil)) pe_int (nomark _)))))) pss_nil) (pss_one (ps_ret (pe_ifExp (pt_cmpR op_in_seq (pe_ix ix_tup (pv 0) pe_int (fun _ _ => rfl)) (pe_tup (pa_cons (pe_gk T.k_KEEP rfl) (pa_cons (pe_gk T.k_TAKE rfl) pa_nil))) (by with_unfolding_all rfl)) (pe_cal c_is_between hr (by first | decide | exact Nat.le_refl _) rfl (pa_cons (pe_ix ix_tup (pv 0) pe_int (fun _ _ => rfl)) (pa_cons pe_int (pa_cons (pe_op op_sub (pv 1) pe_int) pa_nil)))) (pe_cal c_is_between hr (by first | decide | exact Nat.le_refl _) rfl (pa_cons (pe_ix ix_tup (pv 0) pe_int (fun _ _ => rfl)) (pa_cons pe_int (pa_cons (pe_gk T.k_MOST_ROUNDS rfl) pa_nil))))))))), ?_⟩
  have hw : ∀ {s : Str} {tl : PyData} {H1 : Hp}, Go I H I H1 → cmD d = .tuple [.str s, tl] ∨ cmD d = .tuple [.str s] → Ed (tCall sp_is_word [] E0 (tCons (tOp (rIxT K) (tVar 0) (tC (.int 0))) (tCons (tVar 2) tNil))) (start N_is_command [v1, .int c, v3]) H1 I (.bool (ws.contains s)) := fun {s tl H1} g hd => by
    refine ed_callB (J := I) (PyData.str s, ws) (by rfl) trivial (ea_cons ?_ (ea_cons (ed_var rfl k3) ea_nil)) g.o
    rcases hd with hd | hd <;> (rw [hd] at k1; exact ed_ixT (ed_var rfl k1) (by walk_at "ed") g.o rfl)
  have h0 : ∀ {ds : List PyData} {H1 : Hp}, Go I H I H1 → cmD d = .tuple ds → Et (tNot (tTest (tCB (rIsi K) (tCons (tVar 0) (tCons (tC (.ty "tuple")) tNil))))) (start N_is_command [v1, .int c, v3]) H1 (!true) := fun {ds H1} g hd => by
    rw [hd] at k1
    exact et_not (et_test (J := I) (ed_isi (kit_tuple _) (ed_var rfl k1) g.o) g.o)
  have h1 : ∀ {ds : List PyData} {H1 : Hp}, Go I H I H1 → cmD d = .tuple ds → Et (tTest (tOp (rIn K true) (tCB (rLenSq K) (tCons (tVar 0) tNil)) (tTup (tCons (tC (.int 1)) (tCons (tC (.int 2)) tNil))))) (start N_is_command [v1, .int c, v3]) H1 (!([1, 2] : List Int).contains (ds.length : Int)) := fun {ds H1} g hd => by
    rw [hd] at k1
    exact et_test (J := I) (ed_niIT (J := I) (ws := [1, 2]) (ed_lenT (ed_var rfl k1) g.o) (show Ed _ _ _ _ (.tuple [.int 1, .int 2]) by walk_at "ed") g.o g.o) g.o
  have hq : ∀ {s : Str} {tl : PyData} {H1 : Hp}, Go I H I H1 → cmD d = .tuple [.str s, tl] ∨ cmD d = .tuple [.str s] → Ed (tOp (rIxT K) (tVar 0) (tC (.int 0))) (start N_is_command [v1, .int c, v3]) H1 I (.str s) := fun {s tl H1} g hd => by
    rcases hd with hd | hd <;> (rw [hd] at k1; exact ed_ixT (ed_var rfl k1) (by walk_at "ed") g.o rfl)
  cases d with
  | turn =>
    refine q_when (Go.refl e) (et_or (h0 (Go.refl e) rfl) fun _ => et_or (h1 (Go.refl e) rfl) fun _ => et_not (et_test (J := I) (hw (tl := .none) (Go.refl e) (.inr rfl)) e)) (fun hb H2 g2 e2 => ?_) fun hb H2 g2 e2 => ?_
    · refine g_ret q g2 (Ed.is ed_bl ?_)
      have hb : (!ws.contains "turn") = true := hb
      show _ = PyData.bool (ws.contains "turn")
      rw [Bool.not_eq_true'] at hb
      rw [hb]
    · have hb : (!ws.contains "turn") = false := hb
      refine q_when g2 (et_or (b := true) (et_test (J := I) (ad_eqS (hq (tl := .none) g2 (.inr rfl)) (by walk_at "ed") g2.o) g2.o) (fun z => by cases z)) (fun hb3 H3 g3 e3 => ?_) fun hb3 H3 g3 e3 => ?_
      · refine g_ret q g3 (Ed.is (ad_andV (ad_eqS (hq (tl := .none) g3 (.inr rfl)) (by walk_at "ed") g3.o) (fun _ => ad_eqI (ed_lenT (ed_var rfl k1) g3.o) (by walk_at "ed") g3.o) g3.o) ?_)
        show _ = PyData.bool (ws.contains "turn")
        rw [Bool.not_eq_false'] at hb
        rw [hb]
        rfl
      · cases hb3
  | mv s n =>
    refine q_when (Go.refl e) (et_or (h0 (Go.refl e) rfl) fun _ => et_or (h1 (Go.refl e) rfl) fun _ => et_not (et_test (J := I) (hw (Go.refl e) (.inl rfl)) e)) (fun hb H2 g2 e2 => ?_) fun hb H2 g2 e2 => ?_
    · refine g_ret q g2 (Ed.is ed_bl ?_)
      have hb : (!ws.contains s) = true := hb
      rw [Bool.not_eq_true'] at hb
      show _ = PyData.bool (ws.contains s && _)
      rw [hb]
      rfl
    · have hb : (!ws.contains s) = false := hb
      rw [Bool.not_eq_false'] at hb
      refine q_when g2 (et_or (et_test (J := I) (ad_eqS (hq g2 (.inl rfl)) (by walk_at "ed") g2.o) g2.o) (fun _ => et_test (J := I) (ad_eqI (ed_lenT (ed_var rfl k1) g2.o) (by walk_at "ed") g2.o) g2.o)) (fun hb3 H3 g3 e3 => ?_) fun hb3 H3 g3 e3 => ?_
      · have hb3 : (decide (s = "turn") || false) = true := hb3
        rw [Bool.or_false, decide_eq_true_eq] at hb3
        refine g_ret q g3 (Ed.is (ad_andV (ad_eqS (hq g3 (.inl rfl)) (by walk_at "ed") g3.o) (fun _ => ad_eqI (ed_lenT (ed_var rfl k1) g3.o) (by walk_at "ed") g3.o) g3.o) ?_)
        subst hb3
        show _ = PyData.bool (ws.contains "turn" && _)
        rw [hb]
        rfl
      · have hb3 : (decide (s = "turn") || false) = false := hb3
        rw [Bool.or_false, decide_eq_false_iff_not] at hb3
        have e1 : Ed (tOp (rIxT K) (tVar 0) (tC (.int 1))) (start N_is_command [v1, .int c, v3]) H3 I (.int n) := ed_ixT (ed_var rfl k1) (by walk_at "ed") g3.o rfl
        have i1 : Et (tTest (tOp (rIn K false) (tOp (rIxT K) (tVar 0) (tC (.int 0))) (tTup (tCons (tC (.str "keep")) (tCons (tC (.str "take")) tNil))))) (start N_is_command [v1, .int c, v3]) H3 (([("keep" : Str), ("take" : Str)] : List Str).contains s) := et_test (J := I) (ed_inS (J := I) (ws := ["keep", "take"]) (hq g3 (.inl rfl)) (show Ed _ _ _ _ (.tuple [.str "keep", .str "take"]) by walk_at "ed") g3.o g3.o) g3.o
        have hk : (([("keep" : Str), ("take" : Str)] : List Str).contains s = true) ↔ (s = "keep" ∨ s = "take") := by simp
        refine g_ret q g3 (Ed.is (ed_if (d := .bool (if s = "keep" ∨ s = "take" then decide (0 ≤ n) && decide (n ≤ c - 1) else decide (1 ≤ n) && decide (n ≤ 60))) i1 (fun hx => ?_) fun hx => ?_) ?_)
        · rw [if_pos (hk.mp hx)]
          exact ed_callB (J := I) (PyData.int n, 0, c - 1) (by rfl) trivial (ea_cons e1 (by walk_at "ed")) g3.o
        · rw [if_neg (fun z => by rw [hk.mpr z] at hx; cases hx)]
          exact ed_callB (J := I) (PyData.int n, 1, 60) (by rfl) trivial (ea_cons e1 (by walk_at "ed")) g3.o
        · show _ = PyData.bool (ws.contains s && (!decide (s = "turn") && _))
          rw [hb, decide_eq_false hb3]
          rfl
  | bl s b =>
    refine q_when (Go.refl e) (et_or (h0 (Go.refl e) rfl) fun _ => et_or (h1 (Go.refl e) rfl) fun _ => et_not (et_test (J := I) (hw (Go.refl e) (.inl rfl)) e)) (fun hb H2 g2 e2 => g_ret q g2 ed_bl) fun hb H2 g2 e2 => ?_
    refine q_when g2 (et_or (et_test (J := I) (ad_eqS (hq g2 (.inl rfl)) (by walk_at "ed") g2.o) g2.o) (fun _ => et_test (J := I) (ad_eqI (ed_lenT (ed_var rfl k1) g2.o) (by walk_at "ed") g2.o) g2.o)) (fun hb3 H3 g3 e3 => ?_) fun hb3 H3 g3 e3 => ?_
    · refine g_ret q g3 (Ed.is (ad_andV (ad_eqS (hq g3 (.inl rfl)) (by walk_at "ed") g3.o) (fun _ => ad_eqI (ed_lenT (ed_var rfl k1) g3.o) (by walk_at "ed") g3.o) g3.o) ?_)
      show PyData.bool (_ && false) = PyData.bool false
      rw [Bool.and_false]
    · have e1 : Ed (tOp (rIxT K) (tVar 0) (tC (.int 1))) (start N_is_command [v1, .int c, v3]) H3 I (.bool b) := ed_ixT (ed_var rfl k1) (by walk_at "ed") g3.o rfl
      have i1 : Et (tTest (tOp (rIn K false) (tOp (rIxT K) (tVar 0) (tC (.int 0))) (tTup (tCons (tC (.str "keep")) (tCons (tC (.str "take")) tNil))))) (start N_is_command [v1, .int c, v3]) H3 (([("keep" : Str), ("take" : Str)] : List Str).contains s) := et_test (J := I) (ed_inS (J := I) (ws := ["keep", "take"]) (hq g3 (.inl rfl)) (show Ed _ _ _ _ (.tuple [.str "keep", .str "take"]) by walk_at "ed") g3.o g3.o) g3.o
      exact g_ret q g3 (ed_if i1 (fun hx => ed_callB (J := I) (PyData.bool b, 0, c - 1) (by rfl) trivial (ea_cons e1 (by walk_at "ed")) g3.o) fun hx => ed_callB (J := I) (PyData.bool b, 1, 60) (by rfl) trivial (ea_cons e1 (by walk_at "ed")) g3.o)
  | non =>
    refine q_when (Go.refl e) (b := true) (et_or (a := true) (b := true) (et_not (a := false) (et_test (J := I) (ed_isi (kit_tuple _) (ed_var rfl k1) e) e)) fun z => by cases z) (fun hb H2 g2 e2 => g_ret q g2 ed_bl) fun hb H2 g2 e2 => by cases hb
  | ls ds =>
    refine q_when (Go.refl e) (b := true) (et_or (a := true) (b := true) (et_not (a := false) (et_test (J := I) (ed_isi (kit_tuple _) (ed_var rfl k1) e) e)) fun z => by cases z) (fun hb H2 g2 e2 => g_ret q g2 ed_bl) fun hb H2 g2 e2 => by cases hb
abbrev N_are_commands : List Str := ["value", "c", "words", "one"]
theorem sc_are_commands : FnScope N_are_commands ["value", "c", "words"] (defScope s_are_commands) := ⟨rfl, rfl, rfl, by decide +kernel, rfl, by decide +kernel, by decide +kernel⟩
abbrev sp_are_commands : Sp := spOf (fun a : Val × Int × List Str => [valD a.1, .int a.2.1, .tuple (a.2.2.map PyData.str)]) (fun a => valOk a.1) fun a => .bool (valGood a.2.1 a.2.2 a.1)
theorem ok_are_commands (T : Txt K mg C) (F : Fn K mg "are_commands" s_are_commands) (c_is_list : Cal P w K mg base 1 "is_list" ["value"] s_is_list sp_is_list) (c_is_command : Cal P w K mg base 3 "is_command" ["value", "c", "words"] s_is_command sp_is_command) : Cal P w K mg base 4 "are_commands" ["value", "c", "words"] s_are_commands sp_are_commands := by
  refine cal_mk F sc_are_commands (fun _ _ _ _ _ _ us hl => match us, hl with | [_, _, _], _ => rfl) (fun vs H Q E h => spOf_len (n := 3) (fun _ => rfl) h) (fun f cdv A outer s H vs Q E hr h => ?_)
  obtain ⟨⟨d, c, ws⟩, I, e, k, hok, q⟩ := spOf_out h
  dsimp only at k q hok
  obtain ⟨v1, v2, v3, rfl, k1, k2, k3⟩ := isAll3 k
  cases k2
  cases d with
  | ls cs =>
    refine ⟨_, (pss_one (ps_ret (pe_and (pe_cal c_is_list hr (by first | decide | exact Nat.le_refl _) rfl (pa_cons (pv 0) pa_nil)) (pe_and (pe_cmpR op_le (pe_callB call_len_seq (by rfl) T.b_len (by decide +kernel) (pa_cons (pv 0) pa_nil)) (pe_gk T.k_MOST_COMMANDS rfl) (nomark _)) (pe_one (pe_callB (cr_all rfl) (by rfl) T.b_all (by decide +kernel) (pa_cons (pe_lc (own := [("one", 3)]) (by rfl) sc_are_commands.nd (pi_list (pv 0)) (blkOk_by (N := N_are_commands) (own := [("one", 3)]) (sc := defScope s_are_commands) (by decide +kernel)) (fun _ _ _ _ _ => (pg_name (i := 3) sc_are_commands.nd rfl (Or.inl rfl))) (fun _ _ _ _ _ => pts_nil) (fun _ _ _ _ _ => (pe_cal c_is_command hr (by first | decide | exact Nat.le_refl _) rfl (pa_cons (pv 3) (pa_cons (pv 1) (pa_cons (pv 2) pa_nil)))))) pa_nil))))))), ?_⟩
    have hok : cs.length ≤ 90000 := hok
    refine g_ret q (Go.refl e) (Ed.is (ad_andV (a := true) (ed_callB (J := I) (PyData.list (cs.map cmD)) (by rfl) trivial (ea_cons (ed_var rfl k1) ea_nil) e) (fun _ => ad_andV (ad_le (ed_lenL (J := I) (ed_var rfl k1) e) (by walk_at "ed") e) (fun _ => ed_all (J := I) (ns := cs.map (cmOk c ws)) (Ed.is (ed_lcA cs cmD (fun a => .bool (cmOk c ws a)) (ed_var rfl k1) hok (fun _ => rfl) fun i a x I' H' ha a1 a2 a3 kx => ?_) (by rw [List.map_map]; rfl)) e) e) e) ?_)
    · exact ed_callB (J := I') (a, c, ws) (by rfl) trivial (ea_cons (ed_var rfl kx) (ea_cons (by walk_at "ed") (ea_cons (ed_var rfl (k3.mono a1)) ea_nil))) a2
    · show PyData.bool (true && (decide (((cs.map cmD).length : Int) ≤ 4000) && (cs.map (cmOk c ws)).all id)) = PyData.bool (decide ((cs.length : Int) ≤ 4000) && cs.all (cmOk c ws))
      rw [List.length_map, List.all_map, Bool.true_and]
      rfl
  | tp cs =>
    refine ⟨_, (pss_one (ps_ret (pe_and (pe_cal c_is_list hr (by first | decide | exact Nat.le_refl _) rfl (pa_cons (pv 0) pa_nil)) (pe_and (pe_cmpR op_le (pe_callB call_len_seq (by rfl) T.b_len (by decide +kernel) (pa_cons (pv 0) pa_nil)) (pe_gk T.k_MOST_COMMANDS rfl) (nomark _)) (pe_one (pe_callB (cr_all rfl) (by rfl) T.b_all (by decide +kernel) (pa_cons (pe_lc (own := [("one", 3)]) (by rfl) sc_are_commands.nd (pi_tup (pv 0)) (blkOk_by (N := N_are_commands) (own := [("one", 3)]) (sc := defScope s_are_commands) (by decide +kernel)) (fun _ _ _ _ _ => (pg_name (i := 3) sc_are_commands.nd rfl (Or.inl rfl))) (fun _ _ _ _ _ => pts_nil) (fun _ _ _ _ _ => (pe_cal c_is_command hr (by first | decide | exact Nat.le_refl _) rfl (pa_cons (pv 3) (pa_cons (pv 1) (pa_cons (pv 2) pa_nil)))))) pa_nil))))))), ?_⟩
    have hok : cs.length ≤ 90000 := hok
    refine g_ret q (Go.refl e) (Ed.is (ad_andV (a := true) (ed_callB (J := I) (PyData.tuple (cs.map cmD)) (by rfl) trivial (ea_cons (ed_var rfl k1) ea_nil) e) (fun _ => ad_andV (ad_le (ed_lenT (J := I) (ed_var rfl k1) e) (by walk_at "ed") e) (fun _ => ed_all (J := I) (ns := cs.map (cmOk c ws)) (Ed.is (ed_lcAT cs cmD (fun a => .bool (cmOk c ws a)) (ed_var rfl k1) hok (fun _ => rfl) fun i a x I' H' ha a1 a2 a3 kx => ?_) (by rw [List.map_map]; rfl)) e) e) e) ?_)
    · exact ed_callB (J := I') (a, c, ws) (by rfl) trivial (ea_cons (ed_var rfl kx) (ea_cons (by walk_at "ed") (ea_cons (ed_var rfl (k3.mono a1)) ea_nil))) a2
    · show PyData.bool (true && (decide (((cs.map cmD).length : Int) ≤ 4000) && (cs.map (cmOk c ws)).all id)) = PyData.bool (decide ((cs.length : Int) ≤ 4000) && cs.all (cmOk c ws))
      rw [List.length_map, List.all_map, Bool.true_and]
      rfl
  | oth d =>
    refine ⟨_, (pss_one (ps_ret (pe_and (pe_cal c_is_list hr (by first | decide | exact Nat.le_refl _) rfl (pa_cons (pv 0) pa_nil)) (pe_and (pe_cmpR op_le (pe_callB call_len_seq (by rfl) T.b_len (by decide +kernel) (pa_cons (pv 0) pa_nil)) (pe_gk T.k_MOST_COMMANDS rfl) (nomark _)) (pe_one (pe_callB (cr_all rfl) (by rfl) T.b_all (by decide +kernel) (pa_cons (pe_lc (own := [("one", 3)]) (by rfl) sc_are_commands.nd (pi_list (pv 0)) (blkOk_by (N := N_are_commands) (own := [("one", 3)]) (sc := defScope s_are_commands) (by decide +kernel)) (fun _ _ _ _ _ => (pg_name (i := 3) sc_are_commands.nd rfl (Or.inl rfl))) (fun _ _ _ _ _ => pts_nil) (fun _ _ _ _ _ => (pe_cal c_is_command hr (by first | decide | exact Nat.le_refl _) rfl (pa_cons (pv 3) (pa_cons (pv 1) (pa_cons (pv 2) pa_nil)))))) pa_nil))))))), ?_⟩
    have hok : isSeq d = false := hok
    have hl : (isL d || isTup d) = false := by cases d <;> first | rfl | cases hok
    refine g_ret q (Go.refl e) (ad_andV (a := false) (b := true) (ed_callB (J := I) d (by show PyData.bool (isL d || isTup d) = _; rw [hl]) trivial (ea_cons (ed_var rfl k1) ea_nil) e) (fun z => by cases z) e)
end
end K84
namespace K84
open PySem PySem.Spec PyProof.Rows L2 KD
local macro_rules
  | `(tactic| walk_at "ed") => `(tactic| first
    | with_reducible assumption
    | with_reducible exact Ex.refl _
    | (with_reducible apply Go.o; with_reducible assumption)
    | with_reducible exact ed_int
    | with_reducible exact ed_bl
    | with_reducible exact ed_str
    | with_reducible exact ed_non
    | ((with_reducible apply ed_var) <;> (first | (exact rfl) | exact Is.int _ | exact Is.bl _ | exact Is.str _ | exact Is.non | with_reducible assumption))
    | ((with_reducible apply ad_add) <;> walk_at "ed")
    | ((with_reducible apply ad_sub) <;> walk_at "ed")
    | ((with_reducible apply ad_lt) <;> walk_at "ed")
    | ((with_reducible apply ad_le) <;> walk_at "ed")
    | ((with_reducible apply ad_gt) <;> walk_at "ed")
    | ((with_reducible apply ad_ge) <;> walk_at "ed")
    | ((with_reducible apply ad_eqI) <;> walk_at "ed")
    | ((with_reducible apply ad_neI) <;> walk_at "ed")
    | ((with_reducible apply ad_eqS) <;> walk_at "ed")
    | ((with_reducible apply ad_neS) <;> walk_at "ed")
    | ((with_reducible apply ad_notV) <;> walk_at "ed")
    | ((with_reducible apply ad_neg) <;> walk_at "ed")
    | ((with_reducible apply ad_lenL) <;> walk_at "ed")
    | ((with_reducible refine ad_tup ?_ ?_) <;> (first | walk_at "ed" | (simp only [List.length_cons, List.length_nil]; decide)))
    | ((with_reducible refine ad_lst ?_ ?_) <;> (first | walk_at "ed" | (simp only [List.length_cons, List.length_nil]; decide)))
    | ((with_reducible apply ea_cons) <;> walk_at "ed")
    | with_reducible exact ea_nil)

/-! ### the class Walk -/
structure Wst where
  here : Int
  left : Int
  slots : Int → Option Int
  runs : List (Int × Int)
structure WA where
  p : Addr
  dx : Addr
  sl : Addr
  rl : Addr
  kv : V
def cutA {α : Type} (xs : List α) (lo hi : Option Int) : List α := (xs.drop (HT.sIx xs.length 0 lo)).take (HT.sIx xs.length xs.length hi - HT.sIx xs.length 0 lo)
theorem cutD_map {α : Type} (f : α → PyData) (xs : List α) (lo hi : Option Int) : KD.cutD (xs.map f) lo hi = (cutA xs lo hi).map f := by
  unfold KD.cutD cutA
  rw [List.length_map, List.map_take, List.map_drop]
def kAt (ks : List Int) (i : Int) : Int := (ks[i.toNat]?).getD 0
theorem atI_nat {α : Type} {xs : List α} {i : Int} (h0 : 0 ≤ i) (h1 : i < xs.length) : atI xs i = xs[i.toNat]? := by
  unfold atI ixN
  rw [if_pos h0, if_pos h1]
  rfl
theorem atI_k {ks : List Int} {i : Int} (h0 : 0 ≤ i) (h1 : i < ks.length) : atI (ks.map PyData.int) i = some (.int (kAt ks i)) := by
  rw [atI_nat h0 (by rw [List.length_map]; exact h1), List.getElem?_map]
  unfold kAt
  have : i.toNat < ks.length := by omega
  rw [List.getElem?_eq_getElem this]
  rfl
def turnS (ks : List Int) (s : Wst) : Bool × Wst :=
  if s.left = 0 then (false, s) else
  if (if s.here = s.left ∧ kAt ks (s.left - 1) = 0 then s.left - 1 else s.here) ≠ s.left - 1 then (false, { s with here := if s.here = s.left ∧ kAt ks (s.left - 1) = 0 then s.left - 1 else s.here })
  else (true, { s with here := if s.here = s.left ∧ kAt ks (s.left - 1) = 0 then s.left - 1 else s.here, left := s.left - 1 })
def moveS (ks : List Int) (s : Wst) (w : Str) (n : Int) : Bool × Wst :=
  if w = "run" then (if s.left < s.here + n then (false, s) else (true, { s with runs := s.runs ++ [(s.here, s.here + n)], here := s.here + n }))
  else if s.here < n ∨ (cutA ks (some (s.here - n)) (some s.here)).contains 1 = true then (false, s) else (true, { s with here := s.here - n })
def doesS (ks : List Int) (s : Wst) : Cm → Bool × Wst
  | .turn => turnS ks s
  | .mv w n => if w = "keep" then (true, { s with slots := fun i => if i = n then some s.here else s.slots i }) else if w = "take" then ((s.slots n).isSome, { s with here := (s.slots n).getD s.here }) else moveS ks s w n
  | _ => (false, s)
def walkS (ks : List Int) : Wst → List Cm → Option Wst
  | s, [] => if s.left = 0 then some s else none
  | s, c :: cs => if (doesS ks s c).1 = true then walkS ks (doesS ks s c).2 cs else none
def runD (r : Int × Int) : PyData := .tuple [.int r.1, .int r.2]
structure Wk (C : Addr) (H0 I H : Hp) (A : WA) (ks : List Int) (s : Wst) (n : Nat) : Prop where
  o : H A.p = some (.ins C A.dx [("kinds", A.kv), ("here", .int s.here), ("left", .int s.left), ("slots", .ref A.sl), ("runs", .ref A.rl)])
  k : Is I A.kv (.list (ks.map PyData.int))
  d : DI H A.sl s.slots n
  r : ∃ rs, H A.rl = some (.lst rs) ∧ IsAll I rs (s.runs.map runD) ∧ rs.length ≤ n
  ip : I A.p = none
  is : I A.sl = none
  ir : I A.rl = none
  hp : H0 A.p = none
  hs : H0 A.sl = none
  hr : H0 A.rl = none
section
variable {C : Addr} {H0 I0 I H I2 H2 : Hp} {A : WA} {ks : List Int} {s : Wst} {n : Nat} {K : PySem.W.Frag} {σ : L2.St} {D : Ends} {te ta tb : TE} {mg : Str → Option Value}
theorem Wk.step (W : Wk C H0 I H A ks s n) (e : Ex H H2) : Wk C H0 I H2 A ks s n := by
  obtain ⟨rs, h1, h2⟩ := W.r
  exact ⟨e _ _ W.o, W.k, W.d.ex e, ⟨rs, e _ _ h1, h2⟩, W.ip, W.is, W.ir, W.hp, W.hs, W.hr⟩
theorem Wk.go (W : Wk C H0 I H A ks s n) (g : Go I H I2 H2) : Wk C H0 I2 H2 A ks s n := by
  obtain ⟨rs, h1, h2, h3⟩ := W.r
  obtain ⟨kvs, h4, _⟩ := id W.d
  exact ⟨g.h _ _ W.o, W.k.mono g.i, W.d.ex g.h, ⟨rs, g.h _ _ h1, h2.mono g.i, h3⟩, g.n.none W.o W.ip, g.n.none h4 W.is, g.n.none h1 W.ir, W.hp, W.hs, W.hr⟩
theorem Wk.more {m : Nat} (W : Wk C H0 I H A ks s n) (h : n ≤ m) : Wk C H0 I H A ks s m := by
  obtain ⟨rs, h1, h2, h3⟩ := W.r
  obtain ⟨kvs, h4, h5, h6⟩ := W.d
  exact ⟨W.o, W.k, ⟨kvs, h4, h5, Nat.le_trans h6 h⟩, ⟨rs, h1, h2, Nat.le_trans h3 h⟩, W.ip, W.is, W.ir, W.hp, W.hs, W.hr⟩
theorem Wk.ps (W : Wk C H0 I H A ks s n) : A.sl ≠ A.p := by
  obtain ⟨kvs, h4, _⟩ := W.d
  exact ne_of h4 W.o (by intro z; cases z)
theorem Wk.pr (W : Wk C H0 I H A ks s n) : A.rl ≠ A.p := by
  obtain ⟨rs, h1, _⟩ := W.r
  exact ne_of h1 W.o (by intro z; cases z)
theorem Wk.sr (W : Wk C H0 I H A ks s n) : A.sl ≠ A.rl := by
  obtain ⟨rs, h1, _⟩ := W.r
  obtain ⟨kvs, h4, _⟩ := W.d
  exact ne_of h4 h1 (by intro z; cases z)
/-- the fields -/
theorem w_fld {f : Str} {v : V} (W : Wk C H0 I H A ks s n) (c : Cls K C) (na : NoAttr K C f) (ha : Ev ta σ H (.ref A.p)) (hl : ([("kinds", A.kv), ("here", .int s.here), ("left", .int s.left), ("slots", .ref A.sl), ("runs", .ref A.rl)] : List (Str × V)).lookup f = some v) : Ev (tFld K ta f) σ H v := fun H1 e Q q =>
  ha H1 e _ fun H2 e2 => ⟨_, _, _, _, _, rfl, (W.step (e.trans e2)).o, c, na, hl, q H2 e2⟩
theorem w_here (W : Wk C H0 I H A ks s n) (T : Txt K mg C) (ha : Ev ta σ H (.ref A.p)) : Ed (tFld K ta "here") σ H I2 (.int s.here) := (w_fld W T.cl T.n_here ha rfl).ed (.int _)
theorem w_left (W : Wk C H0 I H A ks s n) (T : Txt K mg C) (ha : Ev ta σ H (.ref A.p)) : Ed (tFld K ta "left") σ H I2 (.int s.left) := (w_fld W T.cl T.n_left ha rfl).ed (.int _)
theorem w_kinds (W : Wk C H0 I H A ks s n) (T : Txt K mg C) (ha : Ev ta σ H (.ref A.p)) : Ed (tFld K ta "kinds") σ H I (.list (ks.map PyData.int)) := (w_fld W T.cl T.n_kinds ha rfl).ed W.k
theorem w_slots (W : Wk C H0 I H A ks s n) (T : Txt K mg C) (ha : Ev ta σ H (.ref A.p)) : Ev (tFld K ta "slots") σ H (.ref A.sl) := w_fld W T.cl T.n_slots ha rfl
theorem w_runs (W : Wk C H0 I H A ks s n) (T : Txt K mg C) (ha : Ev ta σ H (.ref A.p)) : Ev (tFld K ta "runs") σ H (.ref A.rl) := w_fld W T.cl T.n_runs ha rfl
theorem w_put {fs : List (Str × V)} {dx : Addr} {h l : Int} {o : HO} (W : Wk C H0 I H A ks s n) (eo : o = .ins C A.dx [("kinds", A.kv), ("here", .int h), ("left", .int l), ("slots", .ref A.sl), ("runs", .ref A.rl)]) : Wk C H0 I (upd H A.p o) A ks { s with here := h, left := l } n := by
  obtain ⟨rs, h1, h2⟩ := W.r
  exact ⟨by rw [upd_same, eo], W.k, W.d.ne W.ps, ⟨rs, by rw [upd_ne W.pr]; exact h1, h2⟩, W.ip, W.is, W.ir, W.hp, W.hs, W.hr⟩
theorem w_setHere {v : Int} (W : Wk C H0 I H A ks s n) (T : Txt K mg C) (g : Go I0 H0 I H) (ha : Ev ta σ H (.ref A.p)) (h : Ed te σ H I (.int v)) (k : ∀ H2, Go I0 H0 I H2 → Wk C H0 I H2 A ks { s with here := v } n → D.nx σ H2) : sFld K ta te "here" D σ H :=
  h.int g.o H (Ex.refl _) _ fun H1 e1 => ha H1 e1 _ fun H2 e2 => ⟨_, _, _, _, rfl, (W.step (e1.trans e2)).o, T.cl, T.n_here, (by show 5 < 1000; decide), k _ ((g.step (e1.trans e2)).mut W.ip W.hp) (w_put (fs := []) (dx := 0) (W.step (e1.trans e2)) rfl)⟩
theorem w_setLeft {v : Int} (W : Wk C H0 I H A ks s n) (T : Txt K mg C) (g : Go I0 H0 I H) (ha : Ev ta σ H (.ref A.p)) (h : Ed te σ H I (.int v)) (k : ∀ H2, Go I0 H0 I H2 → Wk C H0 I H2 A ks { s with left := v } n → D.nx σ H2) : sFld K ta te "left" D σ H :=
  h.int g.o H (Ex.refl _) _ fun H1 e1 => ha H1 e1 _ fun H2 e2 => ⟨_, _, _, _, rfl, (W.step (e1.trans e2)).o, T.cl, T.n_left, (by show 5 < 1000; decide), k _ ((g.step (e1.trans e2)).mut W.ip W.hp) (w_put (fs := []) (dx := 0) (W.step (e1.trans e2)) rfl)⟩
/-- self.runs.append((a, b)) -/
theorem w_run {a b : Int} (W : Wk C H0 I H A ks s n) (T : Txt K mg C) (g : Go I0 H0 I H) (hn : n < 90000) (ha : Ev ta σ H (.ref A.p)) (h : Ed te σ H I (runD (a, b))) (k : ∀ I2 H2, Go I0 H0 I2 H2 → Ex I I2 → Wk C H0 I2 H2 A ks { s with runs := s.runs ++ [(a, b)] } (n + 1) → D.nx σ H2) : tDrop (tBM K "list" rAppend (tFld K ta "runs") (tCons te tNil)) D σ H := by
  obtain ⟨rs, h1, h2, h3⟩ := W.r
  refine s_app h1 W.ir g.o (w_runs W T ha) h (by omega) fun v I2 H2 a1 a2 a3 nw hi kv hl => ?_
  have g2 : Go I H I2 H2 := ⟨a1, nw, a2, a3⟩
  have W2 := W.go g2
  obtain ⟨kvs, h4, h5, h6⟩ := W2.d
  refine k I2 _ ((g.trans g2).mut hi W.hr) a1 ⟨by rw [upd_ne (fun z => W.pr z.symm)]; exact W2.o, W2.k, ⟨kvs, by rw [upd_ne W.sr]; exact h4, h5, by omega⟩, ⟨rs ++ [v], upd_same, ?_, by rw [List.length_append]; show rs.length + 1 ≤ n + 1; omega⟩, W2.ip, W2.is, W2.ir, W2.hp, W2.hs, W2.hr⟩
  rw [List.map_append]
  exact (h2.mono a1).append (.cons kv .nil)
theorem w_qHere {v : Int} {tz : TS} (W : Wk C H0 I H A ks s n) (T : Txt K mg C) (g : Go I0 H0 I H) (ha : Ev ta σ H (.ref A.p)) (h : Ed te σ H I (.int v)) (k : ∀ H2, Go I0 H0 I H2 → Wk C H0 I H2 A ks { s with here := v } n → tz D σ H2) : tSeq (sFld K ta te "here") tz D σ H := w_setHere (D := { D with nx := tz D }) W T g ha h k
theorem w_qLeft {v : Int} {tz : TS} (W : Wk C H0 I H A ks s n) (T : Txt K mg C) (g : Go I0 H0 I H) (ha : Ev ta σ H (.ref A.p)) (h : Ed te σ H I (.int v)) (k : ∀ H2, Go I0 H0 I H2 → Wk C H0 I H2 A ks { s with left := v } n → tz D σ H2) : tSeq (sFld K ta te "left") tz D σ H := w_setLeft (D := { D with nx := tz D }) W T g ha h k
theorem w_qRun {a b : Int} {tz : TS} (W : Wk C H0 I H A ks s n) (T : Txt K mg C) (g : Go I0 H0 I H) (hn : n < 90000) (ha : Ev ta σ H (.ref A.p)) (h : Ed te σ H I (runD (a, b))) (k : ∀ I2 H2, Go I0 H0 I2 H2 → Ex I I2 → Wk C H0 I2 H2 A ks { s with runs := s.runs ++ [(a, b)] } (n + 1) → tz D σ H2) : tSeq (tDrop (tBM K "list" rAppend (tFld K ta "runs") (tCons te tNil))) tz D σ H := w_run (D := { D with nx := tz D }) W T g hn ha h k
end
/-- a method that keeps a promise -/
structure MCal (P : Program) (w : World) (K : PySem.W.Frag) (mg : Str → Option Value) (base : Heap) (C : Addr) (k : Nat) (m : Str) (ps : List Str) (sp : Sp) : Prop where
  ex : ∃ (f : Addr) (fd : FuncData), FnOk P w K mg base CX0 k f fd ps sp ∧ Meth K C m f ∧ Binds K fd ps []
def MFn (K : PySem.W.Frag) (C : Addr) (m qual : Str) (st : Stmt) : Prop := ∃ (f : Addr) (fd : FuncData), FunD K m qual (defArgs st) (defBody st) (defScope st) [] [] f fd ∧ Meth K C m f
structure ICal (P : Program) (w : World) (K : PySem.W.Frag) (mg : Str → Option Value) (base : Heap) (C : Addr) (k : Nat) (x : Str) (ps : List Str) (sp : Sp) : Prop where
  ex : ∃ (f : Addr) (fd : FuncData), FnOk P w K mg base CX0 k f fd ps sp ∧ Mk K C f ∧ Binds K fd ps [] ∧ mg x = some (.ref C)
def IFn (K : PySem.W.Frag) (mg : Str → Option Value) (C : Addr) (x qual : Str) (st : Stmt) : Prop := ∃ (f : Addr) (fd : FuncData), FunD K "__init__" qual (defArgs st) (defBody st) (defScope st) [] [] f fd ∧ Mk K C f ∧ mg x = some (.ref C)
section
variable {P : Program} {w : World} {K : PySem.W.Frag} {mg : Str → Option Value} {base : Heap} {k : Nat} {m qual : Str} {ps N : List Str} {st : Stmt} {sp : Sp} {C : Addr}
theorem mcal_mk (F : MFn K C m qual st) (S : FnScope N ps (defScope st))
    (hb : ∀ (kV doc pm : Value) (an : Option Addr) (cdv ct : Value) (us : List Value), us.length = ps.length → bindArgs (PySem.W.fnOf m qual (defArgs st) (defBody st) (defScope st) .none kV doc pm an cdv ct) ⟨us, []⟩ = pure (ps.zip us))
    (len : ∀ vs H Q E, sp vs H Q E → vs.length = ps.length)
    (hbody : ∀ (f : Addr) (cdv : Value) (A : Around) (outer : List Env) (s : Shared) (H : Hp) (vs : List V) (Q : VK) (E : XK), Room k (A.deeper (envOfC qual (defScope st) s.heap.objs.size f cdv)) → sp vs H Q E →
      ∃ t, PSs (cxOf CX0 P w K mg base N qual (defScope st) f cdv A outer s H E).nox (defBody st) t ∧ t { nx := fun _ H' => Q .non H', rt := Q } (start N vs) H) : MCal P w K mg base C (k + 1) m ps sp := by
  obtain ⟨f, fd, F, g⟩ := F
  refine ⟨f, fd, F.ok S len (fun cdv A outer s H vs Q E hr h => ?_), g, F.bindsN hb⟩
  obtain ⟨t, h1, h2⟩ := hbody f cdv A outer s H vs Q E hr h
  exact ⟨t, h1.nox, h2⟩
theorem ical_mk {x : Str} (F : IFn K mg C x qual st) (S : FnScope N ps (defScope st))
    (hb : ∀ (kV doc pm : Value) (an : Option Addr) (cdv ct : Value) (us : List Value), us.length = ps.length → bindArgs (PySem.W.fnOf "__init__" qual (defArgs st) (defBody st) (defScope st) .none kV doc pm an cdv ct) ⟨us, []⟩ = pure (ps.zip us))
    (len : ∀ vs H Q E, sp vs H Q E → vs.length = ps.length)
    (hbody : ∀ (f : Addr) (cdv : Value) (A : Around) (outer : List Env) (s : Shared) (H : Hp) (vs : List V) (Q : VK) (E : XK), Room k (A.deeper (envOfC qual (defScope st) s.heap.objs.size f cdv)) → sp vs H Q E →
      ∃ t, PSs (cxOf CX0 P w K mg base N qual (defScope st) f cdv A outer s H E).nox (defBody st) t ∧ t { nx := fun _ H' => Q .non H', rt := Q } (start N vs) H) : ICal P w K mg base C (k + 1) x ps sp := by
  obtain ⟨f, fd, F, g, hm⟩ := F
  refine ⟨f, fd, F.ok S len (fun cdv A outer s H vs Q E hr h => ?_), g, F.bindsN hb, hm⟩
  obtain ⟨t, h1, h2⟩ := hbody f cdv A outer s H vs Q E hr h
  exact ⟨t, h1.nox, h2⟩
theorem room_hu {A : Around} (r : Room k A) : A.units + 1 < cLine := by
  have := r.un
  omega
end
section
variable {X : Cx} {k j : Nat} {m : Str} {ps : List Str} {sp : Sp} {p pos apos : Pos} {o e : Expr} {es : List Expr} {t tk : TA} {ta : TE} {C : Addr} {pl : Sem Bool}
theorem pe_mcal (c : MCal X.prog X.w X.K X.mg X.base C k m ps sp) (cl : Cls X.K C) (hr : Room j X.A) (hk : k ≤ j) (he : PE X o ta) (ha : PA X (e :: es) t)
    (hst : starEach (e :: es) X.env = (false, eval e X.env) :: starEach es X.env := by rfl) (hpl : (backTo pos (starEach es X.env)).any (·.1) = false := by rfl)
    (ht : eval (.Call (.Attribute o m apos) (e :: es) [] pos) X.env = (do
      let ov ← eval o X.env
      standAt apos.atName
      let (f, first) ← holding [ov] (getMethod ov m pl)
      callWith pos f first (backTo pos (starEach (e :: es) X.env)) (backToKw pos (keywordEach [] X.env))) := by rfl) : PE X (.Call (.Attribute o m apos) (e :: es) [] pos) (tMeth C m sp [] E0 ta t) := by
  obtain ⟨f, fd, F, hm, b⟩ := c.ex
  exact pe_meth he cl hm F (hr.mono hk) b .nil pass0 ha hst hpl ht
theorem pe_mcal0 (c : MCal X.prog X.w X.K X.mg X.base C k m ps sp) (cl : Cls X.K C) (hr : Room j X.A) (hk : k ≤ j) (he : PE X o ta)
    (ht : eval (.Call (.Attribute o m apos) [] [] pos) X.env = (do
      let ov ← eval o X.env
      standAt apos.atName
      let (f, first) ← holding [ov] (getMethod ov m pl)
      callWith pos f first (backTo pos (starEach [] X.env)) (backToKw pos (keywordEach [] X.env))) := by rfl) : PE X (.Call (.Attribute o m apos) [] [] pos) (tMeth C m sp [] E0 ta tNil) := by
  obtain ⟨f, fd, F, hm, b⟩ := c.ex
  exact pe_meth0 he cl hm F (hr.mono hk) b .nil pass0 ht
theorem pe_ical {x : Str} (c : ICal X.prog X.w X.K X.mg X.base C k x ps sp) (hr : Room j X.A) (hk : k + 1 ≤ j) (hg : Gl X x) (ha : PA X (e :: es) t)
    (hdb : (x == ("__debug__" : Str)) = false := by decide) (he : starEach (e :: es) X.env = (false, eval e X.env) :: starEach es X.env := by rfl) (hpl : (backTo pos (starEach es X.env)).any (·.1) = false := by rfl) :
    PE X (.Call (.Name x p) (e :: es) [] pos) (tMake C sp [] E0 t) := by
  obtain ⟨f, fd, F, M, b, hm⟩ := c.ex
  exact pe_make M F (hr.mono hk) hg hm b .nil pass0 ha hdb he hpl
end
end K84
namespace K84
open PySem PySem.Spec PyProof.Rows L2 KD
local macro_rules
  | `(tactic| walk_at "ed") => `(tactic| first
    | with_reducible assumption
    | with_reducible exact Ex.refl _
    | (with_reducible apply Go.o; with_reducible assumption)
    | with_reducible exact ed_int
    | with_reducible exact ed_bl
    | with_reducible exact ed_str
    | with_reducible exact ed_non
    | ((with_reducible apply ed_var) <;> (first | (exact rfl) | exact Is.int _ | exact Is.bl _ | exact Is.str _ | exact Is.non | with_reducible assumption))
    | ((with_reducible apply ad_add) <;> walk_at "ed")
    | ((with_reducible apply ad_sub) <;> walk_at "ed")
    | ((with_reducible apply ad_lt) <;> walk_at "ed")
    | ((with_reducible apply ad_le) <;> walk_at "ed")
    | ((with_reducible apply ad_gt) <;> walk_at "ed")
    | ((with_reducible apply ad_ge) <;> walk_at "ed")
    | ((with_reducible apply ad_eqI) <;> walk_at "ed")
    | ((with_reducible apply ad_neI) <;> walk_at "ed")
    | ((with_reducible apply ad_eqS) <;> walk_at "ed")
    | ((with_reducible apply ad_neS) <;> walk_at "ed")
    | ((with_reducible apply ad_notV) <;> walk_at "ed")
    | ((with_reducible apply ad_neg) <;> walk_at "ed")
    | ((with_reducible apply ad_lenL) <;> walk_at "ed")
    | ((with_reducible refine ad_tup ?_ ?_) <;> (first | walk_at "ed" | (simp only [List.length_cons, List.length_nil]; decide)))
    | ((with_reducible refine ad_lst ?_ ?_) <;> (first | walk_at "ed" | (simp only [List.length_cons, List.length_nil]; decide)))
    | ((with_reducible apply ea_cons) <;> walk_at "ed")
    | with_reducible exact ea_nil)

def OkS (ks : List Int) (s : Wst) : Prop := 0 ≤ s.left ∧ s.left ≤ ks.length
section
variable {P : Program} {w : World} {K : PySem.W.Frag} {mg : Str → Option Value} {base : Heap} {C : Addr}
/-! ### does_turn -/
abbrev N_Walk_does_turn : List Str := ["self"]
theorem sc_Walk_does_turn : FnScope N_Walk_does_turn ["self"] (defScope s_Walk_does_turn) := ⟨rfl, rfl, rfl, by decide +kernel, rfl, by decide +kernel, by decide +kernel⟩
abbrev sp_turn (C : Addr) : Sp := fun vs H Q _ => ∃ I0 H0 I A ks s n, vs = [.ref (WA.p A)] ∧ Go I0 H0 I H ∧ Wk C H0 I H A ks s n ∧ OkS ks s ∧ ∀ I2 H2, Go I0 H0 I2 H2 → Ex I I2 → Wk C H0 I2 H2 A ks (turnS ks s).2 n → Q (.bl (turnS ks s).1) H2
theorem ok_turn (T : Txt K mg C) (F : MFn K C "does_turn" "Walk.does_turn" s_Walk_does_turn) : MCal P w K mg base C 1 "does_turn" ["self"] (sp_turn C) := by
  refine mcal_mk F sc_Walk_does_turn (fun _ _ _ _ _ _ us hl => match us, hl with | [_], _ => rfl) (fun vs H Q E h => ?_) (fun f cdv A0 outer s0 H vs Q E hr h => ?_)
  · obtain ⟨I0, H0, I, A, ks, s, n, rfl, _⟩ := h
    rfl
  obtain ⟨I0, H0, I, A, ks, s, n, rfl, g, W, ⟨hs1, hs2⟩, q⟩ := h
  refine ⟨_, (pss_cons (ps_if (pt_cmpR op_eq (pe_fld (pv 0) rfl) pe_int (nomark _)) (pss_one (ps_ret pe_bl)) pss_nil) (pss_cons (ps_if (PW.pt (pw_and (pt_cmpR op_eq (pe_fld (pv 0) rfl) (pe_fld (pv 0) rfl) (nomark _)) (pw_and1 (pt_cmpR op_eq (pe_ix ix_list (pe_fld (pv 0) rfl) (pe_op op_sub (pe_fld (pv 0) rfl) pe_int) (fun _ _ => rfl)) pe_int (nomark _))))) (pss_one (ps_fld (pv 0) (pe_op op_sub (pe_fld (pv 0) rfl) pe_int) rfl)) pss_nil) (pss_cons (ps_if (pt_cmpR op_ne (pe_fld (pv 0) rfl) (pe_op op_sub (pe_fld (pv 0) rfl) pe_int) (nomark _)) (pss_one (ps_ret pe_bl)) pss_nil) (pss_cons (ps_fld (pv 0) (pe_op op_sub (pe_fld (pv 0) rfl) pe_int) rfl) (pss_one (ps_ret pe_bl)))))), ?_⟩
  have hv : ∀ {H1 : Hp}, Ev (tVar 0) (start N_Walk_does_turn [V.ref A.p]) H1 (.ref A.p) := ev_var rfl
  have hl : ∀ {H1 : Hp} {s : Wst}, Go I0 H0 I H1 → Wk C H0 I H1 A ks s n → Ed (tOp (rI0 fun i j => V.int (i - j)) (tFld K (tVar 0) "left") (tC (.int 1))) (start N_Walk_does_turn [V.ref A.p]) H1 I (.int (s.left - 1)) := fun g W => ad_sub (w_left W T hv) ed_int g.o
  refine q_when g (et_test (J := I) (ad_eqI (w_left W T hv) ed_int g.o) g.o) (fun hb H1 g1 e1 => ?_) fun hb H1 g1 e1 => ?_
  · rw [decide_eq_true_eq] at hb
    refine (ed_bl (I := I)) H1 (Ex.refl _) g1.o _ fun v I2 H2 a1 a2 a3 nw kv => ?_
    cases kv
    have q2 := q I H2 (g1.step a2) (Ex.refl _)
    unfold turnS at q2
    rw [if_pos hb] at q2
    exact q2 (W.step (e1.trans a2))
  rw [decide_eq_false_iff_not] at hb
  have W1 := W.step e1
  refine q_when g1 (et_and (et_test (J := I) (ad_eqI (w_here W1 T hv) (w_left W1 T hv) g1.o) g1.o) fun _ => et_test (J := I) (ad_eqI (ed_ixL (w_kinds W1 T hv) (hl g1 W1) g1.o (atI_k (by omega) (by omega))) ed_int g1.o) g1.o) (fun hc H2 g2 e2 => ?_) fun hc H2 g2 e2 => ?_
  · have hc : s.here = s.left ∧ kAt ks (s.left - 1) = 0 := by simpa using hc
    have W2 := W1.step e2
    refine w_setHere W2 T g2 hv (hl g2 W2) fun H3 g3 W3 => ?_
    have l3 := hl g3 W3
    refine q_when g3 (b := !decide (s.left - 1 = s.left - 1)) (et_test (J := I) (ad_neI (w_here W3 T hv) l3 g3.o) g3.o) (fun hd => ?_) fun hd H4 g4 e4 => ?_
    · rw [decide_eq_true rfl] at hd
      cases hd
    have W4 := W3.step e4
    refine w_qLeft W4 T g4 hv (hl g4 W4) fun H5 g5 W5 => ?_
    refine (ed_bl (I := I)) H5 (Ex.refl _) g5.o _ fun v I2 H6 a1 a2 a3 nw kv => ?_
    cases kv
    have q2 := q I H6 (g5.step a2) (Ex.refl _)
    unfold turnS at q2
    rw [if_neg hb, if_pos hc, if_neg (fun z => z rfl)] at q2
    exact q2 (W5.step a2)
  · have hc : ¬(s.here = s.left ∧ kAt ks (s.left - 1) = 0) := by simpa using hc
    have W2 := W1.step e2
    refine q_when g2 (et_test (J := I) (ad_neI (w_here W2 T hv) (hl g2 W2) g2.o) g2.o) (fun hd H3 g3 e3 => ?_) fun hd H3 g3 e3 => ?_
    · have hd : s.here ≠ s.left - 1 := by simpa using hd
      refine (ed_bl (I := I)) H3 (Ex.refl _) g3.o _ fun v I2 H6 a1 a2 a3 nw kv => ?_
      cases kv
      have q2 := q I H6 (g3.step a2) (Ex.refl _)
      unfold turnS at q2
      rw [if_neg hb, if_neg hc, if_pos hd] at q2
      exact q2 (W2.step (e3.trans a2))
    · have hd : ¬ s.here ≠ s.left - 1 := by simpa using hd
      have W3 := W2.step e3
      refine w_qLeft W3 T g3 hv (hl g3 W3) fun H5 g5 W5 => ?_
      refine (ed_bl (I := I)) H5 (Ex.refl _) g5.o _ fun v I2 H6 a1 a2 a3 nw kv => ?_
      cases kv
      have q2 := q I H6 (g5.step a2) (Ex.refl _)
      unfold turnS at q2
      rw [if_neg hb, if_neg hc, if_neg hd] at q2
      exact q2 (W5.step a2)
/-! ### does_move -/
abbrev N_Walk_does_move : List Str := ["self", "word", "many"]
theorem sc_Walk_does_move : FnScope N_Walk_does_move ["self", "word", "many"] (defScope s_Walk_does_move) := ⟨rfl, rfl, rfl, by decide +kernel, rfl, by decide +kernel, by decide +kernel⟩
abbrev sp_move (C : Addr) : Sp := fun vs H Q _ => ∃ I0 H0 I A ks s n wd many, vs = [.ref (WA.p A), .str wd, .int many] ∧ Go I0 H0 I H ∧ Wk C H0 I H A ks s n ∧ n < 90000 ∧ ∀ I2 H2, Go I0 H0 I2 H2 → Ex I I2 → Wk C H0 I2 H2 A ks (moveS ks s wd many).2 (n + 1) → Q (.bl (moveS ks s wd many).1) H2
theorem ok_move (T : Txt K mg C) (F : MFn K C "does_move" "Walk.does_move" s_Walk_does_move) : MCal P w K mg base C 1 "does_move" ["self", "word", "many"] (sp_move C) := by
  refine mcal_mk F sc_Walk_does_move (fun _ _ _ _ _ _ us hl => match us, hl with | [_, _, _], _ => rfl) (fun vs H Q E h => ?_) (fun f cdv A0 outer s0 H vs Q E hr h => ?_)
  · obtain ⟨I0, H0, I, A, ks, s, n, wd, many, rfl, _⟩ := h
    rfl
  obtain ⟨I0, H0, I, A, ks, s, n, wd, many, rfl, g, W, hn, q⟩ := h
  refine ⟨_, (pss_cons (ps_if (pt_cmpR op_eq (pv 1) (pe_gk T.k_RUN rfl) (nomark _)) (pss_cons (ps_if (pt_cmpR op_gt (pe_op op_add (pe_fld (pv 0) rfl) (pv 2)) (pe_fld (pv 0) rfl) (nomark _)) (pss_one (ps_ret pe_bl)) pss_nil) (pss_cons (ps_expr (pe_bm PySem.F.plainAttrs_list PySem.F.slot_list_append PySem.F.type_list_append mt_append (pe_fld (pv 0) rfl) (pa_cons (pe_tup (pa_cons (pe_fld (pv 0) rfl) (pa_cons (pe_op op_add (pe_fld (pv 0) rfl) (pv 2)) pa_nil))) pa_nil))) (pss_cons (ps_fld (pv 0) (pe_op op_add (pe_fld (pv 0) rfl) (pv 2)) rfl) (pss_one (ps_ret pe_bl))))) pss_nil) (pss_cons (ps_if (PW.pt (pw_or (pt_cmpR op_gt (pv 2) (pe_fld (pv 0) rfl) (nomark _)) (pw_or1 (pt_cmpR op_in_seq pe_int (pe_slice sl_list (pe_fld (pv 0) rfl) (po_some (pe_op op_sub (pe_fld (pv 0) rfl) (pv 2))) (po_some (pe_fld (pv 0) rfl))) (by with_unfolding_all rfl))))) (pss_one (ps_ret pe_bl)) pss_nil) (pss_cons (ps_fld (pv 0) (pe_op op_sub (pe_fld (pv 0) rfl) (pv 2)) rfl) (pss_one (ps_ret pe_bl))))), ?_⟩
  have hv : ∀ {H1 : Hp}, Ev (tVar 0) (start N_Walk_does_move [V.ref A.p, .str wd, .int many]) H1 (.ref A.p) := ev_var rfl
  have hret : ∀ {b : Bool} {s2 : Wst} {I1 H1 : Hp} {D : Ends}, (moveS ks s wd many) = (b, s2) → Go I0 H0 I1 H1 → Ex I I1 → Wk C H0 I1 H1 A ks s2 (n + 1) → tRet (tC (.bl b)) { nx := D.nx, rt := Q, bk := D.bk, ct := D.ct } (start N_Walk_does_move [V.ref A.p, .str wd, .int many]) H1 := fun {b s2 I1 H1 D} hm g1 e W1 => by
    refine (ed_bl (I := I1)) H1 (Ex.refl _) g1.o _ fun v I2 H6 a1 a2 a3 nw kv => ?_
    cases kv
    have q2 := q I1 H6 (g1.step a2) e
    rw [hm] at q2
    exact q2 (W1.step a2)
  refine q_when g (et_test (J := I) (ad_eqS (ed_var rfl (.str _)) ed_str g.o) g.o) (fun hb H1 g1 e1 => ?_) fun hb H1 g1 e1 => ?_
  · have hb : wd = "run" := by simpa using hb
    have W1 := W.step e1
    refine q_when g1 (et_test (J := I) (ad_gt (ad_add (w_here W1 T hv) (ed_var rfl (.int _)) g1.o) (w_left W1 T hv) g1.o) g1.o) (fun hc H2 g2 e2 => ?_) fun hc H2 g2 e2 => ?_
    · have hc : s.left < s.here + many := by simpa using hc
      refine hret (D := ⟨fun _ _ => True, fun _ _ => True, fun _ _ => True, fun _ _ => True⟩) ?_ g2 (Ex.refl _) ((W1.step e2).more (by omega))
      unfold moveS
      rw [if_pos hb, if_pos hc]
    · have hc : ¬ s.left < s.here + many := by simpa using hc
      have W2 := W1.step e2
      refine w_qRun (a := s.here) (b := s.here + many) W2 T g2 hn hv (ad_tup (ea_cons (w_here W2 T hv) (ea_cons (ad_add (w_here W2 T hv) (ed_var rfl (.int _)) g2.o) ea_nil)) (by show 2 ≤ 100000; decide)) fun I3 H3 g3 e3 W3 => ?_
      refine w_qHere W3 T g3 hv (ad_add (w_here W3 T hv) (ed_var rfl (.int _)) g3.o) fun H4 g4 W4 => ?_
      refine hret (D := ⟨fun _ _ => True, fun _ _ => True, fun _ _ => True, fun _ _ => True⟩) ?_ g4 e3 W4
      unfold moveS
      rw [if_pos hb, if_neg hc]
  · have hb : ¬ wd = "run" := by simpa using hb
    have W1 := W.step e1
    have hsl : Ed (tSl (rSlL K) (tFld K (tVar 0) "kinds") (tPart (tOp (rI0 fun i j => V.int (i - j)) (tFld K (tVar 0) "here") (tVar 2))) (tPart (tFld K (tVar 0) "here"))) (start N_Walk_does_move [V.ref A.p, .str wd, .int many]) H1 I (.list ((cutA ks (some (s.here - many)) (some s.here)).map PyData.int)) := by
      rw [← cutD_map]
      exact ed_sl (w_kinds W1 T hv) (eo_some (J := I) (ad_sub (w_here W1 T hv) (ed_var rfl (.int _)) g1.o) g1.o) (eo_some (J := I) (w_here W1 T hv) g1.o)
    refine q_when g1 (et_or (et_test (J := I) (ad_gt (ed_var rfl (.int _)) (w_here W1 T hv) g1.o) g1.o) fun _ => et_test (J := I) (ed_inIL (J := I) ed_int hsl g1.o g1.o) g1.o) (fun hc H2 g2 e2 => ?_) fun hc H2 g2 e2 => ?_
    · have hc : s.here < many ∨ (cutA ks (some (s.here - many)) (some s.here)).contains 1 = true := by simpa using hc
      refine hret (D := ⟨fun _ _ => True, fun _ _ => True, fun _ _ => True, fun _ _ => True⟩) ?_ g2 (Ex.refl _) ((W1.step e2).more (by omega))
      unfold moveS
      rw [if_neg hb, if_pos hc]
    · have hc : ¬(s.here < many ∨ (cutA ks (some (s.here - many)) (some s.here)).contains 1 = true) := by simpa using hc
      have W2 := W1.step e2
      refine w_qHere W2 T g2 hv (ad_sub (w_here W2 T hv) (ed_var rfl (.int _)) g2.o) fun H4 g4 W4 => ?_
      refine hret (D := ⟨fun _ _ => True, fun _ _ => True, fun _ _ => True, fun _ _ => True⟩) ?_ g4 (Ex.refl _) (W4.more (by omega))
      unfold moveS
      rw [if_neg hb, if_neg hc]
end
end K84
namespace K84
open PySem PySem.Spec PyProof.Rows L2 KD
local macro_rules
  | `(tactic| walk_at "ed") => `(tactic| first
    | with_reducible assumption
    | with_reducible exact Ex.refl _
    | (with_reducible apply Go.o; with_reducible assumption)
    | with_reducible exact ed_int
    | with_reducible exact ed_bl
    | with_reducible exact ed_str
    | with_reducible exact ed_non
    | ((with_reducible apply ed_var) <;> (first | (exact rfl) | exact Is.int _ | exact Is.bl _ | exact Is.str _ | exact Is.non | with_reducible assumption))
    | ((with_reducible apply ad_add) <;> walk_at "ed")
    | ((with_reducible apply ad_sub) <;> walk_at "ed")
    | ((with_reducible apply ad_lt) <;> walk_at "ed")
    | ((with_reducible apply ad_le) <;> walk_at "ed")
    | ((with_reducible apply ad_gt) <;> walk_at "ed")
    | ((with_reducible apply ad_ge) <;> walk_at "ed")
    | ((with_reducible apply ad_eqI) <;> walk_at "ed")
    | ((with_reducible apply ad_neI) <;> walk_at "ed")
    | ((with_reducible apply ad_eqS) <;> walk_at "ed")
    | ((with_reducible apply ad_neS) <;> walk_at "ed")
    | ((with_reducible apply ad_notV) <;> walk_at "ed")
    | ((with_reducible apply ad_neg) <;> walk_at "ed")
    | ((with_reducible apply ad_lenL) <;> walk_at "ed")
    | ((with_reducible refine ad_tup ?_ ?_) <;> (first | walk_at "ed" | (simp only [List.length_cons, List.length_nil]; decide)))
    | ((with_reducible refine ad_lst ?_ ?_) <;> (first | walk_at "ed" | (simp only [List.length_cons, List.length_nil]; decide)))
    | ((with_reducible apply ea_cons) <;> walk_at "ed")
    | with_reducible exact ea_nil)

def CmM (cm : Cm) : Prop := cm = .turn ∨ ∃ w n, cm = .mv w n ∧ w ≠ "turn"
section
variable {P : Program} {w : World} {K : PySem.W.Frag} {mg : Str → Option Value} {base : Heap} {C : Addr}
theorem w_slot {H0 I H : Hp} {A : WA} {ks : List Int} {s : Wst} {n : Nat} {k v : Int} {o : HO} (W : Wk C H0 I H A ks s n) (h : DI (upd H A.sl o) A.sl (fun i => if i = k then some v else s.slots i) (n + 1)) : Wk C H0 I (upd H A.sl o) A ks { s with slots := fun i => if i = k then some v else s.slots i } (n + 1) := by
  obtain ⟨rs, h1, h2, h3⟩ := W.r
  exact ⟨by rw [upd_ne (fun z => W.ps z.symm)]; exact W.o, W.k, h, ⟨rs, by rw [upd_ne (fun z => W.sr z.symm)]; exact h1, h2, by omega⟩, W.ip, W.is, W.ir, W.hp, W.hs, W.hr⟩
theorem does_mv (ks : List Int) (s : Wst) (w : Str) (n : Int) : doesS ks s (.mv w n) = if w = "keep" then (true, { s with slots := fun i => if i = n then some s.here else s.slots i }) else if w = "take" then ((s.slots n).isSome, { s with here := (s.slots n).getD s.here }) else moveS ks s w n := rfl
/-! ### does -/
abbrev N_Walk_does : List Str := ["self", "command", "word"]
theorem sc_Walk_does : FnScope N_Walk_does ["self", "command"] (defScope s_Walk_does) := ⟨rfl, rfl, rfl, by decide +kernel, rfl, by decide +kernel, by decide +kernel⟩
abbrev sp_does (C : Addr) : Sp := fun vs H Q _ => ∃ I0 H0 I A ks s n cm vc, vs = [.ref (WA.p A), vc] ∧ Go I0 H0 I H ∧ Wk C H0 I H A ks s n ∧ OkS ks s ∧ n < 90000 ∧ CmM cm ∧ Is I vc (cmD cm) ∧ ∀ I2 H2, Go I0 H0 I2 H2 → Ex I I2 → Wk C H0 I2 H2 A ks (doesS ks s cm).2 (n + 1) → Q (.bl (doesS ks s cm).1) H2
theorem ok_does (T : Txt K mg C) (F : MFn K C "does" "Walk.does" s_Walk_does) (c_turn : MCal P w K mg base C 1 "does_turn" ["self"] (sp_turn C)) (c_move : MCal P w K mg base C 1 "does_move" ["self", "word", "many"] (sp_move C)) : MCal P w K mg base C 2 "does" ["self", "command"] (sp_does C) := by
  refine mcal_mk F sc_Walk_does (fun _ _ _ _ _ _ us hl => match us, hl with | [_, _], _ => rfl) (fun vs H Q E h => ?_) (fun f cdv A0 outer s0 H vs Q E hr h => ?_)
  · obtain ⟨I0, H0, I, A, ks, s, n, cm, vc, rfl, _⟩ := h
    rfl
  obtain ⟨I0, H0, I, A, ks, s, n, cm, vc, rfl, g, W, hok, hn, hcm, hvc, q⟩ := h
  have hu := room_hu hr
  refine ⟨_, (pss_cons (ps_set (i := 2) sc_Walk_does.nd rfl (Or.inl rfl) (pe_ix ix_tup (pv 1) pe_int (fun _ _ => rfl))) (pss_cons (ps_if (pt_cmpR op_eq (pv 2) (pe_gk T.k_TURN rfl) (nomark _)) (pss_one (ps_ret (pe_mcal0 c_turn T.cl hr (by decide) (pv 0)))) pss_nil) (pss_cons (ps_if (pt_cmpR op_eq (pv 2) (pe_gk T.k_KEEP rfl) (nomark _)) (pss_cons (ps_dput hu (pe_fld (pv 0) rfl) (pe_ix ix_tup (pv 1) pe_int (fun _ _ => rfl)) (pe_fld (pv 0) rfl) (by rfl)) (pss_one (ps_ret pe_bl))) pss_nil) (pss_cons (ps_if (pt_cmpR op_eq (pv 2) (pe_gk T.k_TAKE rfl) (nomark _)) (pss_cons (ps_if (pt_cmp (pc_din hu (pe_ix ix_tup (pv 1) pe_int (fun _ _ => rfl)) (pe_fld (pv 0) rfl))) (pss_one (ps_fld (pv 0) (pe_dget hu (pe_fld (pv 0) rfl) (pe_ix ix_tup (pv 1) pe_int (fun _ _ => rfl)) (fun _ _ => rfl)) rfl)) pss_nil) (pss_one (ps_ret (pe_cmp (pc_din hu (pe_ix ix_tup (pv 1) pe_int (fun _ _ => rfl)) (pe_fld (pv 0) rfl)) rfl)))) pss_nil) (pss_one (ps_ret (pe_mcal c_move T.cl hr (by decide) (pv 0) (pa_cons (pv 2) (pa_cons (pe_ix ix_tup (pv 1) pe_int (fun _ _ => rfl)) pa_nil))))))))), ?_⟩
  rcases hcm with rfl | ⟨wd, many, rfl, hwd⟩
  · refine q_str g (n := "turn") (ed_ixT (ed_var rfl hvc) (by walk_at "ed") g.o rfl) fun H1 g1 e1 => ?_
    refine q_when g1 (b := true) (et_test (J := I) (Ed.is (ad_eqS (ed_var rfl (.str _)) ed_str g1.o) (by rfl)) g1.o) (fun _ H2 g2 e2 => ?_) (fun z => by cases z)
    have W2 := W.step (e1.trans e2)
    exact ⟨_, rfl, A.p, A.dx, _, rfl, W2.o, rfl, I0, H0, I, A, ks, s, n, rfl, g2, W2, hok, fun I3 H3 g3 e3 W3 => q I3 H3 g3 e3 (W3.more (by omega))⟩
  · have hv : ∀ {H1 : Hp} {x : Option V}, Ev (tVar 0) [some (V.ref A.p), some vc, x] H1 (.ref A.p) := fun {H1 x} => ev_var rfl
    refine q_str g (n := wd) (ed_ixT (ed_var rfl hvc) (by walk_at "ed") g.o rfl) fun H1 g1 e1 => ?_
    have c1 : ∀ {H1 : Hp}, Go I0 H0 I H1 → Ed (tOp (rIxT K) (tVar 1) (tC (.int 1))) [some (V.ref A.p), some vc, some (.str wd)] H1 I (.int many) := fun g => ed_ixT (ed_var rfl hvc) (by walk_at "ed") g.o rfl
    refine q_when g1 (b := false) (et_test (J := I) (Ed.is (ad_eqS (ed_var rfl (.str _)) ed_str g1.o) (by rw [decide_eq_false hwd])) g1.o) (fun z => by cases z) fun _ H2 g2 e2 => ?_
    refine q_when g2 (et_test (J := I) (ad_eqS (ed_var rfl (.str _)) ed_str g2.o) g2.o) (fun hb H3 g3 e3 => ?_) fun hb H3 g3 e3 => ?_
    · have hb : wd = "keep" := by simpa using hb
      have W3 := W.step ((e1.trans e2).trans e3)
      refine q_dput W3.d (by omega) g3 W3.is W3.hs (w_slots W3 T hv) (c1 g3) (w_here W3 T hv) fun H4 o e4 g4 d4 => ?_
      have W4 := w_slot (W3.step e4) d4
      refine (ed_bl (I := I)) _ (Ex.refl _) g4.o _ fun v I2 H6 a1 a2 a3 nw kv => ?_
      cases kv
      have q2 := q I H6 (g4.step a2) (Ex.refl _)
      rw [does_mv] at q2
      rw [if_pos hb] at q2
      exact q2 (W4.step a2)
    have hb : ¬ wd = "keep" := by simpa using hb
    refine q_when g3 (et_test (J := I) (ad_eqS (ed_var rfl (.str _)) ed_str g3.o) g3.o) (fun hc H4 g4 e4 => ?_) fun hc H4 g4 e4 => ?_
    · have hc : wd = "take" := by simpa using hc
      have W4 := W.step (((e1.trans e2).trans e3).trans e4)
      refine q_when g4 (et_B (J := I) (ed_din (J := I) W4.d (w_slots W4 T hv) (c1 g4) g4.o) g4.o) (fun hd H5 g5 e5 => ?_) fun hd H5 g5 e5 => ?_
      · have W5 := W4.step e5
        obtain ⟨z, hz⟩ := Option.isSome_iff_exists.mp hd
        refine w_setHere W5 T g5 hv (ed_dget (J := I) W5.d hz (w_slots W5 T hv) (c1 g5) g5.o) fun H6 g6 W6 => ?_
        refine (ed_din (J := I) (I := I) W6.d (w_slots W6 T hv) (c1 g6) g6.o) _ (Ex.refl _) g6.o _ fun v I2 H7 a1 a2 a3 nw kv => ?_
        cases kv
        have q2 := q I H7 (g6.step a2) (Ex.refl _)
        rw [does_mv] at q2
        rw [if_neg hb, if_pos hc, hz] at q2
        show Q (.bl (s.slots many).isSome) H7
        rw [hz]
        exact q2 ((W6.step a2).more (by omega))
      · have W5 := W4.step e5
        have hz : s.slots many = none := by
          cases hz : s.slots many with
          | none => rfl
          | some z => rw [hz] at hd; cases hd
        refine (ed_din (J := I) (I := I) W5.d (w_slots W5 T hv) (c1 g5) g5.o) _ (Ex.refl _) g5.o _ fun v I2 H7 a1 a2 a3 nw kv => ?_
        cases kv
        have q2 := q I H7 (g5.step a2) (Ex.refl _)
        rw [does_mv] at q2
        rw [if_neg hb, if_pos hc, hz] at q2
        show Q (.bl (s.slots many).isSome) H7
        rw [hz]
        exact q2 ((W5.step a2).more (by omega))
    · have hc : ¬ wd = "take" := by simpa using hc
      have W4 := W.step (((e1.trans e2).trans e3).trans e4)
      refine ⟨_, rfl, A.p, A.dx, _, rfl, W4.o, rfl, ?_⟩
      refine (ea_cons (ed_var rfl (.str wd)) (ea_cons (c1 g4) ea_nil)) H4 (Ex.refl _) g4.o _ fun vs I5 H5 a1 a2 a3 nw kv => ?_
      obtain ⟨v1, v2, rfl, k1, k2⟩ := isAll2 kv
      cases k1
      cases k2
      refine ⟨I0, H0, I, A, ks, s, n, wd, many, rfl, g4.step a2, W4.step a2, hn, fun I3 H3 g3 e3 W3 => ?_⟩
      have q2 := q I3 H3 g3 e3
      rw [does_mv] at q2
      rw [if_neg hb, if_neg hc] at q2
      exact q2 W3
/-! ### __init__ -/
abbrev N_Walk___init__ : List Str := ["self", "kinds"]
theorem sc_Walk___init__ : FnScope N_Walk___init__ ["self", "kinds"] (defScope s_Walk___init__) := ⟨rfl, rfl, rfl, by decide +kernel, rfl, by decide +kernel, by decide +kernel⟩
def w0 (ks : List Int) : Wst := ⟨0, ks.length, fun _ => none, []⟩
abbrev sp_init (C : Addr) : Sp := fun vs H Q _ => ∃ I0 H0 I x dx kv ks, vs = [.ref x, kv] ∧ Go I0 H0 I H ∧ H x = some (.ins C dx []) ∧ I x = none ∧ H0 x = none ∧ Is I kv (.list (List.map PyData.int ks)) ∧ ∀ A H2, Go I0 H0 I H2 → WA.p A = x → Wk C H0 I H2 A ks (w0 ks) 0 → Q .non H2
theorem q_fld {I0 H0 I H : Hp} {σ : L2.St} {D : Ends} {ta te : TE} {tz : TS} {x dx : Addr} {fs : List (Str × V)} {f : Str} {v : V} (hx : H x = some (.ins C dx fs)) (g : Go I0 H0 I H) (ix : I x = none) (hx0 : H0 x = none) (c : Cls K C) (na : NoAttr K C f) (ha : Ev ta σ H (.ref x)) (h : Ev te σ H v) (hl : fs.length < 1000)
    (k : ∀ H2, Ex H H2 → Go I0 H0 I (upd H2 x (.ins C dx (putF f v fs))) → (upd H2 x (.ins C dx (putF f v fs))) x = some (.ins C dx (putF f v fs)) → tz D σ (upd H2 x (.ins C dx (putF f v fs)))) : tSeq (sFld K ta te f) tz D σ H :=
  h H (Ex.refl _) _ fun H1 e1 => ha H1 e1 _ fun H2 e2 => ⟨_, _, _, _, rfl, (e1.trans e2) _ _ hx, c, na, hl, k H2 (e1.trans e2) ((g.step (e1.trans e2)).mut ix hx0) upd_same⟩
theorem ok_init (T : Txt K mg C) (F : IFn K mg C "Walk" "Walk.__init__" s_Walk___init__) : ICal P w K mg base C 1 "Walk" ["self", "kinds"] (sp_init C) := by
  refine ical_mk F sc_Walk___init__ (fun _ _ _ _ _ _ us hl => match us, hl with | [_, _], _ => rfl) (fun vs H Q E h => ?_) (fun f cdv A0 outer s0 H vs Q E hr h => ?_)
  · obtain ⟨I0, H0, I, x, dx, kv, ks, rfl, _⟩ := h
    rfl
  obtain ⟨I0, H0, I, x, dx, kv, ks, rfl, g, hx, ix, hx0, hk, q⟩ := h
  refine ⟨_, (pss_cons (ps_fld (pv 0) (pv 1) rfl) (pss_cons (ps_fld (pv 0) pe_int rfl) (pss_cons (ps_fld (pv 0) (pe_callB call_len_seq (by rfl) T.b_len (by decide +kernel) (pa_cons (pv 1) pa_nil)) rfl) (pss_cons (ps_fld (pv 0) pe_dnewK rfl) (pss_one (ps_fld (pv 0) (pe_lst pa_nil) rfl)))))), ?_⟩
  have hv : ∀ {H1 : Hp}, Ev (tVar 0) (start N_Walk___init__ [V.ref x, kv]) H1 (.ref x) := ev_var rfl
  refine q_fld hx g ix hx0 T.cl T.n_kinds hv (ev_var (v := kv) rfl) (by decide) fun H1 e1 g1 x1 => ?_
  refine q_fld x1 g1 ix hx0 T.cl T.n_here hv (ed_int.int g1.o) (by show 1 < 1000; decide) fun H2 e2 g2 x2 => ?_
  refine q_fld x2 g2 ix hx0 T.cl T.n_left hv ((ed_lenL (ed_var rfl hk) g2.o).int g2.o) (by show 2 < 1000; decide) fun H3 e3 g3 x3 => ?_
  intro p hp
  have np : x ≠ p := ne_of_none x3 hp
  refine ⟨_, rfl, x, C, dx, _, rfl, (upd_ne np).trans x3, T.cl, T.n_slots, (by show 3 < 1000; decide), ?_⟩
  have g4 := (g3.step (Ex.new (o := .dK []) hp)).mut (o := .ins C dx (putF "slots" (V.ref p) (putF "left" (.int (ks.map PyData.int).length) (putF "here" (.int 0) (putF "kinds" kv []))))) ix hx0
  refine ⟨sz_of (by decide), fun p2 hp2 => ?_⟩
  have np2 : x ≠ p2 := ne_of_none upd_same hp2
  have npp : p ≠ p2 := ne_of_none (o := .dK []) (by rw [upd_ne (fun z => np z.symm), upd_same]) hp2
  refine ⟨_, rfl, x, C, dx, _, rfl, (upd_ne np2).trans upd_same, T.cl, T.n_runs, (by show 4 < 1000; decide), ?_⟩
  have g5 := (g4.step (Ex.new (o := .lst []) hp2)).mut (o := .ins C dx (putF "runs" (V.ref p2) (putF "slots" (V.ref p) (putF "left" (.int (ks.map PyData.int).length) (putF "here" (.int 0) (putF "kinds" kv [])))))) ix hx0
  refine q ⟨x, dx, p, p2, kv⟩ _ g5 rfl ⟨?_, hk, ⟨[], ?_, fun _ => rfl, Nat.le_refl _⟩, ⟨[], ?_, .nil, Nat.le_refl _⟩, ix, ?_, ?_, hx0, ?_, ?_⟩
  · rw [upd_same]
    show some (HO.ins C dx [("kinds", kv), ("here", .int 0), ("left", .int ((ks.map PyData.int).length : Nat)), ("slots", .ref p), ("runs", .ref p2)]) = some (HO.ins C dx [("kinds", kv), ("here", .int 0), ("left", .int (ks.length : Nat)), ("slots", .ref p), ("runs", .ref p2)])
    rw [List.length_map]
  · show upd _ x _ p = _
    rw [upd_ne (fun z => np z.symm), upd_ne npp, upd_ne (fun z => np z.symm), upd_same]
  · show upd _ x _ p2 = _
    rw [upd_ne (fun z => np2 z.symm), upd_same]
  · exact g3.o.free hp
  · exact g4.o.free hp2
  · exact g3.h.free hp
  · exact g4.h.free hp2
/-! ### walked -/
theorem okS_does {ks : List Int} {s : Wst} {cm : Cm} (h : OkS ks s) : OkS ks (doesS ks s cm).2 := by
  obtain ⟨h1, h2⟩ := h
  cases cm with
  | turn =>
    show OkS ks (turnS ks s).2
    unfold turnS
    generalize (if s.here = s.left ∧ kAt ks (s.left - 1) = 0 then s.left - 1 else s.here) = z
    split
    · exact ⟨h1, h2⟩
    · split
      · exact ⟨h1, h2⟩
      · exact ⟨by show 0 ≤ s.left - 1; omega, by show s.left - 1 ≤ _; omega⟩
  | mv w n =>
    rw [does_mv]
    split
    · exact ⟨h1, h2⟩
    · split
      · exact ⟨h1, h2⟩
      · unfold moveS
        split <;> split <;> exact ⟨h1, h2⟩
  | _ => exact ⟨h1, h2⟩
def WRes (C : Addr) (ks : List Int) (I H : Hp) (r : Option Wst) (Q : VK) : Prop := (r = none → ∀ H2, Ex H H2 → Q .non H2) ∧ ∀ s, r = some s → ∀ A I2 H2 n, n ≤ 90000 → Go I H I2 H2 → Wk C H I2 H2 A ks s n → Q (.ref A.p) H2
theorem WRes.none {ks : List Int} {I H H2 : Hp} {r : Option Wst} {Q : VK} (h : WRes C ks I H r Q) (e : r = Option.none) (a : Ex H H2) : Q .non H2 := h.1 e H2 a
abbrev N_walked : List Str := ["kinds", "commands", "walk", "command"]
theorem sc_walked : FnScope N_walked ["kinds", "commands"] (defScope s_walked) := ⟨rfl, rfl, rfl, by decide +kernel, rfl, by decide +kernel, by decide +kernel⟩
abbrev sp_walked (C : Addr) : Sp := fun vs H Q _ => ∃ I kv vv ks v cs, vs = [kv, vv] ∧ Ex I H ∧ Is I kv (.list (List.map PyData.int ks)) ∧ Is I vv (valD v) ∧ (v = .ls cs ∨ v = .tp cs) ∧ cs.length ≤ 4000 ∧ (∀ cm ∈ cs, CmM cm) ∧ WRes C ks I H (walkS ks (w0 ks) cs) Q
theorem walked_body {ks : List Int} {cs : List Cm} {I H I2 H' : Hp} {A : WA} {kv vv x : V} {xx : Option V} {I3 : Hp} {s : Wst} {i : Nat} {d : Cm} {Q : VK} {σ' : L2.St} {r : Option Wst} {D : Ends}
    (hrt : D.rt = Q) (hi : cs[i]? = some d) (hcs : ∀ cm ∈ cs, CmM cm) (hl : cs.length ≤ 4000) (kx : Is I2 x (cmD d)) (hs : σ' = [some kv, some vv, some (.ref A.p), xx]) (g : Go I H I3 H') (e : Ex I2 I3) (W : Wk C H I3 H' A ks s i) (hok : OkS ks s) (hw : walkS ks s (cs.drop i) = r) (q : WRes C ks I H r Q)
    (hn : ∀ I4 H4 s4, Go I H I4 H4 → Ex I2 I4 → Wk C H I4 H4 A ks s4 (i + 1) → OkS ks s4 → walkS ks s4 (cs.drop (i + 1)) = r → D.nx (σ'.set 3 (some x)) H4) :
    tIfS (tNot (tTest (tMeth C "does" (sp_does C) [] E0 (tVar 2) (tCons (tVar 3) tNil)))) (tRet (tC .non)) tNext D (σ'.set 3 (some x)) H' := by
  subst hs
  have hd := List.drop_eq_getElem_cons (List.getElem?_eq_some_iff.mp hi).1
  rw [(List.getElem?_eq_some_iff.mp hi).2] at hd
  have hlt := (List.getElem?_eq_some_iff.mp hi).1
  rw [hd] at hw
  refine ⟨_, rfl, A.p, A.dx, _, rfl, W.o, rfl, ?_⟩
  refine ⟨_, rfl, I, H, I3, A, ks, s, i, d, x, rfl, g, W, hok, by omega, hcs _ (List.mem_of_getElem? hi), kx.mono e, fun I4 H4 g4 e4 W4 => ?_⟩
  refine ⟨_, rfl, ?_⟩
  rw [walkS] at hw
  cases hb : (doesS ks s d).1 with
  | true =>
    rw [hb, if_pos rfl] at hw
    exact hn I4 H4 _ g4 (e.trans e4) W4 (okS_does hok) hw
  | false =>
    rw [hb, if_neg (by simp)] at hw
    subst hrt
    exact q.none hw.symm g4.h
theorem ok_walked (T : Txt K mg C) (F : Fn K mg "walked" s_walked) (c_walk : ICal P w K mg base C 1 "Walk" ["self", "kinds"] (sp_init C)) (c_does : MCal P w K mg base C 2 "does" ["self", "command"] (sp_does C)) : Cal P w K mg base 3 "walked" ["kinds", "commands"] s_walked (sp_walked C) := by
  refine cal_mk F sc_walked (fun _ _ _ _ _ _ us hl => match us, hl with | [_, _], _ => rfl) (fun vs H Q E h => ?_) (fun f cdv A outer s H vs Q E hr h => ?_)
  · obtain ⟨I, kv, vv, ks, v, cs, rfl, _⟩ := h
    rfl
  obtain ⟨I, kv, vv, ks, v, cs, rfl, e, hk, hvv, hv, hl, hcs, q⟩ := h
  have hmake : ∀ {tz : TS} {D : Ends}, (∀ A H2, Go I H I H2 → Wk C H I H2 A ks (w0 ks) 0 → tz D [some kv, some vv, some (.ref (WA.p A)), none] H2) → tSeq (tAsg (tMake C (sp_init C) [] E0 (tCons (tVar 0) tNil)) (gName 2)) tz D (start N_walked [kv, vv]) H := fun {tz D} hh => by
    refine ⟨_, rfl, fun x dx hx hdx hne => ?_⟩
    have e1 : Ex H (upd (upd H dx (.own x)) x (.ins C dx [])) := (Ex.new hdx).trans (Ex.new (by rw [upd_ne (fun z => hne z.symm)]; exact hx))
    refine ⟨I, H, I, x, dx, kv, ks, rfl, (Go.refl e).step e1, upd_same, e.free hx, hx, hk, fun A2 H2 g2 hA W => ⟨rfl, ?_⟩⟩
    rw [← hA]
    exact hh A2 H2 g2 W
  have hend : ∀ {A : WA} {I4 H4 : Hp} {s4 : Wst} {x : Option V} {n : Nat} {D : Ends}, n ≤ 90000 → D.rt = Q → Go I H I4 H4 → Wk C H I4 H4 A ks s4 n → walkS ks s4 [] = walkS ks (w0 ks) cs → tRet (tIf (tTest (tOp rEq (tFld K (tVar 2) "left") (tC (.int 0)))) (tVar 2) (tC .non)) D [some kv, some vv, some (.ref A.p), x] H4 := fun {A I4 H4 s4 x n D} hnn hrt g4 W4 hw => by
    refine (et_test (J := I4) (ad_eqI (w_left W4 T (ev_var rfl)) ed_int g4.o) g4.o) H4 (Ex.refl _) _ fun H5 e5 => ?_
    rw [walkS] at hw
    by_cases hb : s4.left = 0
    · rw [decide_eq_true hb, if_pos rfl]
      rw [if_pos hb] at hw
      subst hrt
      exact ⟨_, rfl, q.2 s4 hw.symm A I4 H5 n hnn (g4.step e5) (W4.step e5)⟩
    · rw [decide_eq_false hb, if_neg (by simp)]
      rw [if_neg hb] at hw
      subst hrt
      exact q.none hw.symm (g4.h.trans e5)
  rcases hv with rfl | rfl
  · refine ⟨_, (pss_cons (ps_set (i := 2) sc_walked.nd rfl (Or.inl rfl) (pe_ical c_walk hr (by decide) rfl (pa_cons (pv 0) pa_nil))) (pss_cons (ps_for PassesOwn.never rfl (pi_list (pv 1)) (pg_name (i := 3) sc_walked.nd rfl (Or.inl rfl)) (pss_one (ps_if (pt_not (pt_val (pe_mcal c_does T.cl hr (by decide) (pv 2) (pa_cons (pv 3) pa_nil)))) (pss_one (ps_ret pe_non)) pss_nil))) (pss_one (ps_ret (pe_ifExp (pt_cmpR op_eq (pe_fld (pv 2) rfl) pe_int (nomark _)) (pv 2) pe_non))))), ?_⟩
    refine hmake fun A H2 g2 W2 => ?_
    refine q_forL (I := I) (ds := cs.map cmD) (ed_var rfl hvv) g2.o (fun I2 i σ' H' => ∃ x I3 s, σ' = [some kv, some vv, some (.ref A.p), x] ∧ Go I H I3 H' ∧ Ex I2 I3 ∧ Wk C H I3 H' A ks s i ∧ OkS ks s ∧ walkS ks s (cs.drop i) = walkS ks (w0 ks) cs) ?_ ?_ ?_ ?_
    · rintro I2 i σ' H' ⟨x, I3, s, _, g, e, _⟩
      exact e.trans g.o
    · intro I2 H3 g3
      exact ⟨none, I2, w0 ks, rfl, g2.trans g3, Ex.refl _, W2.go g3, ⟨Int.natCast_nonneg _, Int.le_refl _⟩, rfl⟩
    · rintro I2 i d v σ' H' e2 hd kx ⟨x, I3, s, hs, g, e3, W, hok, hw⟩
      obtain ⟨cm, hcm, rfl⟩ := map_get hd
      exact walked_body rfl hcm hcs hl kx hs g e3 W hok hw q fun I4 H4 s4 g4 e4 W4 hok4 hw4 => ⟨some v, I4, s4, by rw [hs]; rfl, g4, e4, W4, hok4, hw4⟩
    · rintro I2 σ' H' e2 ⟨x, I3, s, rfl, g, e3, W, hok, hw⟩
      rw [List.length_map, List.drop_length] at hw
      exact hend (by rw [List.length_map]; omega) rfl g W hw
  · refine ⟨_, (pss_cons (ps_set (i := 2) sc_walked.nd rfl (Or.inl rfl) (pe_ical c_walk hr (by decide) rfl (pa_cons (pv 0) pa_nil))) (pss_cons (ps_for PassesOwn.never rfl (pi_tup (pv 1)) (pg_name (i := 3) sc_walked.nd rfl (Or.inl rfl)) (pss_one (ps_if (pt_not (pt_val (pe_mcal c_does T.cl hr (by decide) (pv 2) (pa_cons (pv 3) pa_nil)))) (pss_one (ps_ret pe_non)) pss_nil))) (pss_one (ps_ret (pe_ifExp (pt_cmpR op_eq (pe_fld (pv 2) rfl) pe_int (nomark _)) (pv 2) pe_non))))), ?_⟩
    refine hmake fun A H2 g2 W2 => ?_
    refine q_forT (I := I) (ds := cs.map cmD) (ed_var rfl hvv) g2.o (fun I2 i σ' H' => ∃ x I3 s, σ' = [some kv, some vv, some (.ref A.p), x] ∧ Go I H I3 H' ∧ Ex I2 I3 ∧ Wk C H I3 H' A ks s i ∧ OkS ks s ∧ walkS ks s (cs.drop i) = walkS ks (w0 ks) cs) ?_ ?_ ?_ ?_
    · rintro I2 i σ' H' ⟨x, I3, s, _, g, e, _⟩
      exact e.trans g.o
    · intro I2 H3 g3
      exact ⟨none, I2, w0 ks, rfl, g2.trans g3, Ex.refl _, W2.go g3, ⟨Int.natCast_nonneg _, Int.le_refl _⟩, rfl⟩
    · rintro I2 i d v σ' H' e2 hd kx ⟨x, I3, s, hs, g, e3, W, hok, hw⟩
      obtain ⟨cm, hcm, rfl⟩ := map_get hd
      exact walked_body rfl hcm hcs hl kx hs g e3 W hok hw q fun I4 H4 s4 g4 e4 W4 hok4 hw4 => ⟨some v, I4, s4, by rw [hs]; rfl, g4, e4, W4, hok4, hw4⟩
    · rintro I2 σ' H' e2 ⟨x, I3, s, rfl, g, e3, W, hok, hw⟩
      rw [List.length_map, List.drop_length] at hw
      exact hend (by rw [List.length_map]; omega) rfl g W hw
end
end K84
namespace K84
open PySem PySem.Spec PyProof.Rows L2 KD
local macro_rules
  | `(tactic| walk_at "ed") => `(tactic| first
    | with_reducible assumption
    | with_reducible exact Ex.refl _
    | (with_reducible apply Go.o; with_reducible assumption)
    | with_reducible exact ed_int
    | with_reducible exact ed_bl
    | with_reducible exact ed_str
    | with_reducible exact ed_non
    | ((with_reducible apply ed_var) <;> (first | (exact rfl) | exact Is.int _ | exact Is.bl _ | exact Is.str _ | exact Is.non | with_reducible assumption))
    | ((with_reducible apply ad_add) <;> walk_at "ed")
    | ((with_reducible apply ad_sub) <;> walk_at "ed")
    | ((with_reducible apply ad_lt) <;> walk_at "ed")
    | ((with_reducible apply ad_le) <;> walk_at "ed")
    | ((with_reducible apply ad_gt) <;> walk_at "ed")
    | ((with_reducible apply ad_ge) <;> walk_at "ed")
    | ((with_reducible apply ad_eqI) <;> walk_at "ed")
    | ((with_reducible apply ad_neI) <;> walk_at "ed")
    | ((with_reducible apply ad_eqS) <;> walk_at "ed")
    | ((with_reducible apply ad_neS) <;> walk_at "ed")
    | ((with_reducible apply ad_notV) <;> walk_at "ed")
    | ((with_reducible apply ad_neg) <;> walk_at "ed")
    | ((with_reducible apply ad_lenL) <;> walk_at "ed")
    | ((with_reducible refine ad_tup ?_ ?_) <;> (first | walk_at "ed" | (simp only [List.length_cons, List.length_nil]; decide)))
    | ((with_reducible refine ad_lst ?_ ?_) <;> (first | walk_at "ed" | (simp only [List.length_cons, List.length_nil]; decide)))
    | ((with_reducible apply ea_cons) <;> walk_at "ed")
    | with_reducible exact ea_nil)

def W4 : List Str := ["keep", "take", "run", "turn"]
def W5 : List Str := ["keep", "take", "run", "turn", "undo"]
def pWalk (ks : List Int) (c : Int) (ws : List Str) (v : Val) : Option Wst := if valGood c ws v = true then (match v with | .ls cs => walkS ks (w0 ks) cs | .tp cs => walkS ks (w0 ks) cs | .oth _ => none) else none
theorem cmM_of {c : Int} {ws : List Str} {cm : Cm} (h : cmOk c ws cm = true) : CmM cm := by
  cases cm with
  | turn => exact .inl rfl
  | mv w n =>
    have h : (ws.contains w && (!decide (w = "turn") && _)) = true := h
    rw [Bool.and_eq_true, Bool.and_eq_true] at h
    exact .inr ⟨w, n, rfl, by simpa using h.2.1⟩
  | _ => cases h
section
variable {P : Program} {w : World} {K : PySem.W.Frag} {mg : Str → Option Value} {base : Heap} {C : Addr}
theorem Wk.less {H0 H1 I H : Hp} {A : WA} {ks : List Int} {s : Wst} {n : Nat} (W : Wk C H1 I H A ks s n) (e : Ex H0 H1) : Wk C H0 I H A ks s n := ⟨W.o, W.k, W.d, W.r, W.ip, W.is, W.ir, e.free W.hp, e.free W.hs, e.free W.hr⟩
theorem WRes.go {ks : List Int} {I H I1 H1 : Hp} {r : Option Wst} {Q : VK} (h : WRes C ks I H r Q) (g : Go I H I1 H1) : WRes C ks I1 H1 r Q := ⟨fun e H2 e2 => h.1 e H2 (g.h.trans e2), fun s e A I2 H2 n hn g2 W => h.2 s e A I2 H2 n hn (g.trans g2) (W.less g.h)⟩
abbrev kD (ks : List Int) : PyData := .list (ks.map PyData.int)
/-! ### undo_walk, walk_of -/
abbrev N_undo_walk : List Str := ["kinds", "c", "value"]
theorem sc_undo_walk : FnScope N_undo_walk ["kinds", "c", "value"] (defScope s_undo_walk) := ⟨rfl, rfl, rfl, by decide +kernel, rfl, by decide +kernel, by decide +kernel⟩
abbrev sp_undo_walk (C : Addr) : Sp := fun vs H Q _ => ∃ I ks c v, Ex I H ∧ IsAll I vs [.list (List.map PyData.int ks), .int c, valD v] ∧ valOk v ∧ WRes C ks I H (pWalk ks c W5 v) Q
theorem walked_ret {ks : List Int} {I H H1 : Hp} {c : Int} {ws : List Str} {v : Val} {D : Ends} {σ : L2.St} {ta : TA} {r : Option Wst} (g : Go I H I H1) (hg : valGood c ws v = true) (ha : Ea ta σ H1 I [kD ks, valD v]) (q : WRes C ks I H (pWalk ks c ws v) D.rt) : tRet (tCall (sp_walked C) [] E0 ta) D σ H1 := by
  refine ha H1 (Ex.refl _) g.o _ fun vs I2 H2 a1 a2 a3 nw kv => ?_
  obtain ⟨v1, v2, rfl, k1, k2⟩ := isAll2 kv
  have q2 := q.go (g.trans ⟨a1, nw, a2, a3⟩)
  unfold pWalk at q2
  rw [if_pos hg] at q2
  cases v with
  | ls cs =>
    have hg : (decide ((cs.length : Int) ≤ 4000) && cs.all (cmOk c ws)) = true := hg
    rw [Bool.and_eq_true, decide_eq_true_eq, List.all_eq_true] at hg
    exact ⟨I2, v1, v2, ks, _, cs, rfl, a3, k1, k2, .inl rfl, by omega, fun cm hcm => cmM_of (hg.2 cm hcm), q2⟩
  | tp cs =>
    have hg : (decide ((cs.length : Int) ≤ 4000) && cs.all (cmOk c ws)) = true := hg
    rw [Bool.and_eq_true, decide_eq_true_eq, List.all_eq_true] at hg
    exact ⟨I2, v1, v2, ks, _, cs, rfl, a3, k1, k2, .inr rfl, by omega, fun cm hcm => cmM_of (hg.2 cm hcm), q2⟩
  | oth d => cases hg
theorem ok_undo_walk (T : Txt K mg C) (F : Fn K mg "undo_walk" s_undo_walk) (c_are_commands : Cal P w K mg base 4 "are_commands" ["value", "c", "words"] s_are_commands sp_are_commands) (c_walked : Cal P w K mg base 3 "walked" ["kinds", "commands"] s_walked (sp_walked C)) : Cal P w K mg base 5 "undo_walk" ["kinds", "c", "value"] s_undo_walk (sp_undo_walk C) := by
  refine cal_mk F sc_undo_walk (fun _ _ _ _ _ _ us hl => match us, hl with | [_, _, _], _ => rfl) (fun vs H Q E h => ?_) (fun f cdv A outer s H vs Q E hr h => ?_)
  · obtain ⟨I, ks, c, v, _, k, _⟩ := h
    exact k.length
  obtain ⟨I, ks, c, v, e, k, hv, q⟩ := h
  obtain ⟨v1, v2, v3, rfl, k1, k2, k3⟩ := isAll3 k
  cases k2
  refine ⟨_, (pss_cons (ps_if (pt_not (pt_val (pe_cal c_are_commands hr (by first | decide | exact Nat.le_refl _) rfl (pa_cons (pv 2) (pa_cons (pv 1) (pa_cons (pe_tup (pa_cons (pe_gk T.k_KEEP rfl) (pa_cons (pe_gk T.k_TAKE rfl) (pa_cons (pe_gk T.k_RUN rfl) (pa_cons (pe_gk T.k_TURN rfl) (pa_cons (pe_gk T.k_UNDO rfl) pa_nil)))))) pa_nil)))))) (pss_one (ps_ret pe_non)) pss_nil) (pss_one (ps_ret (pe_cal c_walked hr (by first | decide | exact Nat.le_refl _) rfl (pa_cons (pv 0) (pa_cons (pv 2) pa_nil)))))), ?_⟩
  refine q_when (Go.refl e) (et_not (et_test (J := I) (ed_callB (J := I) (v, c, W5) (by rfl) hv (ea_cons (ed_var rfl k3) (ea_cons (by walk_at "ed") (ea_cons (show Ed _ _ _ _ (.tuple [.str "keep", .str "take", .str "run", .str "turn", .str "undo"]) by walk_at "ed") ea_nil))) e) e)) (fun hb H1 g1 e1 => ?_) fun hb H1 g1 e1 => ?_
  · have hb : (!valGood c W5 v) = true := hb
    refine q.none ?_ g1.h
    unfold pWalk
    rw [if_neg (by simpa using hb)]
  · have hb : (!valGood c W5 v) = false := hb
    exact walked_ret (r := none) g1 (by simpa using hb) (ea_cons (ed_var rfl k1) (ea_cons (ed_var rfl k3) ea_nil)) q
/-! ### check_kinds, is_undo_schedule, undo_count -/
abbrev N_check_kinds : List Str := ["kinds", "one"]
theorem sc_check_kinds : FnScope N_check_kinds ["kinds"] (defScope s_check_kinds) := ⟨rfl, rfl, rfl, by decide +kernel, rfl, by decide +kernel, by decide +kernel⟩
def GoodKinds (ks : List Int) : Prop := 1 ≤ ks.length ∧ ks.length ≤ 60 ∧ ∀ n ∈ ks, 0 ≤ n ∧ n ≤ 1
abbrev sp_check_kinds : Sp := spOf (fun ns : List Int => [.list (ns.map PyData.int)]) GoodKinds fun _ => .none
theorem ok_check_kinds (T : Txt K mg C) (F : Fn K mg "check_kinds" s_check_kinds) (c_is_list : Cal P w K mg base 1 "is_list" ["value"] s_is_list sp_is_list) (c_is_between : Cal P w K mg base 2 "is_between" ["value", "low", "high"] s_is_between sp_is_between) : Cal P w K mg base 3 "check_kinds" ["kinds"] s_check_kinds sp_check_kinds := by
  refine cal_mk F sc_check_kinds (fun _ _ _ _ _ _ us hl => match us, hl with | [_], _ => rfl) (fun vs H Q E h => spOf_len (n := 1) (fun _ => rfl) h) (fun f cdv A outer s H vs Q E hr h => ?_)
  obtain ⟨ns, I, e, k, ⟨h1, h2, h3⟩, q⟩ := spOf_out h
  obtain ⟨v1, rfl, k1⟩ := isAll1 k
  refine ⟨_, (pss_one (ps_if (PW.pt (pw_or (pt_not (pt_val (pe_cal c_is_list hr (by first | decide | exact Nat.le_refl _) rfl (pa_cons (pv 0) pa_nil)))) (pw_or (pt_not (pt_chain op_le op_le pe_int (pe_callB call_len_seq (by rfl) T.b_len (by decide +kernel) (pa_cons (pv 0) pa_nil)) (pe_gk T.k_MOST_ROUNDS rfl))) (pw_or1 (pt_not (pt_val (pe_callB (cr_all rfl) (by rfl) T.b_all (by decide +kernel) (pa_cons (pe_lc (own := [("one", 1)]) (by rfl) sc_check_kinds.nd (pi_list (pv 0)) (blkOk_by (N := N_check_kinds) (own := [("one", 1)]) (sc := defScope s_check_kinds) (by decide +kernel)) (fun _ _ _ _ _ => (pg_name (i := 1) sc_check_kinds.nd rfl (Or.inl rfl))) (fun _ _ _ _ _ => pts_nil) (fun _ _ _ _ _ => (pe_cal c_is_between hr (by first | decide | exact Nat.le_refl _) rfl (pa_cons (pv 1) (pa_cons pe_int (pa_cons pe_int pa_nil)))))) pa_nil)))))))) (pss_one ps_never) pss_nil)), ?_⟩
  refine g_if (Go.refl e) (b := !true || (!(decide (1 ≤ ((ns.map PyData.int).length : Int)) && decide (((ns.map PyData.int).length : Int) ≤ 60)) || !((ns.map fun n => between (.int n) 0 1).all id))) (et_or (et_not (et_test (J := I) (ed_callB (J := I) _ (by rfl) trivial (ea_cons (ed_var rfl k1) ea_nil) e) e)) fun _ => et_or (et_not (et_test (J := I) (ed_chainI (J := I) (g := fun i j => decide (i ≤ j)) (g' := fun i j => decide (i ≤ j)) (by walk_at "ed") (ed_lenL (ed_var rfl k1) e) (by walk_at "ed") e) e)) fun _ => et_not (et_test (J := I) (ed_all (J := I) (ns := ns.map fun n => between (.int n) 0 1) (Ed.is (ed_lcA ns PyData.int (fun n => .bool (between (.int n) 0 1)) (ed_var rfl k1) (by omega) (fun _ => rfl) fun i a x I' H' ha a1 a2 a3 kx => ?_) (by rw [List.map_map]; rfl)) e) e)) (fun hb => ?_) fun _ H2 g2 e2 => q .non I H2 (Ex.refl _) e2 g2.o (New.refl _ _) .non
  · exact ed_callB (J := I') (PyData.int a, 0, 1) (by rfl) trivial (ea_cons (ed_var rfl kx) (by walk_at "ed")) a2
  · exfalso
    have ha : (ns.map fun n => between (.int n) 0 1).all id = true := by
      rw [List.all_map, List.all_eq_true]
      intro n hn
      obtain ⟨z1, z2⟩ := h3 n hn
      show (decide (0 ≤ n) && decide (n ≤ 1)) = true
      rw [decide_eq_true z1, decide_eq_true z2]
      rfl
    rw [List.length_map, ha] at hb
    simp only [Bool.not_true, Bool.false_or, Bool.or_false, Bool.not_eq_true', Bool.and_eq_false_iff, decide_eq_false_iff_not] at hb
    omega
abbrev CUW (P : Program) (w : World) (K : PySem.W.Frag) (mg : Str → Option Value) (base : Heap) (C : Addr) : Prop := Cal P w K mg base 5 "undo_walk" ["kinds", "c", "value"] s_undo_walk (sp_undo_walk C)
/-- walk(..) is not None -/
theorem ed_notNon {ks : List Int} {I H : Hp} {σ : L2.St} {sp : Sp} {ta : TA} {r : Option Wst} {ds : List PyData} (e : Ex I H) (ha : Ea ta σ H I ds) (hs : ∀ vs I2 H2 Q, Go I H I2 H2 → IsAll I2 vs ds → WRes C ks I2 H2 r Q → sp (vs ++ []) H2 Q E0) : Ed (tOp (fun x y H Q => y = .non ∧ Q (.bl (!decide (x = .non))) H) (tCall sp [] E0 ta) (tC .non)) σ H I (.bool r.isSome) := fun H1 e1 b Q q => by
  refine ha H1 e1 b _ fun vs I2 H2 a1 a2 a3 nw kv => ?_
  refine hs vs I2 H2 _ ⟨a1, (fun a o z => (nw a o z).imp id fun y => e1.free y), e1.trans a2, a3⟩ kv ⟨fun hr H3 e3 => ⟨rfl, ?_⟩, fun s hr A I3 H3 n _ g3 W => ⟨rfl, ?_⟩⟩
  · subst hr
    exact q _ I H3 (Ex.refl _) (a2.trans e3) (b.trans (a2.trans e3)) (New.refl _ _) (.bl false)
  · subst hr
    exact q _ I H3 (Ex.refl _) (a2.trans g3.h) (b.trans (a2.trans g3.h)) (New.refl _ _) (.bl true)
abbrev N_is_undo_schedule : List Str := ["kinds", "c", "value"]
theorem sc_is_undo_schedule : FnScope N_is_undo_schedule ["kinds", "c", "value"] (defScope s_is_undo_schedule) := ⟨rfl, rfl, rfl, by decide +kernel, rfl, by decide +kernel, by decide +kernel⟩
abbrev sp_is_undo_schedule : Sp := spOf (fun a : List Int × Int × Val => [.list (a.1.map PyData.int), .int a.2.1, valD a.2.2]) (fun a => GoodKinds a.1 ∧ (1 ≤ a.2.1 ∧ a.2.1 ≤ 40) ∧ valOk a.2.2) fun a => .bool (pWalk a.1 a.2.1 W5 a.2.2).isSome
theorem ok_is_undo_schedule (T : Txt K mg C) (F : Fn K mg "is_undo_schedule" s_is_undo_schedule) (c_check_kinds : Cal P w K mg base 3 "check_kinds" ["kinds"] s_check_kinds sp_check_kinds) (c_check_slots : Cal P w K mg base 3 "check_slots" ["c"] s_check_slots sp_check_slots) (c_undo_walk : CUW P w K mg base C) : Cal P w K mg base 6 "is_undo_schedule" ["kinds", "c", "value"] s_is_undo_schedule sp_is_undo_schedule := by
  refine cal_mk F sc_is_undo_schedule (fun _ _ _ _ _ _ us hl => match us, hl with | [_, _, _], _ => rfl) (fun vs H Q E h => spOf_len (n := 3) (fun _ => rfl) h) (fun f cdv A outer s H vs Q E hr h => ?_)
  obtain ⟨⟨ks, c, v⟩, I, e, k, ⟨h1, h2, h3⟩, q⟩ := spOf_out h
  dsimp only at k h1 h2 h3 q
  obtain ⟨v1, v2, v3, rfl, k1, k2, k3⟩ := isAll3 k
  cases k2
  refine ⟨_, (pss_cons (ps_expr (pe_cal c_check_kinds hr (by first | decide | exact Nat.le_refl _) rfl (pa_cons (pv 0) pa_nil))) (pss_cons (ps_expr (pe_cal c_check_slots hr (by first | decide | exact Nat.le_refl _) rfl (pa_cons (pv 1) pa_nil))) (pss_one (ps_ret (pe_cmpR op_notN (pe_cal c_undo_walk hr (by first | decide | exact Nat.le_refl _) rfl (pa_cons (pv 0) (pa_cons (pv 1) (pa_cons (pv 2) pa_nil)))) pe_non (nomark _)))))), ?_⟩
  refine q_drop (Go.refl e) (ed_callD (I := I) ks h1 (ea_cons (ed_var rfl k1) ea_nil)) fun H1 g1 e1 => ?_
  refine q_drop g1 (ed_callD (I := I) c h2 (by walk_at "ed")) fun H2 g2 e2 => ?_
  refine g_ret q g2 (ed_notNon (C := C) (ks := ks) g2.o (ea_cons (ed_var rfl k1) (ea_cons (by walk_at "ed") (ea_cons (ed_var rfl k3) ea_nil))) fun vs I3 H3 Q3 g3 kv hr => ⟨I3, ks, c, v, g3.o, by rw [List.append_nil]; exact kv, h3, hr⟩)
/-- the runs of a walk, each summed -/
def runSum (ks : List Int) (rs : List (Int × Int)) : Int := (rs.map fun r => (cutA ks (some r.1) (some r.2)).sum).sum
theorem ed_runs {ks : List Int} {kv : V} {I H : Hp} {A : WA} {s : Wst} {n : Nat} {σ : L2.St} {H0 : Hp} {i j j2 : Nat} (T : Txt K mg C) (W : Wk C H0 I H A ks s n) (e : Ex I H) (hn : n ≤ 90000) (hv : Ev (tVar i) σ H (.ref A.p)) (hk : ∀ (x y : V) I2, Ex I I2 → ∀ H2, Ed (tVar 0) (((wipe σ [j, j2]).set j (some x)).set j2 (some y)) H2 I2 (.list (ks.map PyData.int)))
    (hw : ∀ x y, wipe (((wipe σ [j, j2]).set j (some x)).set j2 (some y)) [j, j2] = wipe σ [j, j2]) (hx : ∀ x y, (((wipe σ [j, j2]).set j (some x)).set j2 (some y))[j]? = some (some x) ∧ (((wipe σ [j, j2]).set j (some x)).set j2 (some y))[j2]? = some (some y)) :
    Ed (tCB (rSum K) (tCons (tLc (iList K (tFld K (tVar i) "runs")) (gTup K 2 (gCons (gName j) (gCons (gName j2) gNil))) tYes (tCB (rSum K) (tCons (tSl (rSlL K) (tVar 0) (tPart (tVar j)) (tPart (tVar j2))) tNil)) [j, j2]) tNil)) σ H I (.int (runSum ks s.runs)) := by
  obtain ⟨rs, h1, h2, h3⟩ := W.r
  have e2 : Ex (upd I A.rl (.lst rs)) H := e.lay h1
  have ei : Ex I (upd I A.rl (.lst rs)) := Ex.new W.ir
  have hl : Ed (tFld K (tVar i) "runs") σ H (upd I A.rl (.lst rs)) (.list (s.runs.map runD)) := (w_runs W T hv).ed (.lst upd_same (h2.mono ei))
  have hlen : s.runs.length ≤ 90000 := by
    have := h2.length
    rw [List.length_map] at this
    omega
  refine ed_sum (J := upd I A.rl (.lst rs)) (ns := s.runs.map fun r => (cutA ks (some r.1) (some r.2)).sum) (Ed.is (ed_lcP s.runs (fun r => .int r.1) (fun r => .int r.2) (fun r => .int (cutA ks (some r.1) (some r.2)).sum) hl hlen hw fun m a x y I' H' _ a1 a2 a3 k1 k2 => ?_) (by rw [List.map_map]; rfl)) e2
  have hx' := hx x y
  refine ed_sum (J := I') ?_ a2
  rw [← cutD_map]
  cases k1
  cases k2
  exact ed_sl (hk _ _ _ (ei.trans a1) _) (eo_some (J := I') (ed_var hx'.1 (.int _)) a2) (eo_some (J := I') (ed_var hx'.2 (.int _)) a2)
theorem q_call {I H : Hp} {σ : L2.St} {sp : Sp} {ta : TA} {ds : List PyData} {i : Nat} {tz : TS} {D : Ends} (e : Ex I H) (h : Ea ta σ H I ds) (k : ∀ vs I2 H2, Go I H I2 H2 → IsAll I2 vs ds → sp (vs ++ []) H2 (fun v H3 => tz D (σ.set i (some v)) H3) E0) : tSeq (tAsg (tCall sp [] E0 ta) (gName i)) tz D σ H :=
  h H (Ex.refl _) e _ fun vs I2 H2 a1 a2 a3 nw kv => k vs I2 H2 ⟨a1, nw, a2, a3⟩ kv
abbrev N_undo_count : List Str := ["kinds", "c", "schedule", "walk", "first", "end"]
theorem sc_undo_count : FnScope N_undo_count ["kinds", "c", "schedule"] (defScope s_undo_count) := ⟨rfl, rfl, rfl, by decide +kernel, rfl, by decide +kernel, by decide +kernel⟩
abbrev sp_undo_count : Sp := spOf (fun a : List Int × Int × Val => [.list (a.1.map PyData.int), .int a.2.1, valD a.2.2]) (fun a => GoodKinds a.1 ∧ (1 ≤ a.2.1 ∧ a.2.1 ≤ 40) ∧ valOk a.2.2 ∧ (pWalk a.1 a.2.1 W5 a.2.2).isSome = true) fun a => .int ((pWalk a.1 a.2.1 W5 a.2.2).elim 0 fun s => runSum a.1 s.runs)
theorem ok_undo_count (T : Txt K mg C) (F : Fn K mg "undo_count" s_undo_count) (c_check_kinds : Cal P w K mg base 3 "check_kinds" ["kinds"] s_check_kinds sp_check_kinds) (c_check_slots : Cal P w K mg base 3 "check_slots" ["c"] s_check_slots sp_check_slots) (c_undo_walk : CUW P w K mg base C) : Cal P w K mg base 6 "undo_count" ["kinds", "c", "schedule"] s_undo_count sp_undo_count := by
  refine cal_mk F sc_undo_count (fun _ _ _ _ _ _ us hl => match us, hl with | [_, _, _], _ => rfl) (fun vs H Q E h => spOf_len (n := 3) (fun _ => rfl) h) (fun f cdv A outer s H vs Q E hr h => ?_)
  obtain ⟨⟨ks, c, v⟩, I, e, k, ⟨h1, h2, h3, h4⟩, q⟩ := spOf_out h
  dsimp only at k h1 h2 h3 h4 q
  obtain ⟨v1, v2, v3, rfl, k1, k2, k3⟩ := isAll3 k
  cases k2
  refine ⟨_, (pss_cons (ps_expr (pe_cal c_check_kinds hr (by first | decide | exact Nat.le_refl _) rfl (pa_cons (pv 0) pa_nil))) (pss_cons (ps_expr (pe_cal c_check_slots hr (by first | decide | exact Nat.le_refl _) rfl (pa_cons (pv 1) pa_nil))) (pss_cons (ps_set (i := 3) sc_undo_count.nd rfl (Or.inl rfl) (pe_cal c_undo_walk hr (by first | decide | exact Nat.le_refl _) rfl (pa_cons (pv 0) (pa_cons (pv 1) (pa_cons (pv 2) pa_nil))))) (pss_cons (ps_if (pt_cmpR op_isN (pv 3) pe_non (nomark _)) (pss_one ps_never) pss_nil) (pss_one (ps_ret (pe_callB (cr_sum rfl) (by rfl) T.b_sum (by decide +kernel) (pa_cons (pe_lc (own := [("first", 4), ("end", 5)]) (by rfl) sc_undo_count.nd (pi_list (pe_fld (pv 3) rfl)) (blkOk_by (N := N_undo_count) (own := [("first", 4), ("end", 5)]) (sc := defScope s_undo_count) (by decide +kernel)) (fun _ _ _ _ _ => (show PG _ _ (gTup K 2 (gCons (gName 4) (gCons (gName 5) gNil))) from (pg_tup (by rfl) (pgs_cons (pg_name (i := 4) sc_undo_count.nd rfl (Or.inl rfl)) (pgs_cons (pg_name (i := 5) sc_undo_count.nd rfl (Or.inl rfl)) pgs_nil))))) (fun _ _ _ _ _ => pts_nil) (fun _ _ _ _ _ => (pe_callB (show CallR _ _ (rSum K) from (cr_sum rfl)) (by rfl) T.b_sum (by decide +kernel) (pa_cons (pe_slice (show SlR _ (rSlL K) from sl_list) (pv 0) (po_some (pv 4)) (po_some (pv 5))) pa_nil)))) pa_nil)))))))), ?_⟩
  refine q_drop (Go.refl e) (ed_callD (I := I) ks h1 (ea_cons (ed_var rfl k1) ea_nil)) fun H1 g1 e1 => ?_
  refine q_drop g1 (ed_callD (I := I) c h2 (by walk_at "ed")) fun H2 g2 e2 => ?_
  refine q_call g2.o (ea_cons (ed_var rfl k1) (ea_cons (ed_var rfl (.int c)) (ea_cons (ed_var rfl k3) ea_nil))) fun vs I3 H3 gg kv => ?_
  have g3 := g2.trans gg
  obtain ⟨s, hs⟩ := Option.isSome_iff_exists.mp h4
  refine ⟨I3, ks, c, v, gg.o, by rw [List.append_nil]; exact kv, h3, fun z => (by rw [hs] at z; cases z), fun s2 hs2 A I4 H4 n hn g4 W => ?_⟩
  rw [hs] at hs2 q
  cases hs2
  have g5 := g3.trans g4
  refine q_when g5 (b := false) (et_test (J := I4) (b := false) (fun H1 e b Q q => ⟨_, rfl, rfl, q _ I4 H1 (Ex.refl _) (Ex.refl _) b (New.refl _ _) (.bl _)⟩) g5.o) (fun z => by cases z) fun _ H6 g6 e6 => ?_
  exact g_ret q g6 (ed_runs (kv := v1) T (W.step e6) g6.o hn (ev_var rfl) (fun x y I2 e2 H7 => ed_var rfl (k1.mono (g5.i.trans e2))) (fun _ _ => rfl) fun _ _ => ⟨rfl, rfl⟩)
end
end K84
namespace KD
open PySem PySem.Spec PyProof.Rows L2
section
variable {K : PySem.W.Frag} {σ : L2.St} {H I J : Hp} {ta tb te : TE} {d : PyData}
theorem rep_one (n : Nat) (x : PyData) : (List.replicate n [x]).flatten = List.replicate n x := by
  induction n with
  | zero => rfl
  | succ n ih => rw [List.replicate_succ, List.flatten_cons, ih, List.replicate_succ]; rfl
/-- xs * n -/
theorem ed_rep {ds : List PyData} {n : Int} (ha : Ed ta σ H I (.list ds)) (hb : Ed tb σ H I (.int n)) (ei : Ex I H) (hn : -100000 ≤ n ∧ n ≤ 100000) (hz : ds.length * n.toNat ≤ 100000) : Ed (tOp rRep ta tb) σ H I (.list (List.replicate n.toNat ds).flatten) := fun H1 e b Q q =>
  ha H1 e b _ fun v I2 H2 a1 a2 a3 nw k => hb.int ei H2 (e.trans a2) _ fun H3 e3 => by
    cases k with
    | @lst l xs _ ka kb =>
      refine ⟨l, n, xs, rfl, rfl, e3 _ _ (a3 _ _ ka), by omega, by omega, by rw [kb.length]; exact sz_of hz, fun p hp => ?_⟩
      exact q _ (upd I2 p (.lst (List.replicate n.toNat xs).flatten)) _ (a1.trans (Ex.new ((a3.trans e3).free hp))) ((a2.trans e3).trans (Ex.new hp)) (a3.trans e3).both (nw.lay (a2.trans e3) hp) (.lst upd_same ((kb.flat_rep _).mono (Ex.new ((a3.trans e3).free hp))))
/-- [x] * n -/
theorem ed_rep1 {n : Int} (ha : Ed ta σ H I (.list [d])) (hb : Ed tb σ H I (.int n)) (ei : Ex I H) (hn : 0 ≤ n ∧ n ≤ 90000) : Ed (tOp rRep ta tb) σ H I (.list (List.replicate n.toNat d)) := by
  have h := ed_rep ha hb ei (by omega) (by show 1 * n.toNat ≤ _; omega)
  rw [rep_one] at h
  exact h
/-- xs + ys -/
theorem ed_cat {ds es : List PyData} (ha : Ed ta σ H I (.list ds)) (hb : Ed tb σ H I (.list es)) (ei : Ex I H) (hz : ds.length + es.length ≤ 100000) : Ed (tOp rCat ta tb) σ H I (.list (ds ++ es)) := fun H1 e b Q q =>
  ha H1 e b _ fun v I2 H2 a1 a2 a3 nw k => (hb.more a1) H2 (e.trans a2) a3 _ fun v2 I3 H3 b1 b2 b3 nw2 k2 => by
    cases k with
    | @lst l xs _ ka kb =>
      cases k2 with
      | @lst l2 ys _ kc kd =>
        refine ⟨l, l2, xs, ys, rfl, rfl, b2 _ _ (a3 _ _ ka), b3 _ _ kc, by rw [kb.length, kd.length]; exact sz_of hz, fun p hp => ?_⟩
        have fr := b3.free hp
        exact q _ (upd I3 p (.lst (xs ++ ys))) _ ((a1.trans b1).trans (Ex.new fr)) ((a2.trans b2).trans (Ex.new hp)) b3.both ((nw.trans nw2 a2).lay (a2.trans b2) hp) (.lst upd_same (((kb.mono b1).append kd).mono (Ex.new fr)))
/-- s + t, tuples -/
theorem ed_catT {ds es : List PyData} (ha : Ed ta σ H I (.tuple ds)) (hb : Ed tb σ H I (.tuple es)) (ei : Ex I H) (hz : ds.length + es.length ≤ 100000) : Ed (tOp (rCatA K) ta tb) σ H I (.tuple (ds ++ es)) := fun H1 e b Q q =>
  ha H1 e b _ fun v I2 H2 a1 a2 a3 nw k => (hb.more a1) H2 (e.trans a2) a3 _ fun v2 I3 H3 b1 b2 b3 nw2 k2 => by
    cases k with
    | @tup l xs _ ka kb =>
      cases k2 with
      | @tup l2 ys _ kc kd =>
        refine ⟨l, l2, xs, ys, rfl, rfl, SqT.of (b2 _ _ (a3 _ _ ka)), SqT.of (b3 _ _ kc), by rw [kb.length, kd.length]; exact sz_of hz, fun z => ?_, fun z1 z2 => ?_, fun z1 z2 p hp => ?_⟩
        · subst z
          have : ds = [] := List.length_eq_zero_iff.mp kb.length.symm
          subst this
          exact q _ I3 _ (a1.trans b1) (a2.trans b2) b3 (nw.trans nw2 a2) (.tup kc kd)
        · subst z2
          have : es = [] := List.length_eq_zero_iff.mp kd.length.symm
          subst this
          rw [List.append_nil] at q
          exact q _ I3 _ (a1.trans b1) (a2.trans b2) b3 (nw.trans nw2 a2) (.tup (b1 _ _ ka) (kb.mono b1))
        · have fr := b3.free hp
          exact q _ (upd I3 p (.tup (xs ++ ys))) _ ((a1.trans b1).trans (Ex.new fr)) ((a2.trans b2).trans (Ex.new hp)) b3.both ((nw.trans nw2 a2).lay (a2.trans b2) hp) (.tup upd_same (((kb.mono b1).append kd).mono (Ex.new fr)))
/-- xs[::-1] -/
theorem ed_revL {ds : List PyData} (h : Ed te σ H I (.list ds)) : Ed (tRevL K te) σ H I (.list ds.reverse) := fun H1 e b Q q =>
  h H1 e b _ fun v I2 H2 a1 a2 a3 nw k => by
    cases k with
    | @lst l xs _ ka kb => exact ⟨l, xs, rfl, SqL.of (a3 _ _ ka), fun p hp => q _ (upd I2 p (.lst xs.reverse)) _ (a1.trans (Ex.new (a3.free hp))) (a2.trans (Ex.new hp)) a3.both (nw.lay a2 hp) (.lst upd_same (kb.reverse.mono (Ex.new (a3.free hp))))⟩
def rListOf (K : PySem.W.Frag) : List V → Hp → VK → Prop := fun xs H Q => ∃ p ys, xs = [.ref p] ∧ (SqL K H p ys ∨ SqT K H p ys) ∧ ∀ l, H l = none → Q (.ref l) (upd H l (.lst ys))
def rTupOf (K : PySem.W.Frag) : List V → Hp → VK → Prop := fun xs H Q => ∃ p ys, xs = [.ref p] ∧ ((SqL K H p ys ∧ ∀ l, H l = none → Q (.ref l) (upd H l (.tup ys))) ∨ (SqT K H p ys ∧ Q (.ref p) H))
/-- list(xs) -/
theorem ed_listL {ds : List PyData} (h : Ed te σ H I (.list ds)) : Ed (tCB (rListOf K) (tCons te tNil)) σ H I (.list ds) := fun H1 e b Q q =>
  h H1 e b _ fun v I2 H2 a1 a2 a3 nw k => by
    cases k with
    | @lst l xs _ ka kb => exact ⟨l, xs, rfl, .inl (SqL.of (a3 _ _ ka)), fun p hp => q _ (upd I2 p (.lst xs)) _ (a1.trans (Ex.new (a3.free hp))) (a2.trans (Ex.new hp)) a3.both (nw.lay a2 hp) (.lst upd_same (kb.mono (Ex.new (a3.free hp))))⟩
theorem ed_listT {ds : List PyData} (h : Ed te σ H I (.tuple ds)) : Ed (tCB (rListOf K) (tCons te tNil)) σ H I (.list ds) := fun H1 e b Q q =>
  h H1 e b _ fun v I2 H2 a1 a2 a3 nw k => by
    cases k with
    | @tup l xs _ ka kb => exact ⟨l, xs, rfl, .inr (SqT.of (a3 _ _ ka)), fun p hp => q _ (upd I2 p (.lst xs)) _ (a1.trans (Ex.new (a3.free hp))) (a2.trans (Ex.new hp)) a3.both (nw.lay a2 hp) (.lst upd_same (kb.mono (Ex.new (a3.free hp))))⟩
/-- tuple(xs) -/
theorem ed_tupL {ds : List PyData} (h : Ed te σ H I (.list ds)) : Ed (tCB (rTupOf K) (tCons te tNil)) σ H I (.tuple ds) := fun H1 e b Q q =>
  h H1 e b _ fun v I2 H2 a1 a2 a3 nw k => by
    cases k with
    | @lst l xs _ ka kb => exact ⟨l, xs, rfl, .inl ⟨SqL.of (a3 _ _ ka), fun p hp => q _ (upd I2 p (.tup xs)) _ (a1.trans (Ex.new (a3.free hp))) (a2.trans (Ex.new hp)) a3.both (nw.lay a2 hp) (.tup upd_same (kb.mono (Ex.new (a3.free hp))))⟩⟩
/-- a slice of a tuple -/
theorem ed_slT {tl th : TO} {ds : List PyData} {lo hi : Option Int} (h : Ed te σ H I (.tuple ds)) (h1 : Eo tl σ H lo) (h2 : Eo th σ H hi) : Ed (tSl (rSlA K) te tl th) σ H I (.tuple (cutD ds lo hi)) := fun H1 e b Q q =>
  h H1 e b _ fun v I2 H2 a1 a2 a3 n k => h1 H2 (e.trans a2) _ fun H3 e3 => h2 H3 ((e.trans a2).trans e3) _ fun H4 e4 => by
    cases k with
    | @tup a xs _ ka kb =>
      have e5 : Ex H2 H4 := e3.trans e4
      refine ⟨a, xs, rfl, SqT.of (e5 _ _ (a3 _ _ ka)), fun hz => ?_, fun hz p hp => ?_⟩
      · have ec : cutD ds lo hi = ds := by
          unfold cutD
          have hl := kb.length
          rw [← hl, hz.1, hz.2, List.drop_zero, hl, Nat.sub_zero, List.take_length]
        rw [ec] at q
        exact q _ I2 H4 a1 (a2.trans e5) (a3.trans e5) n (.tup ka kb)
      · exact q (.ref p) (upd I2 p (.tup (cutV xs lo hi))) (upd H4 p (.tup (cutV xs lo hi))) (a1.trans (Ex.new ((a3.trans e5).free hp))) ((a2.trans e5).trans (Ex.new hp)) (a3.trans e5).both (n.lay (a2.trans e5) hp) (.tup upd_same (kb.cut.mono (Ex.new ((a3.trans e5).free hp))))
end
end KD
namespace K84
open PySem PySem.Spec PyProof.Rows L2 KD
local macro_rules
  | `(tactic| walk_at "ed") => `(tactic| first
    | with_reducible assumption
    | with_reducible exact Ex.refl _
    | (with_reducible apply Go.o; with_reducible assumption)
    | with_reducible exact ed_int
    | with_reducible exact ed_bl
    | with_reducible exact ed_str
    | with_reducible exact ed_non
    | ((with_reducible apply ed_var) <;> (first | (exact rfl) | exact Is.int _ | exact Is.bl _ | exact Is.str _ | exact Is.non | with_reducible assumption))
    | ((with_reducible apply ad_add) <;> walk_at "ed")
    | ((with_reducible apply ad_sub) <;> walk_at "ed")
    | ((with_reducible apply ad_lt) <;> walk_at "ed")
    | ((with_reducible apply ad_le) <;> walk_at "ed")
    | ((with_reducible apply ad_gt) <;> walk_at "ed")
    | ((with_reducible apply ad_ge) <;> walk_at "ed")
    | ((with_reducible apply ad_eqI) <;> walk_at "ed")
    | ((with_reducible apply ad_neI) <;> walk_at "ed")
    | ((with_reducible apply ad_eqS) <;> walk_at "ed")
    | ((with_reducible apply ad_neS) <;> walk_at "ed")
    | ((with_reducible apply ad_notV) <;> walk_at "ed")
    | ((with_reducible apply ad_neg) <;> walk_at "ed")
    | ((with_reducible apply ad_lenL) <;> walk_at "ed")
    | ((with_reducible refine ad_tup ?_ ?_) <;> (first | walk_at "ed" | (simp only [List.length_cons, List.length_nil]; decide)))
    | ((with_reducible refine ad_lst ?_ ?_) <;> (first | walk_at "ed" | (simp only [List.length_cons, List.length_nil]; decide)))
    | ((with_reducible apply ea_cons) <;> walk_at "ed")
    | with_reducible exact ea_nil)

section
variable {P : Program} {w : World} {K : PySem.W.Frag} {mg : Str → Option Value} {base : Heap} {C : Addr}
def onesL (n : Nat) : List Int := List.replicate n 1
abbrev N_walk_of : List Str := ["costs", "c", "value"]
theorem sc_walk_of : FnScope N_walk_of ["costs", "c", "value"] (defScope s_walk_of) := ⟨rfl, rfl, rfl, by decide +kernel, rfl, by decide +kernel, by decide +kernel⟩
abbrev sp_walk_of (C : Addr) : Sp := fun vs H Q _ => ∃ I ns c v, Ex I H ∧ IsAll I vs [.list (List.map PyData.int ns), .int c, valD v] ∧ valOk v ∧ GoodCosts ns ∧ WRes C (onesL ns.length) I H (pWalk (onesL ns.length) c W4 v) Q
abbrev CWO (P : Program) (w : World) (K : PySem.W.Frag) (mg : Str → Option Value) (base : Heap) (C : Addr) : Prop := Cal P w K mg base 5 "walk_of" ["costs", "c", "value"] s_walk_of (sp_walk_of C)
theorem ok_walk_of (T : Txt K mg C) (F : Fn K mg "walk_of" s_walk_of) (c_are_commands : Cal P w K mg base 4 "are_commands" ["value", "c", "words"] s_are_commands sp_are_commands) (c_walked : Cal P w K mg base 3 "walked" ["kinds", "commands"] s_walked (sp_walked C)) : CWO P w K mg base C := by
  refine cal_mk F sc_walk_of (fun _ _ _ _ _ _ us hl => match us, hl with | [_, _, _], _ => rfl) (fun vs H Q E h => ?_) (fun f cdv A outer s H vs Q E hr h => ?_)
  · obtain ⟨I, ks, c, v, _, k, _⟩ := h
    exact k.length
  obtain ⟨I, ns, c, v, e, k, hv, ⟨z1, z2, _⟩, q⟩ := h
  obtain ⟨v1, v2, v3, rfl, k1, k2, k3⟩ := isAll3 k
  cases k2
  refine ⟨_, (pss_cons (ps_if (pt_not (pt_val (pe_cal c_are_commands hr (by first | decide | exact Nat.le_refl _) rfl (pa_cons (pv 2) (pa_cons (pv 1) (pa_cons (pe_tup (pa_cons (pe_gk T.k_KEEP rfl) (pa_cons (pe_gk T.k_TAKE rfl) (pa_cons (pe_gk T.k_RUN rfl) (pa_cons (pe_gk T.k_TURN rfl) pa_nil))))) pa_nil)))))) (pss_one (ps_ret pe_non)) pss_nil) (pss_one (ps_ret (pe_cal c_walked hr (by first | decide | exact Nat.le_refl _) rfl (pa_cons (pe_op op_rep (pe_lst (pa_cons pe_int pa_nil)) (pe_callB call_len_seq (by rfl) T.b_len (by decide +kernel) (pa_cons (pv 0) pa_nil))) (pa_cons (pv 2) pa_nil)))))), ?_⟩
  refine q_when (Go.refl e) (et_not (et_test (J := I) (ed_callB (J := I) (v, c, W4) (by rfl) hv (ea_cons (ed_var rfl k3) (ea_cons (by walk_at "ed") (ea_cons (show Ed _ _ _ _ (.tuple [.str "keep", .str "take", .str "run", .str "turn"]) by walk_at "ed") ea_nil))) e) e)) (fun hb H1 g1 e1 => ?_) fun hb H1 g1 e1 => ?_
  · have hb : (!valGood c W4 v) = true := hb
    refine q.none ?_ g1.h
    unfold pWalk
    rw [if_neg (by simpa using hb)]
  · have hb : (!valGood c W4 v) = false := hb
    refine walked_ret (r := none) g1 (by simpa using hb) (ea_cons ?_ (ea_cons (ed_var rfl k3) ea_nil)) q
    have hb2 : Ed (tCB (rLenSq K) (tCons (tVar 0) tNil)) (start N_walk_of [v1, .int c, v3]) H1 I (.int (ns.map PyData.int).length) := ed_lenL (ed_var rfl k1) g1.o
    refine Ed.is (ed_rep1 (d := .int 1) (by walk_at "ed") hb2 g1.o (by rw [List.length_map]; omega)) ?_
    show PyData.list _ = PyData.list ((List.replicate ns.length (1 : Int)).map PyData.int)
    rw [List.map_replicate, List.length_map]
    rfl
abbrev N_is_schedule : List Str := ["costs", "c", "value"]
theorem sc_is_schedule : FnScope N_is_schedule ["costs", "c", "value"] (defScope s_is_schedule) := ⟨rfl, rfl, rfl, by decide +kernel, rfl, by decide +kernel, by decide +kernel⟩
abbrev sp_is_schedule : Sp := spOf (fun a : List Int × Int × Val => [.list (a.1.map PyData.int), .int a.2.1, valD a.2.2]) (fun a => GoodCosts a.1 ∧ (1 ≤ a.2.1 ∧ a.2.1 ≤ 40) ∧ valOk a.2.2) fun a => .bool (pWalk (onesL a.1.length) a.2.1 W4 a.2.2).isSome
theorem ok_is_schedule (T : Txt K mg C) (F : Fn K mg "is_schedule" s_is_schedule) (c_check_costs : Cal P w K mg base 4 "check_costs" ["costs"] s_check_costs sp_check_costs) (c_check_slots : Cal P w K mg base 3 "check_slots" ["c"] s_check_slots sp_check_slots) (c_walk_of : CWO P w K mg base C) : Cal P w K mg base 6 "is_schedule" ["costs", "c", "value"] s_is_schedule sp_is_schedule := by
  refine cal_mk F sc_is_schedule (fun _ _ _ _ _ _ us hl => match us, hl with | [_, _, _], _ => rfl) (fun vs H Q E h => spOf_len (n := 3) (fun _ => rfl) h) (fun f cdv A outer s H vs Q E hr h => ?_)
  obtain ⟨⟨ks, c, v⟩, I, e, k, ⟨h1, h2, h3⟩, q⟩ := spOf_out h
  dsimp only at k h1 h2 h3 q
  obtain ⟨v1, v2, v3, rfl, k1, k2, k3⟩ := isAll3 k
  cases k2
  refine ⟨_, (pss_cons (ps_expr (pe_cal c_check_costs hr (by first | decide | exact Nat.le_refl _) rfl (pa_cons (pv 0) pa_nil))) (pss_cons (ps_expr (pe_cal c_check_slots hr (by first | decide | exact Nat.le_refl _) rfl (pa_cons (pv 1) pa_nil))) (pss_one (ps_ret (pe_cmpR op_notN (pe_cal c_walk_of hr (by first | decide | exact Nat.le_refl _) rfl (pa_cons (pv 0) (pa_cons (pv 1) (pa_cons (pv 2) pa_nil)))) pe_non (nomark _)))))), ?_⟩
  refine q_drop (Go.refl e) (ed_callD (I := I) ks h1 (ea_cons (ed_var rfl k1) ea_nil)) fun H1 g1 e1 => ?_
  refine q_drop g1 (ed_callD (I := I) c h2 (by walk_at "ed")) fun H2 g2 e2 => ?_
  refine g_ret q g2 (ed_notNon (C := C) (ks := onesL ks.length) g2.o (ea_cons (ed_var rfl k1) (ea_cons (by walk_at "ed") (ea_cons (ed_var rfl k3) ea_nil))) fun vs I3 H3 Q3 g3 kv hr => ⟨I3, ks, c, v, g3.o, by rw [List.append_nil]; exact kv, h3, h1, hr⟩)
abbrev N_schedule_cost : List Str := ["costs", "c", "schedule", "walk", "first", "end"]
theorem sc_schedule_cost : FnScope N_schedule_cost ["costs", "c", "schedule"] (defScope s_schedule_cost) := ⟨rfl, rfl, rfl, by decide +kernel, rfl, by decide +kernel, by decide +kernel⟩
abbrev sp_schedule_cost : Sp := spOf (fun a : List Int × Int × Val => [.list (a.1.map PyData.int), .int a.2.1, valD a.2.2]) (fun a => GoodCosts a.1 ∧ (1 ≤ a.2.1 ∧ a.2.1 ≤ 40) ∧ valOk a.2.2 ∧ (pWalk (onesL a.1.length) a.2.1 W4 a.2.2).isSome = true) fun a => .int ((pWalk (onesL a.1.length) a.2.1 W4 a.2.2).elim 0 fun s => runSum a.1 s.runs)
theorem ed_runs2 {ks cs : List Int} {I H : Hp} {A : WA} {s : Wst} {n : Nat} {σ : L2.St} {H0 : Hp} {i j j2 : Nat} (T : Txt K mg C) (W : Wk C H0 I H A ks s n) (e : Ex I H) (hn : n ≤ 90000) (hv : Ev (tVar i) σ H (.ref A.p)) (hk : ∀ (x y : V) I2, Ex I I2 → ∀ H2, Ed (tVar 0) (((wipe σ [j, j2]).set j (some x)).set j2 (some y)) H2 I2 (.list (cs.map PyData.int)))
    (hw : ∀ x y, wipe (((wipe σ [j, j2]).set j (some x)).set j2 (some y)) [j, j2] = wipe σ [j, j2]) (hx : ∀ x y, (((wipe σ [j, j2]).set j (some x)).set j2 (some y))[j]? = some (some x) ∧ (((wipe σ [j, j2]).set j (some x)).set j2 (some y))[j2]? = some (some y)) :
    Ed (tCB (rSum K) (tCons (tLc (iList K (tFld K (tVar i) "runs")) (gTup K 2 (gCons (gName j) (gCons (gName j2) gNil))) tYes (tCB (rSum K) (tCons (tSl (rSlL K) (tVar 0) (tPart (tVar j)) (tPart (tVar j2))) tNil)) [j, j2]) tNil)) σ H I (.int (runSum cs s.runs)) := by
  obtain ⟨rs, h1, h2, h3⟩ := W.r
  have e2 : Ex (upd I A.rl (.lst rs)) H := e.lay h1
  have ei : Ex I (upd I A.rl (.lst rs)) := Ex.new W.ir
  have hl : Ed (tFld K (tVar i) "runs") σ H (upd I A.rl (.lst rs)) (.list (s.runs.map runD)) := (w_runs W T hv).ed (.lst upd_same (h2.mono ei))
  have hlen : s.runs.length ≤ 90000 := by
    have := h2.length
    rw [List.length_map] at this
    omega
  refine ed_sum (J := upd I A.rl (.lst rs)) (ns := s.runs.map fun r => (cutA cs (some r.1) (some r.2)).sum) (Ed.is (ed_lcP s.runs (fun r => .int r.1) (fun r => .int r.2) (fun r => .int (cutA cs (some r.1) (some r.2)).sum) hl hlen hw fun m a x y I' H' _ a1 a2 a3 k1 k2 => ?_) (by rw [List.map_map]; rfl)) e2
  have hx' := hx x y
  refine ed_sum (J := I') ?_ a2
  rw [← cutD_map]
  cases k1
  cases k2
  exact ed_sl (hk _ _ _ (ei.trans a1) _) (eo_some (J := I') (ed_var hx'.1 (.int _)) a2) (eo_some (J := I') (ed_var hx'.2 (.int _)) a2)
theorem ok_schedule_cost (T : Txt K mg C) (F : Fn K mg "schedule_cost" s_schedule_cost) (c_check_costs : Cal P w K mg base 4 "check_costs" ["costs"] s_check_costs sp_check_costs) (c_check_slots : Cal P w K mg base 3 "check_slots" ["c"] s_check_slots sp_check_slots) (c_walk_of : CWO P w K mg base C) : Cal P w K mg base 6 "schedule_cost" ["costs", "c", "schedule"] s_schedule_cost sp_schedule_cost := by
  refine cal_mk F sc_schedule_cost (fun _ _ _ _ _ _ us hl => match us, hl with | [_, _, _], _ => rfl) (fun vs H Q E h => spOf_len (n := 3) (fun _ => rfl) h) (fun f cdv A outer s H vs Q E hr h => ?_)
  obtain ⟨⟨ks, c, v⟩, I, e, k, ⟨h1, h2, h3, h4⟩, q⟩ := spOf_out h
  dsimp only at k h1 h2 h3 h4 q
  obtain ⟨v1, v2, v3, rfl, k1, k2, k3⟩ := isAll3 k
  cases k2
  refine ⟨_, (pss_cons (ps_expr (pe_cal c_check_costs hr (by first | decide | exact Nat.le_refl _) rfl (pa_cons (pv 0) pa_nil))) (pss_cons (ps_expr (pe_cal c_check_slots hr (by first | decide | exact Nat.le_refl _) rfl (pa_cons (pv 1) pa_nil))) (pss_cons (ps_set (i := 3) sc_schedule_cost.nd rfl (Or.inl rfl) (pe_cal c_walk_of hr (by first | decide | exact Nat.le_refl _) rfl (pa_cons (pv 0) (pa_cons (pv 1) (pa_cons (pv 2) pa_nil))))) (pss_cons (ps_if (pt_cmpR op_isN (pv 3) pe_non (nomark _)) (pss_one ps_never) pss_nil) (pss_one (ps_ret (pe_callB (cr_sum rfl) (by rfl) T.b_sum (by decide +kernel) (pa_cons (pe_lc (own := [("first", 4), ("end", 5)]) (by rfl) sc_schedule_cost.nd (pi_list (pe_fld (pv 3) rfl)) (blkOk_by (N := N_schedule_cost) (own := [("first", 4), ("end", 5)]) (sc := defScope s_schedule_cost) (by decide +kernel)) (fun _ _ _ _ _ => (show PG _ _ (gTup K 2 (gCons (gName 4) (gCons (gName 5) gNil))) from (pg_tup (by rfl) (pgs_cons (pg_name (i := 4) sc_schedule_cost.nd rfl (Or.inl rfl)) (pgs_cons (pg_name (i := 5) sc_schedule_cost.nd rfl (Or.inl rfl)) pgs_nil))))) (fun _ _ _ _ _ => pts_nil) (fun _ _ _ _ _ => (pe_callB (show CallR _ _ (rSum K) from (cr_sum rfl)) (by rfl) T.b_sum (by decide +kernel) (pa_cons (pe_slice (show SlR _ (rSlL K) from sl_list) (pv 0) (po_some (pv 4)) (po_some (pv 5))) pa_nil)))) pa_nil)))))))), ?_⟩
  refine q_drop (Go.refl e) (ed_callD (I := I) ks h1 (ea_cons (ed_var rfl k1) ea_nil)) fun H1 g1 e1 => ?_
  refine q_drop g1 (ed_callD (I := I) c h2 (by walk_at "ed")) fun H2 g2 e2 => ?_
  refine q_call g2.o (ea_cons (ed_var rfl k1) (ea_cons (ed_var rfl (.int c)) (ea_cons (ed_var rfl k3) ea_nil))) fun vs I3 H3 gg kv => ?_
  have g3 := g2.trans gg
  obtain ⟨s, hs⟩ := Option.isSome_iff_exists.mp h4
  refine ⟨I3, ks, c, v, gg.o, by rw [List.append_nil]; exact kv, h3, h1, fun z => (by rw [hs] at z; cases z), fun s2 hs2 A I4 H4 n hn g4 W => ?_⟩
  rw [hs] at hs2 q
  cases hs2
  have g5 := g3.trans g4
  refine q_when g5 (b := false) (et_test (J := I4) (b := false) (fun H1 e b Q q => ⟨_, rfl, rfl, q _ I4 H1 (Ex.refl _) (Ex.refl _) b (New.refl _ _) (.bl _)⟩) g5.o) (fun z => by cases z) fun _ H6 g6 e6 => ?_
  exact g_ret q g6 (ed_runs2 T (W.step e6) g6.o hn (ev_var rfl) (fun x y I2 e2 H7 => ed_var rfl (k1.mono (g5.i.trans e2))) (fun _ _ => rfl) fun _ _ => ⟨rfl, rfl⟩)
end
end K84
namespace KD
open PySem PySem.Spec PyProof.Rows L2
def gI (l : List Int) (i : Nat) : Int := (l[i]?).getD 0
def lastI (l : List Int) : Int := l.getLast?.getD 0
theorem atI_g {l : List Int} {k : Int} {i : Nat} (hk : k = i) (hi : i < l.length) : atI (l.map PyData.int) k = some (.int (gI l i)) := by
  subst hk
  unfold atI ixN gI
  rw [if_pos (Int.natCast_nonneg _), if_pos (by rw [List.length_map]; omega)]
  show (l.map PyData.int)[(i : Int).toNat]? = _
  rw [Int.toNat_natCast, List.getElem?_map, List.getElem?_eq_getElem hi]
  rfl
theorem atI_gA {α : Type} {r : α → PyData} {l : List α} {k : Int} {i : Nat} {a : α} (hk : k = i) (hi : l[i]? = some a) : atI (l.map r) k = some (r a) := by
  subst hk
  unfold atI ixN
  have h := (List.getElem?_eq_some_iff.mp hi).1
  rw [if_pos (Int.natCast_nonneg _), if_pos (by rw [List.length_map]; omega)]
  show (l.map r)[(i : Int).toNat]? = _
  rw [Int.toNat_natCast, List.getElem?_map, hi]
  rfl
theorem atI_lastA {α : Type} {r : α → PyData} {l : List α} {a : α} (h : l.getLast? = some a) : atI (l.map r) (-1) = some (r a) := by
  have hp : l.length > 0 := by
    cases l with
    | nil => cases h
    | cons x y => exact Nat.succ_pos _
  unfold atI ixN
  rw [if_neg (by omega), if_pos (by rw [List.length_map]; omega)]
  show (l.map r)[(-1 + ((l.map r).length : Int)).toNat]? = _
  rw [List.length_map, show (-1 + (l.length : Int)).toNat = l.length - 1 by omega, List.getElem?_map, ← List.getLast?_eq_getElem?, h]
  rfl
theorem atI_last {l : List Int} (h : l ≠ []) : atI (l.map PyData.int) (-1) = some (.int (lastI l)) := by
  refine atI_lastA ?_
  unfold lastI
  rw [List.getLast?_eq_getLast h]
  rfl
section
variable {I0 H0 I H I2 H2 J : Hp} {σ : L2.St} {D : Ends} {te ta tb : TE} {d : PyData} {l : Addr} {xs : List V} {Q : VK} {K : PySem.W.Frag} {t : TT} {tu tw tz : TS} {g : TG}
/-- reading one's own list -/
theorem ed_ownIx {ds : List PyData} {i : Nat} {k : Int} (a : Own I H l xs) (b : IsAll I xs ds) (e : Ex I H) (hs : σ[i]? = some (some (.ref l))) (hb : Ed tb σ H I (.int k)) (h : atI ds k = some d) : Ed (tOp (rIxL K) (tVar i) tb) σ H (upd I l (.lst xs)) d := by
  obtain ⟨e2, k2⟩ := a.read b e
  exact ed_ixL (ed_var hs k2) (hb.more (Ex.new a.i)) e2 h
theorem q_appI {i : Nat} {ns : List Int} {n : Int} (g : Go I0 H0 I H) (hs : σ[i]? = some (some (.ref l))) (a : Own I H l (ns.map V.int)) (h0 : H0 l = none) (h : Ev te σ H (.int n)) (hz : ns.length < 100000) (k : ∀ H2, Ex H H2 → Go I0 H0 I (upd H2 l (.lst ((ns ++ [n]).map V.int))) → Own I (upd H2 l (.lst ((ns ++ [n]).map V.int))) l ((ns ++ [n]).map V.int) → tz D σ (upd H2 l (.lst ((ns ++ [n]).map V.int)))) :
    tSeq (tDrop (tBM K "list" rAppend (tVar i) (tCons te tNil))) tz D σ H :=
  ⟨_, hs, Or.inl ⟨rfl, _, SqL.of a.h⟩, h H (Ex.refl _) _ fun H2 e2 => ⟨l, _, _, rfl, rfl, e2 _ _ a.h, sz_lt (by rw [List.length_map]; exact hz), by
    have := k H2 e2 ((g.step e2).mut a.i h0) ⟨a.i, upd_same⟩
    rw [List.map_append] at this
    exact this⟩⟩
theorem g_appI {i : Nat} {ns : List Int} {n : Int} (g : Go I0 H0 I H) (hs : σ[i]? = some (some (.ref l))) (a : Own I H l (ns.map V.int)) (h0 : H0 l = none) (h : Ev te σ H (.int n)) (hz : ns.length < 100000) (k : ∀ H2, Ex H H2 → Go I0 H0 I (upd H2 l (.lst ((ns ++ [n]).map V.int))) → Own I (upd H2 l (.lst ((ns ++ [n]).map V.int))) l ((ns ++ [n]).map V.int) → D.nx σ (upd H2 l (.lst ((ns ++ [n]).map V.int)))) :
    tDrop (tBM K "list" rAppend (tVar i) (tCons te tNil)) D σ H := q_appI (tz := fun D σ H => D.nx σ H) g hs a h0 h hz k
theorem q_tif {b : Bool} (h : Et t σ H b) (h1 : b = true → ∀ H1, Ex H H1 → tSeq (tAsg ta g) tz D σ H1) (h2 : b = false → ∀ H1, Ex H H1 → tSeq (tAsg tb g) tz D σ H1) : tSeq (tAsg (tIf t ta tb) g) tz D σ H := h H (Ex.refl _) _ fun H1 e => by
  cases b with
  | true => exact h1 rfl H1 e
  | false => exact h2 rfl H1 e
end
end KD
namespace K84
open PySem PySem.Spec PyProof.Rows L2 KD
local macro_rules
  | `(tactic| walk_at "ed") => `(tactic| first
    | with_reducible assumption
    | with_reducible exact Ex.refl _
    | (with_reducible apply Go.o; with_reducible assumption)
    | with_reducible exact ed_int
    | with_reducible exact ed_bl
    | with_reducible exact ed_str
    | with_reducible exact ed_non
    | ((with_reducible apply ed_var) <;> (first | (exact rfl) | exact Is.int _ | exact Is.bl _ | exact Is.str _ | exact Is.non | with_reducible assumption))
    | ((with_reducible apply ad_add) <;> walk_at "ed")
    | ((with_reducible apply ad_sub) <;> walk_at "ed")
    | ((with_reducible apply ad_lt) <;> walk_at "ed")
    | ((with_reducible apply ad_le) <;> walk_at "ed")
    | ((with_reducible apply ad_gt) <;> walk_at "ed")
    | ((with_reducible apply ad_ge) <;> walk_at "ed")
    | ((with_reducible apply ad_eqI) <;> walk_at "ed")
    | ((with_reducible apply ad_neI) <;> walk_at "ed")
    | ((with_reducible apply ad_eqS) <;> walk_at "ed")
    | ((with_reducible apply ad_neS) <;> walk_at "ed")
    | ((with_reducible apply ad_notV) <;> walk_at "ed")
    | ((with_reducible apply ad_neg) <;> walk_at "ed")
    | ((with_reducible apply ad_lenL) <;> walk_at "ed")
    | ((with_reducible refine ad_tup ?_ ?_) <;> (first | walk_at "ed" | (simp only [List.length_cons, List.length_nil]; decide)))
    | ((with_reducible refine ad_lst ?_ ?_) <;> (first | walk_at "ed" | (simp only [List.length_cons, List.length_nil]; decide)))
    | ((with_reducible apply ea_cons) <;> walk_at "ed")
    | with_reducible exact ea_nil)

def loneGo : List Int → Int → List Int → List Int
  | [], _, f => f
  | c :: r, a, f => loneGo r (a + c) (f ++ [lastI f + (a + c)])
def loneRow (cs : List Int) (first : Int) : List Int := loneGo (cutA cs (some first) (some (-1))) 0 [0]
def g2 (f : List (List Int)) (i j : Nat) : Int := gI ((f[i]?).getD []) j
theorem range_snoc {α : Type} (f : Nat → α) (i : Nat) : (List.range (i + 1)).map f = (List.range i).map f ++ [f i] := by rw [List.range_succ, List.map_append]; rfl
def splitF (fewer : List (List Int)) (same : List Int) (first many : Nat) (i : Nat) : Int := ((i : Int) + 1) + g2 fewer (first + i + 1) (many - i - 2) + gI same i
def splitC (fewer : List (List Int)) (same : List Int) (first many : Nat) : List Int := (List.range (many - 1)).map (splitF fewer same first many)
def Sh (fewer : List (List Int)) (n : Nat) : Prop := fewer.length = n ∧ ∀ (i : Nat) (r : List Int), fewer[i]? = some r → r.length = n - i
theorem gI_ones {n i : Nat} (h : i < n) : gI (onesL n) i = 1 := by
  unfold gI onesL
  rw [List.getElem?_replicate, if_pos h]
  rfl
theorem map_snoc {α β : Type} (f : α → β) (xs : List α) (x : α) : (xs ++ [x]).map f = xs.map f ++ [f x] := by rw [List.map_append]; rfl
theorem cutA_len {α : Type} (xs : List α) (lo hi : Option Int) : (cutA xs lo hi).length ≤ xs.length := by
  unfold cutA
  rw [List.length_take, List.length_drop]
  omega
section
variable {P : Program} {w : World} {K : PySem.W.Frag} {mg : Str → Option Value} {base : Heap} {C : Addr}
abbrev N_lone_row : List Str := ["costs", "first", "found", "ahead", "cost"]
theorem sc_lone_row : FnScope N_lone_row ["costs", "first"] (defScope s_lone_row) := ⟨rfl, rfl, rfl, by decide +kernel, rfl, by decide +kernel, by decide +kernel⟩
abbrev sp_lone_row : Sp := spOf (fun a : List Int × Int => [kD a.1, .int a.2]) (fun a => a.1.length ≤ 100) fun a => kD (loneRow a.1 a.2)
theorem ok_lone_row (T : Txt K mg C) (F : Fn K mg "lone_row" s_lone_row) : Cal P w K mg base 1 "lone_row" ["costs", "first"] s_lone_row sp_lone_row := by
  refine cal_mk F sc_lone_row (fun _ _ _ _ _ _ us hl => match us, hl with | [_, _], _ => rfl) (fun vs H Q E h => spOf_len (n := 2) (fun _ => rfl) h) (fun f cdv A outer s H vs Q E hr h => ?_)
  obtain ⟨⟨cs, first⟩, I, e, k, hl, q⟩ := spOf_out h
  dsimp only at k hl q
  obtain ⟨v1, v2, rfl, k1, k2⟩ := isAll2 k
  cases k2
  refine ⟨_, (pss_cons (ps_par (i := 2) (j := 3) (by rfl) sc_lone_row.nd rfl rfl (by decide) rfl rfl (pa_cons (pe_lst (pa_cons pe_int pa_nil)) (pa_cons pe_int pa_nil)) (by rfl)) (pss_cons (ps_for PassesOwn.never rfl (pi_list (pe_slice sl_list (pv 0) (po_some (pv 1)) (po_some (pe_un un_neg pe_int)))) (pg_name (i := 4) sc_lone_row.nd rfl (Or.inl rfl)) (pss_cons (ps_set (i := 3) sc_lone_row.nd rfl (Or.inl rfl) (pe_op op_add (pv 3) (pv 4))) (pss_one (ps_expr (pe_bm PySem.F.plainAttrs_list PySem.F.slot_list_append PySem.F.type_list_append mt_append (pv 2) (pa_cons (pe_op op_add (pe_ix ix_list (pv 2) (pe_un un_neg pe_int) (fun _ _ => rfl)) (pv 3)) pa_nil)))))) (pss_one (ps_ret (pv 2))))), ?_⟩
  refine q_parLI (ds := [.int 0]) (Go.refl e) (by walk_at "ed") (by show 1 ≤ 100000; decide) ed_int fun p vs I1 H1 g1 g1' o1 hv hp => ?_
  obtain ⟨v0, rfl, kv⟩ := isAll1 hv
  cases kv
  refine q_forL (I := I1) (ds := (cutA cs (some first) (some (-1))).map PyData.int) ?_ g1.o (fun I2 i σ' H' => ∃ acc x a, σ' = [some v1, some (.int first), some (.ref p), some (.int a), x] ∧ Go I H I2 H' ∧ Own I2 H' p (acc.map V.int) ∧ acc ≠ [] ∧ acc.length = i + 1 ∧ loneGo ((cutA cs (some first) (some (-1))).drop i) a acc = loneRow cs first) ?_ ?_ ?_ ?_
  · rw [← cutD_map]
    exact ed_sl (ed_var rfl (k1.mono g1.i)) (eo_some (J := I1) (ed_var rfl (.int _)) g1.o) (eo_some (J := I1) (by walk_at "ed") g1.o)
  · rintro I2 i σ' H' ⟨acc, x, a, _, g, _⟩
    exact g.o
  · intro I2 H2 g2
    exact ⟨[0], none, 0, rfl, g1.trans g2, o1.go g2, by simp, rfl, rfl⟩
  · rintro I2 i d v σ' H' e2 hd kx ⟨acc, x, a, rfl, g, o, hne, hln, hr⟩
    obtain ⟨c, hc, rfl⟩ := map_get hd
    have hi := (List.getElem?_eq_some_iff.mp hc).1
    have hcl := cutA_len cs (some first) (some (-1))
    cases kx
    have hdr := List.drop_eq_getElem_cons hi
    rw [(List.getElem?_eq_some_iff.mp hc).2] at hdr
    rw [hdr, loneGo] at hr
    refine q_int g (n := a + c) (by walk_at "ed") fun H3 g3 e3 => ?_
    have o3 := o.step e3
    obtain ⟨e4, k4⟩ := o3.read (isAll_ints acc) g3.o
    refine g_appI g3 rfl o3 hp (n := lastI acc + (a + c)) ((ad_add (I := upd I2 p (.lst (acc.map V.int))) (ed_ixL (ed_var rfl k4) (by walk_at "ed") e4 (atI_last hne)) (by walk_at "ed") e4).int e4) (by omega) fun H5 e5 g5 o5 => ?_
    exact ⟨acc ++ [lastI acc + (a + c)], _, _, rfl, g5, o5, by simp, by rw [List.length_append, hln]; rfl, hr⟩
  · rintro I2 σ' H' e2 ⟨acc, x, a, rfl, g, o, hne, hln, hr⟩
    rw [List.length_map, List.drop_length, loneGo] at hr
    subst hr
    exact g_retO q g rfl o (isAll_ints _) hp
abbrev N_split_costs : List Str := ["costs", "fewer", "same", "first", "many", "found", "ahead", "part"]
theorem sc_split_costs : FnScope N_split_costs ["costs", "fewer", "same", "first", "many"] (defScope s_split_costs) := ⟨rfl, rfl, rfl, by decide +kernel, rfl, by decide +kernel, by decide +kernel⟩
abbrev sp_split_costs : Sp := spOf (fun a : Nat × List (List Int) × List Int × Nat × Nat => [kD (onesL a.1), .list (a.2.1.map kD), kD a.2.2.1, .int a.2.2.2.1, .int a.2.2.2.2]) (fun a => a.1 ≤ 100 ∧ Sh a.2.1 a.1 ∧ a.2.2.2.2 ≤ a.2.2.1.length + 1 ∧ a.2.2.2.1 + a.2.2.2.2 ≤ a.1) fun a => kD (splitC a.2.1 a.2.2.1 a.2.2.2.1 a.2.2.2.2)
theorem ok_split_costs (T : Txt K mg C) (F : Fn K mg "split_costs" s_split_costs) : Cal P w K mg base 1 "split_costs" ["costs", "fewer", "same", "first", "many"] s_split_costs sp_split_costs := by
  refine cal_mk F sc_split_costs (fun _ _ _ _ _ _ us hl => match us, hl with | [_, _, _, _, _], _ => rfl) (fun vs H Q E h => spOf_len (n := 5) (fun _ => rfl) h) (fun f cdv A outer s H vs Q E hr h => ?_)
  obtain ⟨⟨n, fewer, same, first, many⟩, I, e, k, ⟨h0, ⟨h1, h2⟩, h3, h4⟩, q⟩ := spOf_out h
  dsimp only at k h0 h1 h2 h3 h4 q
  obtain ⟨v1, v2, v3, v4, v5, rfl, k1, k2, k3, k4, k5⟩ := isAll5 k
  cases k4
  cases k5
  refine ⟨_, (pss_cons (ps_par (i := 5) (j := 6) (by rfl) sc_split_costs.nd rfl rfl (by decide) rfl rfl (pa_cons (pe_lst pa_nil) (pa_cons pe_int pa_nil)) (by rfl)) (pss_cons (ps_for PassesOwn.never rfl (pi_range2 (by rfl) T.b_range (pa_cons pe_int (pa_cons (pv 4) pa_nil))) (pg_name (i := 7) sc_split_costs.nd rfl (Or.inl rfl)) (pss_cons (ps_set (i := 6) sc_split_costs.nd rfl (Or.inl rfl) (pe_op op_add (pv 6) (pe_ix ix_list (pv 0) (pe_op op_sub (pe_op op_add (pv 3) (pv 7)) pe_int) (fun _ _ => rfl)))) (pss_one (ps_expr (pe_bm PySem.F.plainAttrs_list PySem.F.slot_list_append PySem.F.type_list_append mt_append (pv 5) (pa_cons (pe_op op_add (pe_op op_add (pv 6) (pe_ix ix_list (pe_ix ix_list (pv 1) (pe_op op_add (pv 3) (pv 7)) (fun _ _ => rfl)) (pe_op op_sub (pe_op op_sub (pv 4) (pv 7)) pe_int) (fun _ _ => rfl))) (pe_ix ix_list (pv 2) (pe_op op_sub (pv 7) pe_int) (fun _ _ => rfl))) pa_nil)))))) (pss_one (ps_ret (pv 5))))), ?_⟩
  refine q_parLI (ds := []) (Go.refl e) ea_nil (by show 0 ≤ 100000; decide) ed_int fun p vs I1 H1 g1 g1' o1 hv hp => ?_
  cases hv
  refine q_forR2 (J := I1) (lo := 1) (n := many) (by walk_at "ed") g1.o (by omega) (fun i σ' H' => ∃ x, σ' = [some v1, some v2, some v3, some (.int first), some (.int many), some (.ref p), some (.int i), x] ∧ Go I H I1 H' ∧ Own I1 H' p ((((List.range i).map (splitF fewer same first many))).map V.int)) ?_ ?_ ?_
  · intro H2 e2
    exact ⟨none, rfl, g1.step e2, o1.step e2⟩
  · rintro i σ' H' hi ⟨x, rfl, g, o⟩
    have hi : i + 1 < many := by omega
    have k1' := k1.mono g.i
    have k2' := k2.mono g.i
    have k3' := k3.mono g.i
    have hget : ∃ r, fewer[first + i + 1]? = some r := ⟨_, List.getElem?_eq_getElem (by omega)⟩
    obtain ⟨r, hr⟩ := hget
    have hrl := h2 _ _ hr
    refine q_int g (n := (i : Int) + 1) (Ed.is (ad_add (j := gI (onesL n) (first + i)) (by walk_at "ed") (ed_ixL (ed_var rfl k1') (by walk_at "ed") g.o (atI_g (i := first + i) (by omega) (by unfold onesL; rw [List.length_replicate]; omega))) g.o) (by rw [gI_ones (by omega)])) fun H3 g3 e3 => ?_
    have hg2 : g2 fewer (first + i + 1) (many - i - 2) = gI r (many - i - 2) := by
      unfold g2
      rw [hr]
      rfl
    refine g_appI g3 rfl (o.step e3) hp (n := splitF fewer same first many i) ((ad_add (I := I1) (ad_add (by walk_at "ed") (ed_ixL (ed_ixL (ed_var rfl k2') (by walk_at "ed") g3.o (atI_gA (i := first + i + 1) (by omega) hr)) (by walk_at "ed") g3.o (by rw [hg2]; exact atI_g (i := many - i - 2) (by omega) (by omega))) g3.o) (ed_ixL (ed_var rfl k3') (by walk_at "ed") g3.o (atI_g (i := i) (by omega) (by omega))) g3.o).int g3.o) (by rw [List.length_map, List.length_range]; omega) fun H5 e5 g5 o5 => ?_
    refine ⟨_, rfl, g5, ?_⟩
    rw [range_snoc]
    exact o5
  · rintro σ' H' ⟨x, rfl, g, o⟩
    rw [show ((many : Int) - 1).toNat = many - 1 by omega] at o
    exact g_retO q g rfl o (isAll_ints _) hp
end
end K84
namespace K84
open PySem PySem.Spec PyProof.Rows L2 KD
local macro_rules
  | `(tactic| walk_at "ed") => `(tactic| first
    | with_reducible assumption
    | with_reducible exact Ex.refl _
    | (with_reducible apply Go.o; with_reducible assumption)
    | with_reducible exact ed_int
    | with_reducible exact ed_bl
    | with_reducible exact ed_str
    | with_reducible exact ed_non
    | ((with_reducible apply ed_var) <;> (first | (exact rfl) | exact Is.int _ | exact Is.bl _ | exact Is.str _ | exact Is.non | with_reducible assumption))
    | ((with_reducible apply ad_add) <;> walk_at "ed")
    | ((with_reducible apply ad_sub) <;> walk_at "ed")
    | ((with_reducible apply ad_lt) <;> walk_at "ed")
    | ((with_reducible apply ad_le) <;> walk_at "ed")
    | ((with_reducible apply ad_gt) <;> walk_at "ed")
    | ((with_reducible apply ad_ge) <;> walk_at "ed")
    | ((with_reducible apply ad_eqI) <;> walk_at "ed")
    | ((with_reducible apply ad_neI) <;> walk_at "ed")
    | ((with_reducible apply ad_eqS) <;> walk_at "ed")
    | ((with_reducible apply ad_neS) <;> walk_at "ed")
    | ((with_reducible apply ad_notV) <;> walk_at "ed")
    | ((with_reducible apply ad_neg) <;> walk_at "ed")
    | ((with_reducible apply ad_lenL) <;> walk_at "ed")
    | ((with_reducible refine ad_tup ?_ ?_) <;> (first | walk_at "ed" | (simp only [List.length_cons, List.length_nil]; decide)))
    | ((with_reducible refine ad_lst ?_ ?_) <;> (first | walk_at "ed" | (simp only [List.length_cons, List.length_nil]; decide)))
    | ((with_reducible apply ea_cons) <;> walk_at "ed")
    | with_reducible exact ea_nil)

def minL : List Int → Int
  | [] => 0
  | x :: r => r.foldl (fun a b => if b < a then b else a) x
theorem fold_min : ∀ (r : List Int) (x : Int), (r.foldl (fun a b => if b < a then b else a) x ∈ x :: r) ∧ (∀ y ∈ x :: r, r.foldl (fun a b => if b < a then b else a) x ≤ y)
  | [], x => ⟨List.mem_singleton.mpr rfl, fun y hy => by rw [List.mem_singleton] at hy; subst hy; exact Int.le_refl _⟩
  | b :: r, x => by
    obtain ⟨h1, h2⟩ := fold_min r (if b < x then b else x)
    show (r.foldl _ (if b < x then b else x) ∈ _) ∧ ∀ y ∈ _, r.foldl _ (if b < x then b else x) ≤ y
    have hle : (if b < x then b else x) ≤ b ∧ (if b < x then b else x) ≤ x := by split <;> omega
    refine ⟨?_, fun y hy => ?_⟩
    · rcases List.mem_cons.mp h1 with z | z
      · rw [z]
        split
        · simp
        · simp
      · exact List.mem_cons_of_mem _ (List.mem_cons_of_mem _ z)
    · have h0 := h2 _ (List.mem_cons_self ..)
      rcases List.mem_cons.mp hy with z | z
      · subst z
        omega
      · rcases List.mem_cons.mp z with z | z
        · subst z
          omega
        · exact h2 y (List.mem_cons_of_mem _ z)
theorem minL_mem {l : List Int} (h : l ≠ []) : minL l ∈ l := by
  cases l with
  | nil => exact absurd rfl h
  | cons x r => exact (fold_min r x).1
theorem minL_le {l : List Int} : ∀ y ∈ l, minL l ≤ y := by
  cases l with
  | nil => intro y hy; cases hy
  | cons x r => exact (fold_min r x).2
def rowF (fewer : List (List Int)) (first : Nat) : Nat → List Int
  | 0 => [0]
  | k + 1 => rowF fewer first k ++ [minL (splitC fewer (rowF fewer first k) first (k + 2))]
theorem rowF_len (fewer : List (List Int)) (first : Nat) : ∀ k, (rowF fewer first k).length = k + 1
  | 0 => rfl
  | k + 1 => by rw [rowF, List.length_append, rowF_len fewer first k]; rfl
def rowsF (fewer : List (List Int)) (n : Nat) : List (List Int) := (List.range n).map fun first => rowF fewer first (n - first - 1)
def lastL (t : List (List (List Int))) : List (List Int) := t.getLast?.getD []
def tabF (n : Nat) : Nat → List (List (List Int))
  | 0 => [(List.range n).map fun (first : Nat) => loneRow (onesL n) first]
  | k + 1 => tabF n k ++ [rowsF (lastL (tabF n k)) n]
theorem tabF_len (n : Nat) : ∀ k, (tabF n k).length = k + 1
  | 0 => rfl
  | k + 1 => by rw [tabF, List.length_append, tabF_len n k]; rfl
theorem loneGo_len : ∀ (cs : List Int) (a : Int) (f : List Int), (loneGo cs a f).length = f.length + cs.length
  | [], _, _ => rfl
  | c :: r, a, f => by rw [loneGo, loneGo_len r, List.length_append]; simp; omega
theorem loneRow_len {n first : Nat} (h : first < n) : (loneRow (onesL n) first).length = n - first := by
  unfold loneRow
  rw [loneGo_len]
  unfold cutA onesL
  rw [List.length_take, List.length_drop, List.length_replicate, HT.sIx_nat]
  show 1 + min ((if (-1 : Int) < 0 then ((-1 : Int) + (n : Int)).toNat else min (-1 : Int).toNat n) - min first n) (n - min first n) = n - first
  rw [if_pos (by decide)]
  omega
theorem sh_last (n : Nat) : ∀ k, Sh (lastL (tabF n k)) n
  | 0 => by
    refine ⟨?_, fun i r h => ?_⟩
    · show ((List.range n).map _).length = n
      rw [List.length_map, List.length_range]
    · have h : ((List.range n).map fun (first : Nat) => loneRow (onesL n) first)[i]? = some r := h
      obtain ⟨a, ha, rfl⟩ := map_get h
      have hi := (List.getElem?_eq_some_iff.mp ha).1
      rw [List.length_range] at hi
      rw [List.getElem?_range hi] at ha
      cases ha
      exact loneRow_len hi
  | k + 1 => by
    have e : lastL (tabF n (k + 1)) = rowsF (lastL (tabF n k)) n := by
      unfold lastL
      rw [tabF, List.getLast?_append]
      rfl
    rw [e]
    refine ⟨by unfold rowsF; rw [List.length_map, List.length_range], fun i r h => ?_⟩
    obtain ⟨a, ha, rfl⟩ := map_get h
    have hi := (List.getElem?_eq_some_iff.mp ha).1
    rw [List.length_range] at hi
    rw [List.getElem?_range hi] at ha
    cases ha
    rw [rowF_len]
    omega
theorem last_tab (n k : Nat) : (tabF n k).getLast? = some (lastL (tabF n k)) := by
  have h : tabF n k ≠ [] := by
    intro z
    have := tabF_len n k
    rw [z] at this
    cases this
  unfold lastL
  rw [List.getLast?_eq_getLast h]
  rfl
abbrev rD (rows : List (List Int)) : PyData := .list (rows.map kD)
theorem kd_own {I H : Hp} {l p : Addr} {xs ys : List V} (a : Own I H l xs) (h : l ≠ p) : Own (upd I p (.lst ys)) H l xs := ⟨by rw [upd_ne h]; exact a.i, a.h⟩
section
variable {P : Program} {w : World} {K : PySem.W.Frag} {mg : Str → Option Value} {base : Heap} {C : Addr}
abbrev N_table_of : List Str := ["costs", "c", "rounds", "first", "found", "_", "rows", "row", "many"]
theorem sc_table_of : FnScope N_table_of ["costs", "c"] (defScope s_table_of) := ⟨rfl, rfl, rfl, by decide +kernel, rfl, by decide +kernel, by decide +kernel⟩
abbrev sp_table_of : Sp := spOf (fun a : Nat × Nat => [kD (onesL a.1), .int a.2]) (fun a => 1 ≤ a.1 ∧ a.1 ≤ 100 ∧ 1 ≤ a.2 ∧ a.2 ≤ 100) fun a => .list ((tabF a.1 (a.2 - 1)).map rD)
theorem ok_table_of (T : Txt K mg C) (F : Fn K mg "table_of" s_table_of) (c_lone_row : Cal P w K mg base 1 "lone_row" ["costs", "first"] s_lone_row sp_lone_row) (c_split_costs : Cal P w K mg base 1 "split_costs" ["costs", "fewer", "same", "first", "many"] s_split_costs sp_split_costs) : Cal P w K mg base 2 "table_of" ["costs", "c"] s_table_of sp_table_of := by
  refine cal_mk F sc_table_of (fun _ _ _ _ _ _ us hl => match us, hl with | [_, _], _ => rfl) (fun vs H Q E h => spOf_len (n := 2) (fun _ => rfl) h) (fun f cdv A outer s H vs Q E hr h => ?_)
  obtain ⟨⟨n, c⟩, I, e, k, ⟨h1, h2, h3, h4⟩, q⟩ := spOf_out h
  dsimp only at k h1 h2 h3 h4 q
  obtain ⟨v1, v2, rfl, k1, k2⟩ := isAll2 k
  cases k2
  refine ⟨_, (pss_cons (ps_set (i := 2) sc_table_of.nd rfl (Or.inl rfl) (pe_callB call_len_seq (by rfl) T.b_len (by decide +kernel) (pa_cons (pv 0) pa_nil))) (pss_cons (ps_set (i := 4) sc_table_of.nd rfl (Or.inl rfl) (pe_lst (pa_cons (pe_lc (own := [("first", 3)]) (by rfl) sc_table_of.nd (pi_range1 (by rfl) T.b_range (pa_cons (pv 2) pa_nil)) (blkOk_by (N := N_table_of) (own := [("first", 3)]) (sc := defScope s_table_of) (by decide +kernel)) (fun _ _ _ _ _ => (pg_name (i := 3) sc_table_of.nd rfl (Or.inl rfl))) (fun _ _ _ _ _ => pts_nil) (fun _ _ _ _ _ => (pe_cal c_lone_row hr (by first | decide | exact Nat.le_refl _) rfl (pa_cons (pv 0) (pa_cons (pv 3) pa_nil))))) pa_nil))) (pss_cons (ps_for PassesOwn.never rfl (pi_range1 (by rfl) T.b_range (pa_cons (pe_op op_sub (pv 1) pe_int) pa_nil)) (pg_name (i := 5) sc_table_of.nd rfl (Or.inl rfl)) (pss_cons (ps_set (i := 6) sc_table_of.nd rfl (Or.inl rfl) (pe_lst pa_nil)) (pss_cons (ps_for PassesOwn.never rfl (pi_range1 (by rfl) T.b_range (pa_cons (pv 2) pa_nil)) (pg_name (i := 3) sc_table_of.nd rfl (Or.inl rfl)) (pss_cons (ps_set (i := 7) sc_table_of.nd rfl (Or.inl rfl) (pe_lst (pa_cons pe_int pa_nil))) (pss_cons (ps_for PassesOwn.never rfl (pi_range2 (by rfl) T.b_range (pa_cons pe_int (pa_cons (pe_op op_add (pe_op op_sub (pv 2) (pv 3)) pe_int) pa_nil))) (pg_name (i := 8) sc_table_of.nd rfl (Or.inl rfl)) (pss_one (ps_expr (pe_bm PySem.F.plainAttrs_list PySem.F.slot_list_append PySem.F.type_list_append mt_append (pv 7) (pa_cons (pe_callB (cr_min rfl) (by rfl) T.b_min (by decide +kernel) (pa_cons (pe_cal c_split_costs hr (by first | decide | exact Nat.le_refl _) rfl (pa_cons (pv 0) (pa_cons (pe_ix ix_list (pv 4) (pe_un un_neg pe_int) (fun _ _ => rfl)) (pa_cons (pv 7) (pa_cons (pv 3) (pa_cons (pv 8) pa_nil)))))) pa_nil)) pa_nil))))) (pss_one (ps_expr (pe_bm PySem.F.plainAttrs_list PySem.F.slot_list_append PySem.F.type_list_append mt_append (pv 6) (pa_cons (pv 7) pa_nil))))))) (pss_one (ps_expr (pe_bm PySem.F.plainAttrs_list PySem.F.slot_list_append PySem.F.type_list_append mt_append (pv 4) (pa_cons (pv 6) pa_nil))))))) (pss_one (ps_ret (pv 4)))))), ?_⟩
  have hol : (onesL n).length = n := by unfold onesL; rw [List.length_replicate]
  refine q_int (Go.refl e) (n := n) (Ed.is (ed_lenL (ed_var rfl k1) e) (by rw [List.length_map, hol])) fun H1 g1 e1 => ?_
  refine q_new (ds := [rD ((List.range n).map fun (first : Nat) => loneRow (onesL n) first)]) g1 (ea_cons (Ed.is (ed_lcR (J := I) (n := n) (fun i => kD (loneRow (onesL n) i)) (ea_cons (ed_var rfl (.int _)) ea_nil) g1.o (by omega) (fun _ => rfl) fun i I' H' hi a1 a2 a3 => ed_callD (I := I') (onesL n, (i : Int)) (by show (onesL n).length ≤ 100; omega) (ea_cons (ed_var rfl (k1.mono a1)) (by walk_at "ed"))) (by rw [Int.toNat_natCast]; show _ = PyData.list (((List.range n).map _).map kD); rw [List.map_map]; rfl)) ea_nil) (by show 1 ≤ 100000; decide) fun pf vf I2 H2 g2 g2' o2 kf hpf => ?_
  have hpf0 : H pf = none := g1.h.free hpf
  refine q_forR1 (J := I2) (n := (c : Int) - 1) (ea_cons (by walk_at "ed") ea_nil) g2.o (by omega) (fun kk σ' H' => ∃ x3 x5 x6 x7 x8 I3 xsf, σ' = [some v1, some (.int c), some (.int n), x3, some (.ref pf), x5, x6, x7, x8] ∧ Go I H I3 H' ∧ Own I3 H' pf xsf ∧ IsAll I3 xsf ((tabF n kk).map rD)) ?_ ?_ ?_
  · intro H3 e3
    exact ⟨none, none, none, none, none, I2, vf, rfl, g2.step e3, o2.step e3, kf⟩
  · rintro kk σ' H' hkk ⟨x3, x5, x6, x7, x8, I3, xsf, rfl, g, o, kf⟩
    refine q_new (ds := []) g ea_nil (by show 0 ≤ 100000; decide) fun pr vr I4 H4 g4 g4' o4 kr hpr => ?_
    cases kr
    have npr : pf ≠ pr := ne_of_none o.h hpr
    have hpr0 : H pr = none := g.h.free hpr
    have of4 := o.go g4'
    have kf4 := kf.mono g4'.i
    refine q_forR1 (J := I4) (n := n) (ea_cons (by walk_at "ed") ea_nil) g4.o (by omega) (fun i σ' H' => ∃ y3 x7 x8 I5 xsr, σ' = [some v1, some (.int c), some (.int n), y3, some (.ref pf), some (.int kk), some (.ref pr), x7, x8] ∧ Go I H I5 H' ∧ Own I5 H' pf xsf ∧ IsAll I5 xsf ((tabF n kk).map rD) ∧ Own I5 H' pr xsr ∧ IsAll I5 xsr ((List.range i).map fun first => kD (rowF (lastL (tabF n kk)) first (n - first - 1)))) ?_ ?_ ?_
    · intro H5 e5
      exact ⟨x3, x7, x8, I4, [], rfl, g4.step e5, of4.step e5, kf4, o4.step e5, .nil⟩
    · rintro i σ' H' hi ⟨y3, x7, x8, I5, xsr, rfl, g, of5, kf5, or5, kr5⟩
      refine q_new (ds := [.int 0]) g (by walk_at "ed") (by show 1 ≤ 100000; decide) fun pw vw I6 H6 g6 g6' o6 kw hpw => ?_
      obtain ⟨v0, rfl, kv⟩ := isAll1 kw
      cases kv
      have npw : pf ≠ pw := ne_of_none of5.h hpw
      have nrw : pr ≠ pw := ne_of_none or5.h hpw
      have hpw0 : H pw = none := g.h.free hpw
      have of6 := of5.go g6'
      have kf6 := kf5.mono g6'.i
      have or6 := or5.go g6'
      have kr6 := kr5.mono g6'.i
      refine q_forR2 (J := I6) (lo := 2) (n := (n : Int) - (i : Int) + 1) (by walk_at "ed") g6.o (by omega) (fun j σ' H' => ∃ x8, σ' = [some v1, some (.int c), some (.int n), some (.int i), some (.ref pf), some (.int kk), some (.ref pr), some (.ref pw), x8] ∧ Go I H I6 H' ∧ Own I6 H' pf xsf ∧ Own I6 H' pr xsr ∧ Own I6 H' pw ((rowF (lastL (tabF n kk)) i j).map V.int)) ?_ ?_ ?_
      · intro H7 e7
        exact ⟨x8, rfl, g6.step e7, of6.step e7, or6.step e7, o6.step e7⟩
      · rintro j σ' H' hj ⟨x8, rfl, g, of7, or7, ow7⟩
        obtain ⟨e8, kf8⟩ := of7.read kf6 g.o
        have ow8 := kd_own (ys := xsf) ow7 (fun z => npw z.symm)
        obtain ⟨e9, kw9⟩ := ow8.read (isAll_ints (rowF (lastL (tabF n kk)) i j)) e8
        have ei9 := (Ex.new (o := .lst xsf) of7.i).trans (Ex.new (o := .lst ((rowF (lastL (tabF n kk)) i j).map V.int)) ow8.i)
        have hsn : splitC (lastL (tabF n kk)) (rowF (lastL (tabF n kk)) i j) i (j + 2) ≠ [] := by
          unfold splitC
          rw [show j + 2 - 1 = j + 1 by omega, range_snoc]
          simp
        refine g_appI g rfl ow7 hpw0 (n := minL (splitC (lastL (tabF n kk)) (rowF (lastL (tabF n kk)) i j) i (j + 2))) ((ed_min (I := I6) (minL_mem hsn) minL_le (ed_callD (n, lastL (tabF n kk), rowF (lastL (tabF n kk)) i j, i, j + 2) (by exact ⟨by omega, sh_last n kk, by rw [rowF_len]; show j + 2 ≤ j + 1 + 1; omega, by show i + (j + 2) ≤ n; omega⟩) (ea_cons (ed_var rfl (k1.mono (g.i.trans ei9))) (ea_cons (ed_ixL (ed_var rfl (kf8.mono (Ex.new ow8.i))) (by walk_at "ed") e9 (atI_lastA (last_tab n kk))) (ea_cons (ed_var rfl kw9) (ea_cons (by walk_at "ed") (ea_cons (ed_var rfl (by rw [show (2 : Int) + (j : Int) = ((j + 2 : Nat) : Int) by omega]; exact .int _)) ea_nil)))))) e9).int g.o) (by rw [rowF_len]; omega) fun H10 e10 g10 o10 => ?_
        exact ⟨_, rfl, g10, (of7.step e10).put npw, (or7.step e10).put nrw, o10⟩
      · rintro σ' H' ⟨x8, rfl, g, of7, or7, ow7⟩
        rw [show ((n : Int) - (i : Int) + 1 - 2).toNat = n - i - 1 by omega] at ow7
        obtain ⟨g8, kw8⟩ := ow7.lay (isAll_ints _) g hpw0
        refine g_app g8 rfl (kd_own or7 nrw) hpr0 (ed_var rfl kw8) (by have := kr6.length; rw [List.length_map, List.length_range] at this; omega) fun v I9 H9 g9 g9' o9 kv => ?_
        have e89 : Ex I6 I9 := (Ex.new ow7.i).trans g9'.i
        refine ⟨_, _, _, I9, xsr ++ [v], rfl, g9, ((kd_own of7 npw).go g9').put npr, kf6.mono e89, o9, ?_⟩
        rw [range_snoc]
        exact (kr6.mono e89).append (.cons kv .nil)
    · rintro σ' H' ⟨y3, x7, x8, I5, xsr, rfl, g, of5, kf5, or5, kr5⟩
      rw [Int.toNat_natCast] at kr5
      obtain ⟨g8, kw8⟩ := or5.lay (ds := (rowsF (lastL (tabF n kk)) n).map kD) (by unfold rowsF; rw [List.map_map]; exact kr5) g hpr0
      refine g_app g8 rfl (kd_own of5 npr) hpf0 (ed_var rfl kw8) (by have := kf5.length; rw [List.length_map, tabF_len] at this; omega) fun v I9 H9 g9 g9' o9 kv => ?_
      have e89 : Ex I5 I9 := (Ex.new or5.i).trans g9'.i
      refine ⟨_, _, _, _, _, I9, xsf ++ [v], rfl, g9, o9, ?_⟩
      rw [tabF, map_snoc]
      exact (kf5.mono e89).append (.cons kv .nil)
  · rintro σ' H' ⟨x3, x5, x6, x7, x8, I3, xsf, rfl, g, o, kf⟩
    rw [show ((c : Int) - 1).toNat = c - 1 by omega] at kf
    exact g_retO q g rfl o kf hpf0
abbrev N_least_cost : List Str := ["costs", "c"]
theorem sc_least_cost : FnScope N_least_cost ["costs", "c"] (defScope s_least_cost) := ⟨rfl, rfl, rfl, by decide +kernel, rfl, by decide +kernel, by decide +kernel⟩
def leastF (n c : Nat) : Int := lastI (((lastL (tabF n (c - 1)))[0]?).getD [])
abbrev sp_least_cost : Sp := spOf (fun a : Nat × Nat => [kD (onesL a.1), .int a.2]) (fun a => 1 ≤ a.1 ∧ a.1 ≤ 60 ∧ 1 ≤ a.2 ∧ a.2 ≤ 40) fun a => .int (leastF a.1 a.2)
theorem goodCosts_ones {n : Nat} (h1 : 1 ≤ n) (h2 : n ≤ 60) : GoodCosts (onesL n) := by
  unfold onesL
  refine ⟨by rw [List.length_replicate]; exact h1, by rw [List.length_replicate]; exact h2, fun x hx => ?_⟩
  rw [List.eq_of_mem_replicate hx]
  omega
theorem ok_least_cost (T : Txt K mg C) (F : Fn K mg "least_cost" s_least_cost) (c_check_costs : Cal P w K mg base 4 "check_costs" ["costs"] s_check_costs sp_check_costs) (c_check_slots : Cal P w K mg base 3 "check_slots" ["c"] s_check_slots sp_check_slots) (c_table_of : Cal P w K mg base 2 "table_of" ["costs", "c"] s_table_of sp_table_of) : Cal P w K mg base 5 "least_cost" ["costs", "c"] s_least_cost sp_least_cost := by
  refine cal_mk F sc_least_cost (fun _ _ _ _ _ _ us hl => match us, hl with | [_, _], _ => rfl) (fun vs H Q E h => spOf_len (n := 2) (fun _ => rfl) h) (fun f cdv A outer s H vs Q E hr h => ?_)
  obtain ⟨⟨n, c⟩, I, e, k, ⟨h1, h2, h3, h4⟩, q⟩ := spOf_out h
  dsimp only at k h1 h2 h3 h4 q
  obtain ⟨v1, v2, rfl, k1, k2⟩ := isAll2 k
  cases k2
  refine ⟨_, (pss_cons (ps_expr (pe_cal c_check_costs hr (by first | decide | exact Nat.le_refl _) rfl (pa_cons (pv 0) pa_nil))) (pss_cons (ps_expr (pe_cal c_check_slots hr (by first | decide | exact Nat.le_refl _) rfl (pa_cons (pv 1) pa_nil))) (pss_one (ps_ret (pe_ix ix_list (pe_ix ix_list (pe_ix ix_list (pe_cal c_table_of hr (by first | decide | exact Nat.le_refl _) rfl (pa_cons (pv 0) (pa_cons (pv 1) pa_nil))) (pe_un un_neg pe_int) (fun _ _ => rfl)) pe_int (fun _ _ => rfl)) (pe_un un_neg pe_int) (fun _ _ => rfl)))))), ?_⟩
  refine q_drop (Go.refl e) (ed_callD (I := I) (onesL n) (goodCosts_ones h1 h2) (ea_cons (ed_var rfl k1) ea_nil)) fun H1 g1 e1 => ?_
  refine q_drop g1 (ed_callD (I := I) (c : Int) (by omega) (by walk_at "ed")) fun H2 g2 e2 => ?_
  obtain ⟨hs1, hs2⟩ := sh_last n (c - 1)
  have hr : (lastL (tabF n (c - 1)))[0]? = some (((lastL (tabF n (c - 1)))[0]?).getD []) := by
    rw [List.getElem?_eq_getElem (by omega)]
    rfl
  have hl := hs2 _ _ hr
  refine g_ret q g2 (ed_ixL (ed_ixL (ed_ixL (ed_callD (n, c) (by exact ⟨by omega, by omega, by omega, by omega⟩) (ea_cons (ed_var rfl k1) (ea_cons (ed_var rfl (.int _)) ea_nil))) (by walk_at "ed") g2.o (atI_lastA (last_tab n (c - 1)))) (by walk_at "ed") g2.o (atI_gA (k := 0) (i := 0) rfl hr)) (by walk_at "ed") g2.o (atI_last (fun z => by rw [z] at hl; have : (0 : Nat) = n - 0 := hl; omega)))
end
end K84
namespace K84
open PySem PySem.Spec PyProof.Rows L2 KD
local macro_rules
  | `(tactic| walk_at "ed") => `(tactic| first
    | with_reducible assumption
    | with_reducible exact Ex.refl _
    | (with_reducible apply Go.o; with_reducible assumption)
    | with_reducible exact ed_int
    | with_reducible exact ed_bl
    | with_reducible exact ed_str
    | with_reducible exact ed_non
    | ((with_reducible apply ed_var) <;> (first | (exact rfl) | exact Is.int _ | exact Is.bl _ | exact Is.str _ | exact Is.non | with_reducible assumption))
    | ((with_reducible apply ad_add) <;> walk_at "ed")
    | ((with_reducible apply ad_sub) <;> walk_at "ed")
    | ((with_reducible apply ad_lt) <;> walk_at "ed")
    | ((with_reducible apply ad_le) <;> walk_at "ed")
    | ((with_reducible apply ad_gt) <;> walk_at "ed")
    | ((with_reducible apply ad_ge) <;> walk_at "ed")
    | ((with_reducible apply ad_eqI) <;> walk_at "ed")
    | ((with_reducible apply ad_neI) <;> walk_at "ed")
    | ((with_reducible apply ad_eqS) <;> walk_at "ed")
    | ((with_reducible apply ad_neS) <;> walk_at "ed")
    | ((with_reducible apply ad_notV) <;> walk_at "ed")
    | ((with_reducible apply ad_neg) <;> walk_at "ed")
    | ((with_reducible apply ad_lenL) <;> walk_at "ed")
    | ((with_reducible refine ad_tup ?_ ?_) <;> (first | walk_at "ed" | (simp only [List.length_cons, List.length_nil]; decide)))
    | ((with_reducible refine ad_lst ?_ ?_) <;> (first | walk_at "ed" | (simp only [List.length_cons, List.length_nil]; decide)))
    | ((with_reducible apply ea_cons) <;> walk_at "ed")
    | with_reducible exact ea_nil)

abbrev csD (cs : List Cm) : PyData := .list (cs.map cmD)
def cRun (n : Int) : Cm := .mv "run" n
def cTake (n : Int) : Cm := .mv "take" n
def cKeep (n : Int) : Cm := .mv "keep" n
def cUndo (n : Int) : Cm := .mv "undo" n
def loneStep (slot : Int) (ahead : Int) : List Cm := if 0 < ahead then [cTake slot, cRun ahead, .turn] else [cTake slot, .turn]
def loneBase (many : Nat) : List Cm := if (1 : Int) < many then [cRun ((many : Int) - 1), .turn] else [.turn]
def loneTo (many : Nat) (slot : Int) (i : Nat) : List Cm := loneBase many ++ (List.range i).flatMap fun (j : Nat) => loneStep slot ((many : Int) - 2 - j)
def loneC (many : Nat) (slot : Int) : List Cm := loneTo many slot (many - 1)
theorem loneTo_len (many : Nat) (slot : Int) : ∀ i, (loneTo many slot i).length ≤ 2 + 3 * i
  | 0 => by
    unfold loneTo loneBase
    split <;> simp
  | i + 1 => by
    have ih := loneTo_len many slot i
    have e : loneTo many slot (i + 1) = loneTo many slot i ++ loneStep slot ((many : Int) - 2 - i) := by
      unfold loneTo
      rw [List.range_succ, List.flatMap_append, List.append_assoc]
      simp
    rw [e, List.length_append]
    have : (loneStep slot ((many : Int) - 2 - i)).length ≤ 3 := by
      unfold loneStep
      split <;> simp
    omega
theorem loneTo_succ (many : Nat) (slot : Int) (i : Nat) : loneTo many slot (i + 1) = loneTo many slot i ++ loneStep slot ((many : Int) - 2 - i) := by
  unfold loneTo
  rw [List.range_succ, List.flatMap_append, List.append_assoc]
  simp
section
variable {P : Program} {w : World} {K : PySem.W.Frag} {mg : Str → Option Value} {base : Heap} {C : Addr}
abbrev N_lone_commands : List Str := ["many", "slot", "found", "ahead"]
theorem sc_lone_commands : FnScope N_lone_commands ["many", "slot"] (defScope s_lone_commands) := ⟨rfl, rfl, rfl, by decide +kernel, rfl, by decide +kernel, by decide +kernel⟩
abbrev sp_lone_commands : Sp := spOf (fun a : Nat × Int => [.int a.1, .int a.2]) (fun a => 1 ≤ a.1 ∧ a.1 ≤ 100) fun a => csD (loneC a.1 a.2)
theorem ok_lone_commands (T : Txt K mg C) (F : Fn K mg "lone_commands" s_lone_commands) : Cal P w K mg base 1 "lone_commands" ["many", "slot"] s_lone_commands sp_lone_commands := by
  refine cal_mk F sc_lone_commands (fun _ _ _ _ _ _ us hl => match us, hl with | [_, _], _ => rfl) (fun vs H Q E h => spOf_len (n := 2) (fun _ => rfl) h) (fun f cdv A outer s H vs Q E hr h => ?_)
  obtain ⟨⟨many, slot⟩, I, e, k, ⟨h1, h2⟩, q⟩ := spOf_out h
  dsimp only at k h1 h2 q
  obtain ⟨v1, v2, rfl, k1, k2⟩ := isAll2 k
  cases k1
  cases k2
  refine ⟨_, (pss_cons (ps_set (i := 2) sc_lone_commands.nd rfl (Or.inl rfl) (pe_ifExp (pt_cmpR op_gt (pv 0) pe_int (nomark _)) (pe_lst (pa_cons (pe_tup (pa_cons (pe_gk T.k_RUN rfl) (pa_cons (pe_op op_sub (pv 0) pe_int) pa_nil))) (pa_cons (pe_tup (pa_cons (pe_gk T.k_TURN rfl) pa_nil)) pa_nil))) (pe_lst (pa_cons (pe_tup (pa_cons (pe_gk T.k_TURN rfl) pa_nil)) pa_nil)))) (pss_cons (ps_for PassesOwn.never rfl (pi_range3 (by rfl) T.b_range (pa_cons (pe_op op_sub (pv 0) pe_int) (pa_cons (pe_un un_neg pe_int) (pa_cons (pe_un un_neg pe_int) pa_nil)))) (pg_name (i := 3) sc_lone_commands.nd rfl (Or.inl rfl)) (pss_one (ps_expr (pe_bm PySem.F.plainAttrs_list PySem.F.slot_list_extend PySem.F.type_list_extend mt_extend (pv 2) (pa_cons (pe_ifExp (pt_cmpR op_gt (pv 3) pe_int (nomark _)) (pe_lst (pa_cons (pe_tup (pa_cons (pe_gk T.k_TAKE rfl) (pa_cons (pv 1) pa_nil))) (pa_cons (pe_tup (pa_cons (pe_gk T.k_RUN rfl) (pa_cons (pv 3) pa_nil))) (pa_cons (pe_tup (pa_cons (pe_gk T.k_TURN rfl) pa_nil)) pa_nil)))) (pe_lst (pa_cons (pe_tup (pa_cons (pe_gk T.k_TAKE rfl) (pa_cons (pv 1) pa_nil))) (pa_cons (pe_tup (pa_cons (pe_gk T.k_TURN rfl) pa_nil)) pa_nil)))) pa_nil))))) (pss_one (ps_ret (pv 2))))), ?_⟩
  have main : ∀ {p : Addr} {vs : List V} {I1 H1 : Hp}, Go I H I1 H1 → Own I1 H1 p vs → IsAll I1 vs ((loneBase many).map cmD) → H p = none → tSeq (tFor (iRng3 (tCons (tOp (rI0 fun i j => V.int (i - j)) (tVar 0) (tC (.int 2))) (tCons (tUn (rU fun i => V.int (-i)) (tC (.int 1))) (tCons (tUn (rU fun i => V.int (-i)) (tC (.int 1))) tNil)))) (gName 3) (tDrop (tBM K "list" rExtend (tVar 2) (tCons (tIf (tTest (tOp (rI0 fun i j => V.bl (decide (j < i))) (tVar 3) (tC (.int 0)))) (tLst (tCons (tTup (tCons (tC (.str "take")) (tCons (tVar 1) tNil))) (tCons (tTup (tCons (tC (.str "run")) (tCons (tVar 3) tNil))) (tCons (tTup (tCons (tC (.str "turn")) tNil)) tNil)))) (tLst (tCons (tTup (tCons (tC (.str "take")) (tCons (tVar 1) tNil))) (tCons (tTup (tCons (tC (.str "turn")) tNil)) tNil)))) tNil)))) (tRet (tVar 2)) { nx := fun _ H' => Q .non H', rt := Q } [some (.int many), some (.int slot), some (.ref p), none] H1 := fun {p vs I1 H1} g1 o1 k1 hp => by
    refine q_forR3 (J := I1) (lo := (many : Int) - 2) (hi := -1) (c := -1) (many - 1) (by walk_at "ed") g1.o ?_ (fun i σ' H' => ∃ x I2 xs, σ' = [some (.int many), some (.int slot), some (.ref p), x] ∧ Go I H I2 H' ∧ Own I2 H' p xs ∧ IsAll I2 xs ((loneTo many slot i).map cmD)) ?_ ?_ ?_
    · have h := RgC.neg (i := (many : Int) - 2) (j := -1) (by omega) (by omega) (by decide) (by decide)
      rw [show ((many : Int) - 2 - -1).toNat = many - 1 by omega] at h
      exact h
    · intro H2 e2
      refine ⟨none, I1, vs, rfl, g1.step e2, o1.step e2, ?_⟩
      rw [show loneTo many slot 0 = loneBase many by unfold loneTo; simp]
      exact k1
    · rintro i σ' H' hi ⟨x, I2, xs, rfl, g, o, kx⟩
      have hxl := kx.length
      rw [List.length_map] at hxl
      have hll := loneTo_len many slot i
      have e1 : (many : Int) - 2 + (i : Int) * -1 = (many : Int) - 2 - i := by omega
      rw [e1]
      refine g_ext (ds := (loneStep slot ((many : Int) - 2 - i)).map cmD) g rfl o hp (ed_if (et_test (J := I2) (by walk_at "ed") g.o) (fun hb => ?_) fun hb => ?_) (by
        have : (loneStep slot ((many : Int) - 2 - i)).length ≤ 3 := by
          unfold loneStep
          split <;> simp
        rw [List.length_map]
        omega) fun vs I3 H3 g3 g3' o3 k3 => ?_
      · have hb : (0 : Int) < (many : Int) - 2 - i := of_decide_eq_true hb
        unfold loneStep
        rw [if_pos hb]
        exact (show Ed _ _ _ _ (.list [.tuple [.str "take", .int slot], .tuple [.str "run", .int ((many : Int) - 2 - i)], .tuple [.str "turn"]]) by walk_at "ed")
      · have hb : ¬ (0 : Int) < (many : Int) - 2 - i := of_decide_eq_false hb
        unfold loneStep
        rw [if_neg hb]
        exact (show Ed _ _ _ _ (.list [.tuple [.str "take", .int slot], .tuple [.str "turn"]]) by walk_at "ed")
      · refine ⟨_, I3, xs ++ vs, rfl, g3, o3, ?_⟩
        rw [loneTo_succ, List.map_append]
        exact (kx.mono g3'.i).append k3
    · rintro σ' H' ⟨x, I2, xs, rfl, g, o, kx⟩
      exact g_retO q g rfl o kx hp
  refine q_tif (et_test (J := I) (by walk_at "ed") e) (fun hb H1 e1 => ?_) fun hb H1 e1 => ?_
  · have hb : (1 : Int) < many := of_decide_eq_true hb
    refine q_new (ds := [.tuple [.str "run", .int ((many : Int) - 1)], .tuple [.str "turn"]]) ((Go.refl e).step e1) (by have e := e.trans e1; walk_at "ed") (by show 2 ≤ 100000; decide) fun p vs I2 H2 g2 _ o2 k2 hp => main g2 o2 ?_ (e1.free hp)
    unfold loneBase
    rw [if_pos hb]
    exact k2
  · have hb : ¬ (1 : Int) < many := of_decide_eq_false hb
    refine q_new (ds := [.tuple [.str "turn"]]) ((Go.refl e).step e1) (by have e := e.trans e1; walk_at "ed") (by show 1 ≤ 100000; decide) fun p vs I2 H2 g2 _ o2 k2 hp => main g2 o2 ?_ (e1.free hp)
    unfold loneBase
    rw [if_neg hb]
    exact k2
end
end K84
namespace KD
open PySem PySem.Spec PyProof.Rows L2
section
variable {I0 H0 I H I2 H2 J : Hp} {σ : L2.St} {D : Ends} {te ta tb : TE} {d : PyData} {l : Addr} {xs : List V} {Q : VK} {K : PySem.W.Frag} {t : TT} {tu tw tz : TS} {g : TG}
/-- xs.index(x), whole numbers -/
theorem ed_index {ns : List Int} {n : Int} {j : Nat} (h : ns[j]? = some n) (hf : ∀ m, m < j → ns[m]? ≠ some n) (ha : Ed ta σ H J (.list (ns.map PyData.int))) (hb : Ed tb σ H J (.int n)) (ej : Ex J H) : Ed (tBM K "list" (rIndex K) ta (tCons tb tNil)) σ H I (.int j) := fun H1 e k Q q =>
  ha H1 e (ej.trans e) _ fun v I2 H2 a1 a2 a3 nw kv => by
    cases kv with
    | @lst p xs _ kp ka =>
      have ex := ints_of ka
      subst ex
      refine ⟨Or.inl ⟨rfl, _, SqL.of (a3 _ _ kp)⟩, hb.int ej H2 (e.trans a2) _ fun H3 e3 => ⟨p, _, .int n, j, .int n, rfl, rfl, SqL.of (e3 _ _ (a3 _ _ kp)), rfl, flat_ints ns, by rw [List.getElem?_map, h]; rfl, by show (n == n) = true; simp, fun m z' hm hz => ?_, q _ I H3 (Ex.refl _) (a2.trans e3) (k.trans (a2.trans e3)) (New.refl _ _) (.int _)⟩⟩
      rw [List.getElem?_map] at hz
      cases hq : ns[m]? with
      | none => rw [hq] at hz; cases hz
      | some y =>
        rw [hq] at hz
        cases hz
        have : y ≠ n := fun e => hf m hm (by rw [hq, e])
        show (y == n) = false
        simpa using this
/-- a, b = data, [..] -/
theorem q_parDL {i j : Nat} {ta : TA} {te2 : TE} {ds : List PyData} (g : Go I0 H0 I H) (h2 : Ed te2 σ H I d) (h : Ea ta σ H I ds) (hl : ds.length ≤ 100000) (k : ∀ v p vs I2 H2, Go I0 H0 I2 H2 → Go I H I2 H2 → Is I2 v d → Own I2 H2 p vs → IsAll I2 vs ds → H p = none → tz D ((σ.set i (some v)).set j (some (.ref p))) H2) : tSeq (tPar i j (tCons te2 (tCons (tLst ta) tNil))) tz D σ H :=
  h2 H (Ex.refl _) g.o _ fun v I2 H2 a1 a2 a3 nw kv => (h.more a1) H2 a2 a3 _ fun vs I3 H3 b1 b2 b3 nw2 kvs => ⟨sz_of (by rw [kvs.length]; exact hl), fun p hp => ⟨v, .ref p, rfl,
    k v p vs I3 _ (g.trans ⟨a1.trans b1, (nw.trans nw2 a2), (a2.trans b2).trans (Ex.new hp), b3.trans (Ex.new hp)⟩) ⟨a1.trans b1, (nw.trans nw2 a2), (a2.trans b2).trans (Ex.new hp), b3.trans (Ex.new hp)⟩ (kv.mono b1) ⟨b3.free hp, upd_same⟩ kvs ((a2.trans b2).free hp)⟩⟩
/-- a, b, c, d = xs.pop(), xs a list of one's own -/
theorem q_pop4 {i i1 i2 i3 i4 : Nat} {d1 d2 d3 d4 : PyData} {ys : List V} {y : V} {zs : List PyData} (g : Go I0 H0 I H) (hs : σ[i]? = some (some (.ref l))) (a : Own I H l (ys ++ [y])) (h0 : H0 l = none) (b : Is I y (.tuple [d1, d2, d3, d4]))
    (k : ∀ v1 v2 v3 v4, Is I v1 d1 → Is I v2 d2 → Is I v3 d3 → Is I v4 d4 → Go I0 H0 I (upd H l (.lst ys)) → Own I (upd H l (.lst ys)) l ys → tz D ((((σ.set i1 (some v1)).set i2 (some v2)).set i3 (some v3)).set i4 (some v4)) (upd H l (.lst ys))) :
    tSeq (tAsg (tBM0 K "list" rPop (tVar i)) (gTup K 4 (gCons (gName i1) (gCons (gName i2) (gCons (gName i3) (gCons (gName i4) gNil)))))) tz D σ H := by
  refine ⟨_, hs, Or.inl ⟨rfl, _, SqL.of a.h⟩, l, _, y, rfl, rfl, a.h, by simp, ?_⟩
  rw [List.dropLast_concat]
  cases b with
  | @tup p xs _ kp kx =>
    obtain ⟨v1, v2, v3, v4, rfl, k1, k2, k3, k4⟩ := isAll4 kx
    have g2 : Go I0 H0 I (upd H l (.lst ys)) := g.mut a.i h0
    exact ⟨p, _, rfl, SqT.of (g2.o _ _ kp), rfl, v1, _, rfl, v2, _, rfl, v3, _, rfl, v4, _, rfl, rfl, k v1 v2 v3 v4 k1 k2 k3 k4 g2 ⟨a.i, upd_same⟩⟩
end
end KD
namespace K84
open PySem PySem.Spec PyProof.Rows L2 KD
local macro_rules
  | `(tactic| walk_at "ed") => `(tactic| first
    | with_reducible assumption
    | with_reducible exact Ex.refl _
    | (with_reducible apply Go.o; with_reducible assumption)
    | with_reducible exact ed_int
    | with_reducible exact ed_bl
    | with_reducible exact ed_str
    | with_reducible exact ed_non
    | ((with_reducible apply ed_var) <;> (first | (exact rfl) | exact Is.int _ | exact Is.bl _ | exact Is.str _ | exact Is.non | with_reducible assumption))
    | ((with_reducible apply ad_add) <;> walk_at "ed")
    | ((with_reducible apply ad_sub) <;> walk_at "ed")
    | ((with_reducible apply ad_lt) <;> walk_at "ed")
    | ((with_reducible apply ad_le) <;> walk_at "ed")
    | ((with_reducible apply ad_gt) <;> walk_at "ed")
    | ((with_reducible apply ad_ge) <;> walk_at "ed")
    | ((with_reducible apply ad_eqI) <;> walk_at "ed")
    | ((with_reducible apply ad_neI) <;> walk_at "ed")
    | ((with_reducible apply ad_eqS) <;> walk_at "ed")
    | ((with_reducible apply ad_neS) <;> walk_at "ed")
    | ((with_reducible apply ad_notV) <;> walk_at "ed")
    | ((with_reducible apply ad_neg) <;> walk_at "ed")
    | ((with_reducible apply ad_lenL) <;> walk_at "ed")
    | ((with_reducible refine ad_tup ?_ ?_) <;> (first | walk_at "ed" | (simp only [List.length_cons, List.length_nil]; decide)))
    | ((with_reducible refine ad_lst ?_ ?_) <;> (first | walk_at "ed" | (simp only [List.length_cons, List.length_nil]; decide)))
    | ((with_reducible apply ea_cons) <;> walk_at "ed")
    | with_reducible exact ea_nil)

abbrev Wt := Nat × Nat × Nat × Bool
def wtD (z : Wt) : PyData := .tuple [.int z.1, .int z.2.1, .int z.2.2.1, .bool z.2.2.2]
def schGo (n c : Nat) : Nat → List Wt → List Cm → Option (List Cm)
  | 0, _, _ => none
  | f + 1, ws, found => match ws.getLast? with
    | none => some found
    | some (first, many, slot, away) =>
      if found.length ≤ 5000 ∧ ws.length ≤ 1000 ∧ 1 ≤ many ∧ first + many ≤ n ∧ slot + 1 ≤ c then
        (if many = 1 ∨ slot + 1 = c then schGo n c f ws.dropLast (found ++ (if away then [cTake slot] else []) ++ loneC many slot)
        else match (splitC (lastL (tabF n (c - slot - 2))) (((lastL (tabF n (c - slot - 1)))[first]?).getD []) first many).findIdx? (fun z => z == gI (((lastL (tabF n (c - slot - 1)))[first]?).getD []) (many - 1)) with
          | some j => schGo n c f (ws.dropLast ++ [(first, 1 + j, slot, true), (first + (1 + j), many - (1 + j), slot + 1, false)]) (found ++ (if away then [cTake slot] else []) ++ [cRun (1 + j : Nat), cKeep (slot + 1 : Nat)])
          | none => none)
      else none
def schO (n c : Nat) : Option (List Cm) := schGo n c 60 [(0, n, 0, false)] [cKeep 0]
theorem tabF_get (n : Nat) : ∀ {k i : Nat}, i ≤ k → (tabF n k)[i]? = some (lastL (tabF n i))
  | 0, 0, _ => rfl
  | k + 1, i, h => by
    by_cases q : i ≤ k
    · rw [tabF, List.getElem?_append_left (by rw [tabF_len]; omega)]
      exact tabF_get n q
    · have : i = k + 1 := by omega
      subst this
      have := last_tab n (k + 1)
      rw [List.getLast?_eq_getElem?, tabF_len] at this
      exact this
theorem wts_lay : ∀ ws : List Wt, PyData.canLayAll0 (ws.map wtD) = true ∧ PyData.depthAll (ws.map wtD) ≤ 1
  | [] => ⟨rfl, by simp [PyData.depthAll]⟩
  | z :: ws => by
    obtain ⟨h1, h2⟩ := wts_lay ws
    refine ⟨?_, ?_⟩
    · rw [List.map_cons]
      simp [PyData.canLayAll0, PyData.canLay0, wtD, h1]
    · rw [List.map_cons]
      simp only [PyData.depthAll, wtD, PyData.depth]
      simp
      omega
theorem wts_noD : ∀ ws : List Wt, noDs (ws.map wtD) = true
  | [] => rfl
  | z :: ws => by
    rw [List.map_cons, noDs, wts_noD ws]
    rfl
theorem wts_shaped (ws : List Wt) : SeqAt.shaped (.list (ws.map wtD)) = true := by
  obtain ⟨h1, h2⟩ := wts_lay ws
  unfold SeqAt.shaped
  rw [show (PyData.list (ws.map wtD)).canLay0 = PyData.canLayAll0 (ws.map wtD) by simp [PyData.canLay0], h1, show (PyData.list (ws.map wtD)).depth = PyData.depthAll (ws.map wtD) + 1 by simp [PyData.depth]]
  rw [Bool.true_and, decide_eq_true_eq]
  omega
theorem wts_eqv (ws : List Wt) : PyData.eqv (.list (ws.map wtD)) (.list []) = ws.isEmpty := by
  cases ws <;> simp [PyData.eqv, PyData.eqvAll]
theorem isAll_snoc {H : Hp} : ∀ {ds : List PyData} {d : PyData} {vs : List V}, IsAll H vs (ds ++ [d]) → ∃ ys y, vs = ys ++ [y] ∧ IsAll H ys ds ∧ Is H y d
  | [], d, vs, h => by
    obtain ⟨v1, rfl, k1⟩ := isAll1 h
    exact ⟨[], v1, rfl, .nil, k1⟩
  | e :: ds, d, vs, h => by
    cases h with
    | cons a b =>
      obtain ⟨ys, y, rfl, k1, k2⟩ := isAll_snoc b
      exact ⟨_ :: ys, y, rfl, .cons a k1, k2⟩
theorem loneC_len (many : Nat) (slot : Int) : (loneC many slot).length ≤ 2 + 3 * many := Nat.le_trans (loneTo_len _ _ _) (by omega)
section
variable {P : Program} {w : World} {K : PySem.W.Frag} {mg : Str → Option Value} {base : Heap} {C : Addr}
abbrev N_schedule_of : List Str := ["costs", "c", "table", "found", "waits", "first", "many", "slot", "is_away", "rows", "partings", "part"]
theorem sc_schedule_of : FnScope N_schedule_of ["costs", "c"] (defScope s_schedule_of) := ⟨rfl, rfl, rfl, by decide +kernel, rfl, by decide +kernel, by decide +kernel⟩
abbrev sp_schedule_of : Sp := spOf (fun a : Nat × Nat × List Cm => [kD (onesL a.1), .int a.2.1]) (fun a => 1 ≤ a.1 ∧ a.1 ≤ 60 ∧ 1 ≤ a.2.1 ∧ a.2.1 ≤ 40 ∧ schO a.1 a.2.1 = some a.2.2) fun a => csD a.2.2
theorem ok_schedule_of (T : Txt K mg C) (F : Fn K mg "schedule_of" s_schedule_of) (c_table_of : Cal P w K mg base 2 "table_of" ["costs", "c"] s_table_of sp_table_of) (c_lone_commands : Cal P w K mg base 1 "lone_commands" ["many", "slot"] s_lone_commands sp_lone_commands) (c_split_costs : Cal P w K mg base 1 "split_costs" ["costs", "fewer", "same", "first", "many"] s_split_costs sp_split_costs) : Cal P w K mg base 3 "schedule_of" ["costs", "c"] s_schedule_of sp_schedule_of := by
  refine cal_mk F sc_schedule_of (fun _ _ _ _ _ _ us hl => match us, hl with | [_, _], _ => rfl) (fun vs H Q E h => spOf_len (n := 2) (fun _ => rfl) h) (fun f cdv A outer s H vs Q E hr h => ?_)
  obtain ⟨⟨n, c, res⟩, I, e, k, ⟨h1, h2, h3, h4, h5⟩, q⟩ := spOf_out h
  dsimp only at k h1 h2 h3 h4 h5 q
  obtain ⟨v1, v2, rfl, k1, k2⟩ := isAll2 k
  cases k2
  have hu : (A.deeper (envOfC "schedule_of" (defScope s_schedule_of) s.heap.objs.size f cdv)).units + 64 < cLine := by
    have := hr.un
    omega
  have hol : (onesL n).length = n := by unfold onesL; rw [List.length_replicate]
  refine ⟨_, (pss_cons (ps_par (i := 2) (j := 3) (by rfl) sc_schedule_of.nd rfl rfl (by decide) rfl rfl (pa_cons (pe_cal c_table_of hr (by first | decide | exact Nat.le_refl _) rfl (pa_cons (pv 0) (pa_cons (pv 1) pa_nil))) (pa_cons (pe_lst (pa_cons (pe_tup (pa_cons (pe_gk T.k_KEEP rfl) (pa_cons pe_int pa_nil))) pa_nil)) pa_nil)) (by rfl)) (pss_cons (ps_set (i := 4) sc_schedule_of.nd rfl (Or.inl rfl) (pe_lst (pa_cons (pe_tup (pa_cons pe_int (pa_cons (pe_callB call_len_seq (by rfl) T.b_len (by decide +kernel) (pa_cons (pv 0) pa_nil)) (pa_cons pe_int (pa_cons pe_bl pa_nil))))) pa_nil))) (pss_cons (ps_while PassesOwn.never (pt_cmpR (op_neD hu) (pv 4) (pe_lst pa_nil) (nomark _)) (pss_cons (ps_asg (pe_bm0 PySem.F.plainAttrs_list PySem.F.slot_list_pop PySem.F.type_list_pop mt_pop (pv 4)) (pg_tup (by rfl) (pgs_cons (pg_name (i := 5) sc_schedule_of.nd rfl (Or.inl rfl)) (pgs_cons (pg_name (i := 6) sc_schedule_of.nd rfl (Or.inl rfl)) (pgs_cons (pg_name (i := 7) sc_schedule_of.nd rfl (Or.inl rfl)) (pgs_cons (pg_name (i := 8) sc_schedule_of.nd rfl (Or.inl rfl)) pgs_nil)))))) (pss_cons (ps_expr (pe_bm PySem.F.plainAttrs_list PySem.F.slot_list_extend PySem.F.type_list_extend mt_extend (pv 3) (pa_cons (pe_ifExp (pt_val (pv 8)) (pe_lst (pa_cons (pe_tup (pa_cons (pe_gk T.k_TAKE rfl) (pa_cons (pv 7) pa_nil))) pa_nil)) (pe_lst pa_nil)) pa_nil))) (pss_one (ps_if (PW.pt (pw_or (pt_cmpR op_eq (pv 6) pe_int (nomark _)) (pw_or1 (pt_cmpR op_eq (pv 7) (pe_op op_sub (pv 1) pe_int) (nomark _))))) (pss_one (ps_expr (pe_bm PySem.F.plainAttrs_list PySem.F.slot_list_extend PySem.F.type_list_extend mt_extend (pv 3) (pa_cons (pe_cal c_lone_commands hr (by first | decide | exact Nat.le_refl _) rfl (pa_cons (pv 6) (pa_cons (pv 7) pa_nil))) pa_nil)))) (pss_cons (ps_set (i := 9) sc_schedule_of.nd rfl (Or.inl rfl) (pe_ix ix_list (pv 2) (pe_op op_sub (pe_op op_sub (pv 1) (pv 7)) pe_int) (fun _ _ => rfl))) (pss_cons (ps_set (i := 10) sc_schedule_of.nd rfl (Or.inl rfl) (pe_cal c_split_costs hr (by first | decide | exact Nat.le_refl _) rfl (pa_cons (pv 0) (pa_cons (pe_ix ix_list (pv 2) (pe_op op_sub (pe_op op_sub (pv 1) (pv 7)) pe_int) (fun _ _ => rfl)) (pa_cons (pe_ix ix_list (pv 9) (pv 5) (fun _ _ => rfl)) (pa_cons (pv 5) (pa_cons (pv 6) pa_nil))))))) (pss_cons (ps_set (i := 11) sc_schedule_of.nd rfl (Or.inl rfl) (pe_op op_add pe_int (pe_bm PySem.F.plainAttrs_list PySem.F.slot_list_index PySem.F.type_list_index mt_index (pv 10) (pa_cons (pe_ix ix_list (pe_ix ix_list (pv 9) (pv 5) (fun _ _ => rfl)) (pe_op op_sub (pv 6) pe_int) (fun _ _ => rfl)) pa_nil)))) (pss_cons (ps_expr (pe_bm PySem.F.plainAttrs_list PySem.F.slot_list_extend PySem.F.type_list_extend mt_extend (pv 3) (pa_cons (pe_lst (pa_cons (pe_tup (pa_cons (pe_gk T.k_RUN rfl) (pa_cons (pv 11) pa_nil))) (pa_cons (pe_tup (pa_cons (pe_gk T.k_KEEP rfl) (pa_cons (pe_op op_add (pv 7) pe_int) pa_nil))) pa_nil))) pa_nil))) (pss_one (ps_expr (pe_bm PySem.F.plainAttrs_list PySem.F.slot_list_extend PySem.F.type_list_extend mt_extend (pv 4) (pa_cons (pe_lst (pa_cons (pe_tup (pa_cons (pv 5) (pa_cons (pv 11) (pa_cons (pv 7) (pa_cons pe_bl pa_nil))))) (pa_cons (pe_tup (pa_cons (pe_op op_add (pv 5) (pv 11)) (pa_cons (pe_op op_sub (pv 6) (pv 11)) (pa_cons (pe_op op_add (pv 7) pe_int) (pa_cons pe_bl pa_nil))))) pa_nil))) pa_nil))))))))))))) (pss_one (ps_ret (pv 3)))))), ?_⟩
  refine q_parDL (ds := [cmD (cKeep 0)]) (Go.refl e) (ed_callD (I := I) (n, c) (by exact ⟨h1, by omega, h3, by omega⟩) (ea_cons (ed_var rfl k1) (ea_cons (ed_var rfl (.int _)) ea_nil))) (ea_cons (show Ed _ _ _ _ (.tuple [.str "keep", .int 0]) by walk_at "ed") ea_nil) (by show 1 ≤ 100000; decide) fun vt pf vf I1 H1 g1 g1' kt o1 kf hpf => ?_
  refine q_new (ds := [wtD (0, n, 0, false)]) g1 (ea_cons (show Ed _ _ _ _ (.tuple [.int 0, .int n, .int 0, .bool false]) from ad_tup (ea_cons ed_int (ea_cons (Ed.is (ed_lenL (ed_var rfl (k1.mono g1.i)) g1.o) (by rw [List.length_map, hol])) (ea_cons ed_int (ea_cons ed_bl ea_nil)))) (by show 4 ≤ 100000; decide)) ea_nil) (by show 1 ≤ 100000; decide) fun pw vw I2 H2 g2 g2' o2 kw hpw => ?_
  have npw : pf ≠ pw := ne_of_none o1.h hpw
  have hpw0 : H pw = none := g1.h.free hpw
  refine q_while (fun m σ' H' => ∃ x5 x6 x7 x8 x9 x10 x11 I3 xf xw found ws, σ' = [some v1, some (.int c), some vt, some (.ref pf), some (.ref pw), x5, x6, x7, x8, x9, x10, x11] ∧ Go I H I3 H' ∧ Own I3 H' pf xf ∧ IsAll I3 xf (found.map cmD) ∧ Own I3 H' pw xw ∧ IsAll I3 xw (ws.map wtD) ∧ Is I3 vt (.list ((tabF n (c - 1)).map rD)) ∧ schGo n c m ws found = some res) 60 ⟨none, none, none, none, none, none, none, I2, vf, vw, [cKeep 0], [(0, n, 0, false)], rfl, g2, o1.go g2', kf.mono g2'.i, o2, kw, kt.mono g2'.i, h5⟩ ?_
  rintro m σ' H' ⟨x5, x6, x7, x8, x9, x10, x11, I3, xf, xw, found, ws, rfl, g, of3, kf3, ow3, kw3, kt3, hgo⟩
  obtain ⟨e4, kr4⟩ := ow3.read kw3 g.o
  refine ⟨!ws.isEmpty, et_test (J := upd I3 pw (.lst xw)) (Ed.is (ed_neD (I := upd I3 pw (.lst xw)) (d1 := .list (ws.map wtD)) (d2 := .list []) (by rw [noD]; exact wts_noD ws) rfl (wts_shaped ws) (by decide) (ed_var rfl kr4) (show Ed _ _ _ _ (.list []) by walk_at "ed") e4 e4) (by rw [wts_eqv])) e4, fun hb H5 e5 => ?_, fun hb H5 e5 => ?_⟩
  · cases m with
    | zero => cases hgo
    | succ m =>
      have hne : ws ≠ [] := by
        intro z
        rw [z] at hb
        cases hb
      obtain ⟨ws', z, rfl⟩ : ∃ ws' z, ws = ws' ++ [z] := ⟨ws.dropLast, ws.getLast hne, (List.dropLast_concat_getLast hne).symm⟩
      obtain ⟨first, many, slot, away⟩ := z
      rw [schGo, List.getLast?_concat] at hgo
      dsimp only at hgo
      rw [List.dropLast_concat] at hgo
      by_cases hck : found.length ≤ 5000 ∧ (ws' ++ [(first, many, slot, away)]).length ≤ 1000 ∧ 1 ≤ many ∧ first + many ≤ n ∧ slot + 1 ≤ c
      · rw [if_pos hck] at hgo
        obtain ⟨hk1, hk2, hk3, hk4, hk5⟩ := hck
        obtain ⟨ys, y, rfl, ky, kz⟩ : ∃ ys y, xw = ys ++ [y] ∧ IsAll I3 ys (ws'.map wtD) ∧ Is I3 y (wtD (first, many, slot, away)) := by
          rw [map_snoc] at kw3
          exact isAll_snoc kw3
        have kz : Is I3 y (.tuple [.int first, .int many, .int slot, .bool away]) := kz
        have g5 := g.step e5
        refine q_pop4 (zs := []) g5 rfl (ow3.step e5) hpw0 kz fun u1 u2 u3 u4 ku1 ku2 ku3 ku4 g6 ow6 => ?_
        cases ku1
        cases ku2
        cases ku3
        cases ku4
        have of6 := (of3.step e5).put (o := .lst ys) npw
        have hfl := kf3.length
        rw [List.length_map] at hfl
        refine q_ext (ds := (if away then [cTake slot] else []).map cmD) g6 rfl of6 hpf (ed_if (et_test (J := I3) (ed_var rfl (.bl away)) g6.o) (fun hb => ?_) fun hb => ?_) (by rw [List.length_map]; split <;> simp <;> omega) fun vs I7 H7 g7 g7' of7 k7 => ?_
        · rw [hb, if_pos rfl]
          exact ad_lst (ds := [.tuple [.str "take", .int slot]]) (by walk_at "ed") (by show 1 ≤ 100000; decide)
        · rw [hb, if_neg (by simp)]
          exact ad_lst (ds := []) ea_nil (by show 0 ≤ 100000; decide)
        have ow7 := (ow6.go g7').put (o := .lst (xf ++ vs)) (fun z => npw z.symm)
        have kf7 : IsAll I7 (xf ++ vs) ((found ++ (if away then [cTake slot] else [])).map cmD) := by
          rw [List.map_append]
          exact (kf3.mono g7'.i).append k7
        have kw7 := ky.mono g7'.i
        have kt7 := kt3.mono g7'.i
        have hal : (if away then [cTake (slot : Int)] else []).length ≤ 1 := by split <;> simp
        have hfl7 : (xf ++ vs).length ≤ 5001 := by
          have := kf7.length
          rw [List.length_map, List.length_append (as := found)] at this
          omega
        refine g_if g7 (et_or (et_test (J := I7) (ad_eqI (ed_var rfl (.int _)) ed_int g7.o) g7.o) fun _ => et_test (J := I7) (ad_eqI (ed_var rfl (.int _)) (ad_sub (ed_var rfl (.int _)) ed_int g7.o) g7.o) g7.o) (fun hb H8 g8 e8 => ?_) fun hb H8 g8 e8 => ?_
        · have hb : (many : Int) = 1 ∨ (slot : Int) = c - 1 := by simpa using hb
          rw [if_pos (by omega)] at hgo
          have hll := loneC_len many slot
          refine g_ext (ds := (loneC many slot).map cmD) g8 rfl (of7.step e8) hpf (ed_callD (many, (slot : Int)) (by exact ⟨hk3, by omega⟩) (ea_cons (ed_var rfl (.int _)) (ea_cons (ed_var rfl (.int _)) ea_nil))) (by rw [List.length_map]; omega) fun vs2 I9 H9 g9 g9' of9 k9 => ?_
          refine ⟨m, Nat.lt_succ_self _, _, _, _, _, x9, x10, x11, I9, _, ys, _, ws', rfl, g9, of9, ?_, ((ow7.step e8).go g9').put (fun z => npw z.symm), kw7.mono g9'.i, kt7.mono g9'.i, hgo⟩
          rw [List.map_append]
          exact (kf7.mono g9'.i).append k9
        · have hb : ¬((many : Int) = 1 ∨ (slot : Int) = c - 1) := by simpa using hb
          rw [if_neg (by omega)] at hgo
          obtain ⟨hs1, hs2⟩ := sh_last n (c - slot - 1)
          have hr : (lastL (tabF n (c - slot - 1)))[first]? = some (((lastL (tabF n (c - slot - 1)))[first]?).getD []) := by
            rw [List.getElem?_eq_getElem (by omega)]
            rfl
          have hrl := hs2 _ _ hr
          generalize hrow : ((lastL (tabF n (c - slot - 1)))[first]?).getD [] = row at hgo hr hrl
          split at hgo
          case h_2 => cases hgo
          rename_i j hj
          refine q_set g8 (d := rD (lastL (tabF n (c - slot - 1)))) (ed_ixL (ed_var rfl kt7) (ad_sub (ad_sub (ed_var rfl (.int _)) (ed_var rfl (.int _)) g8.o) ed_int g8.o) g8.o (atI_gA (i := c - slot - 1) (by omega) (tabF_get n (by omega)))) fun vr I9 H9 g9 g9' kr9 => ?_
          refine q_set g9 (d := kD (splitC (lastL (tabF n (c - slot - 2))) row first many)) (ed_callD (n, lastL (tabF n (c - slot - 2)), row, first, many) (by exact ⟨by omega, sh_last n _, by show many ≤ row.length + 1; omega, hk4⟩) (ea_cons (ed_var rfl (k1.mono g9.i)) (ea_cons (ed_ixL (ed_var rfl (kt7.mono g9'.i)) (ad_sub (ad_sub (ed_var rfl (.int _)) (ed_var rfl (.int _)) g9.o) ed_int g9.o) g9.o (atI_gA (i := c - slot - 2) (by omega) (tabF_get n (by omega)))) (ea_cons (ed_ixL (ed_var rfl kr9) (ed_var rfl (.int _)) g9.o (atI_gA (i := first) rfl hr)) (ea_cons (ed_var rfl (.int _)) (ea_cons (ed_var rfl (.int _)) ea_nil)))))) fun vp I10 H10 g10 g10' kp10 => ?_
          have hj2 := List.findIdx?_eq_some_iff_getElem.mp hj
          obtain ⟨hjl, hje, hjf⟩ := hj2
          refine q_int g10 (n := 1 + (j : Int)) (ad_add ed_int (ed_index (J := I10) (n := gI row (many - 1)) (j := j) (by rw [List.getElem?_eq_getElem hjl]; simpa using hje) (fun m' hm' hz => by
            have := hjf m' hm'
            rw [List.getElem?_eq_some_iff] at hz
            obtain ⟨hz1, hz2⟩ := hz
            simp [hz2] at this) (ed_var rfl kp10) (ed_ixL (ed_ixL (ed_var rfl (kr9.mono g10'.i)) (ed_var rfl (.int _)) g10.o (atI_gA (i := first) rfl hr)) (ad_sub (ed_var rfl (.int _)) ed_int g10.o) g10.o (atI_g (i := many - 1) (by omega) (by omega))) g10.o) g10.o) fun H11 g11 e11 => ?_
          have gx : Go I7 H8 I10 H11 := (g9'.trans g10').step e11
          have of11 := (of7.step e8).go gx
          have ow11 := (ow7.step e8).go gx
          have hjm : j < many - 1 := by
            unfold splitC at hjl
            rw [List.length_map, List.length_range] at hjl
            exact hjl
          refine q_ext (ds := [cRun (1 + j : Nat), cKeep (slot + 1 : Nat)].map cmD) g11 rfl of11 hpf (ad_lst (ds := [.tuple [.str "run", .int (1 + j : Nat)], .tuple [.str "keep", .int (slot + 1 : Nat)]]) (ea_cons (ad_tup (ea_cons ed_str (ea_cons (Ed.is (ed_var rfl (.int _)) (by congr 1 <;> omega)) ea_nil)) (by show 2 ≤ 100000; decide)) (ea_cons (ad_tup (ea_cons ed_str (ea_cons (Ed.is (ad_add (ed_var rfl (.int _)) ed_int g11.o) (by congr 1 <;> omega)) ea_nil)) (by show 2 ≤ 100000; decide)) ea_nil)) (by show 2 ≤ 100000; decide)) (by show _ + 2 ≤ 100000; omega) fun vs3 I12 H12 g12 g12' of12 k12 => ?_
          have ow12 := (ow11.go g12').put (o := .lst (xf ++ vs ++ vs3)) (fun z => npw z.symm)
          have hwl := kw7.length
          rw [List.length_map] at hwl
          rw [List.length_append] at hk2
          refine g_ext (ds := [wtD (first, 1 + j, slot, true), wtD (first + (1 + j), many - (1 + j), slot + 1, false)]) g12 rfl ow12 hpw0 (ad_lst (ea_cons (ad_tup (ds := [.int (first : Nat), .int (1 + j : Nat), .int (slot : Nat), .bool true]) (ea_cons (ed_var rfl (.int _)) (ea_cons (Ed.is (ed_var rfl (.int _)) (by congr 1 <;> omega)) (ea_cons (ed_var rfl (.int _)) (ea_cons ed_bl ea_nil)))) (by show 4 ≤ 100000; decide)) (ea_cons (ad_tup (ds := [.int (first + (1 + j) : Nat), .int (many - (1 + j) : Nat), .int (slot + 1 : Nat), .bool false]) (ea_cons (Ed.is (ad_add (ed_var rfl (.int _)) (ed_var rfl (.int _)) g12.o) (by congr 1 <;> omega)) (ea_cons (Ed.is (ad_sub (ed_var rfl (.int _)) (ed_var rfl (.int _)) g12.o) (by congr 1 <;> omega)) (ea_cons (Ed.is (ad_add (ed_var rfl (.int _)) ed_int g12.o) (by congr 1 <;> omega)) (ea_cons ed_bl ea_nil)))) (by show 4 ≤ 100000; decide)) ea_nil)) (by show 2 ≤ 100000; decide)) (by show _ + 2 ≤ 100000; omega) fun vs4 I13 H13 g13 g13' ow13 k13 => ?_
          have ix : Ex I7 I13 := gx.i.trans (g12'.i.trans g13'.i)
          refine ⟨m, Nat.lt_succ_self _, _, _, _, _, _, _, _, I13, _, _, _, ws' ++ [(first, 1 + j, slot, true), (first + (1 + j), many - (1 + j), slot + 1, false)], rfl, g13, (of12.go g13').put npw, ?_, ow13, ?_, kt7.mono ix, hgo⟩
          · rw [List.map_append]
            exact (kf7.mono ix).append (k12.mono g13'.i)
          · rw [List.map_append]
            exact (kw7.mono ix).append k13
      · rw [if_neg hck] at hgo
        cases hgo
  · have hz : ws = [] := by
      cases ws with
      | nil => rfl
      | cons a b => cases hb
    subst hz
    cases m with
    | zero => cases hgo
    | succ m =>
      rw [schGo] at hgo
      have hgo : some found = some res := hgo
      cases hgo
      exact g_retO q (g.step e5) rfl (of3.step e5) kf3 hpf
end
end K84
namespace K84
open PySem PySem.Spec PyProof.Rows L2 KD
local macro_rules
  | `(tactic| walk_at "ed") => `(tactic| first
    | with_reducible assumption
    | with_reducible exact Ex.refl _
    | (with_reducible apply Go.o; with_reducible assumption)
    | with_reducible exact ed_int
    | with_reducible exact ed_bl
    | with_reducible exact ed_str
    | with_reducible exact ed_non
    | ((with_reducible apply ed_var) <;> (first | (exact rfl) | exact Is.int _ | exact Is.bl _ | exact Is.str _ | exact Is.non | with_reducible assumption))
    | ((with_reducible apply ad_add) <;> walk_at "ed")
    | ((with_reducible apply ad_sub) <;> walk_at "ed")
    | ((with_reducible apply ad_lt) <;> walk_at "ed")
    | ((with_reducible apply ad_le) <;> walk_at "ed")
    | ((with_reducible apply ad_gt) <;> walk_at "ed")
    | ((with_reducible apply ad_ge) <;> walk_at "ed")
    | ((with_reducible apply ad_eqI) <;> walk_at "ed")
    | ((with_reducible apply ad_neI) <;> walk_at "ed")
    | ((with_reducible apply ad_eqS) <;> walk_at "ed")
    | ((with_reducible apply ad_neS) <;> walk_at "ed")
    | ((with_reducible apply ad_notV) <;> walk_at "ed")
    | ((with_reducible apply ad_neg) <;> walk_at "ed")
    | ((with_reducible apply ad_lenL) <;> walk_at "ed")
    | ((with_reducible refine ad_tup ?_ ?_) <;> (first | walk_at "ed" | (simp only [List.length_cons, List.length_nil]; decide)))
    | ((with_reducible refine ad_lst ?_ ?_) <;> (first | walk_at "ed" | (simp only [List.length_cons, List.length_nil]; decide)))
    | ((with_reducible apply ea_cons) <;> walk_at "ed")
    | with_reducible exact ea_nil)

def ahF (ks : List Int) (k : Nat) : List Int := ((List.range k).filter fun i => gI ks i == 1).map fun (i : Nat) => (i : Int)
def placesF (ks : List Int) : List Int := ahF ks ks.length ++ (if lastI ks = 0 then [(ks.length : Int)] else [])
theorem ahF_succ (ks : List Int) (k : Nat) : ahF ks (k + 1) = ahF ks k ++ (if gI ks k = 1 then [(k : Int)] else []) := by
  unfold ahF
  rw [List.range_succ, List.filter_append, List.map_append]
  congr 1
  by_cases h : gI ks k = 1
  · simp [h]
  · simp [h]
theorem ahF_len (ks : List Int) (k : Nat) : (ahF ks k).length ≤ k := by
  unfold ahF
  rw [List.length_map]
  exact Nat.le_trans (List.length_filter_le _ _) (by rw [List.length_range]; exact Nat.le_refl _)
theorem placesF_len (ks : List Int) : (placesF ks).length ≤ ks.length + 1 := by
  unfold placesF
  rw [List.length_append]
  have := ahF_len ks ks.length
  split <;> simp <;> omega
section
variable {P : Program} {w : World} {K : PySem.W.Frag} {mg : Str → Option Value} {base : Heap} {C : Addr}
abbrev N_best_schedule : List Str := ["costs", "c"]
theorem sc_best_schedule : FnScope N_best_schedule ["costs", "c"] (defScope s_best_schedule) := ⟨rfl, rfl, rfl, by decide +kernel, rfl, by decide +kernel, by decide +kernel⟩
abbrev sp_best_schedule : Sp := spOf (fun a : Nat × Nat × List Cm => [kD (onesL a.1), .int a.2.1]) (fun a => 1 ≤ a.1 ∧ a.1 ≤ 60 ∧ 1 ≤ a.2.1 ∧ a.2.1 ≤ 40 ∧ schO a.1 a.2.1 = some a.2.2) fun a => csD a.2.2
theorem ok_best_schedule (T : Txt K mg C) (F : Fn K mg "best_schedule" s_best_schedule) (c_check_costs : Cal P w K mg base 4 "check_costs" ["costs"] s_check_costs sp_check_costs) (c_check_slots : Cal P w K mg base 3 "check_slots" ["c"] s_check_slots sp_check_slots) (c_schedule_of : Cal P w K mg base 3 "schedule_of" ["costs", "c"] s_schedule_of sp_schedule_of) : Cal P w K mg base 5 "best_schedule" ["costs", "c"] s_best_schedule sp_best_schedule := by
  refine cal_mk F sc_best_schedule (fun _ _ _ _ _ _ us hl => match us, hl with | [_, _], _ => rfl) (fun vs H Q E h => spOf_len (n := 2) (fun _ => rfl) h) (fun f cdv A outer s H vs Q E hr h => ?_)
  obtain ⟨⟨n, c, res⟩, I, e, k, ⟨h1, h2, h3, h4, h5⟩, q⟩ := spOf_out h
  dsimp only at k h1 h2 h3 h4 h5 q
  obtain ⟨v1, v2, rfl, k1, k2⟩ := isAll2 k
  cases k2
  refine ⟨_, (pss_cons (ps_expr (pe_cal c_check_costs hr (by first | decide | exact Nat.le_refl _) rfl (pa_cons (pv 0) pa_nil))) (pss_cons (ps_expr (pe_cal c_check_slots hr (by first | decide | exact Nat.le_refl _) rfl (pa_cons (pv 1) pa_nil))) (pss_one (ps_ret (pe_cal c_schedule_of hr (by first | decide | exact Nat.le_refl _) rfl (pa_cons (pv 0) (pa_cons (pv 1) pa_nil))))))), ?_⟩
  refine q_drop (Go.refl e) (ed_callD (I := I) (onesL n) (goodCosts_ones h1 h2) (ea_cons (ed_var rfl k1) ea_nil)) fun H1 g1 e1 => ?_
  refine q_drop g1 (ed_callD (I := I) (c : Int) (by omega) (by walk_at "ed")) fun H2 g2 e2 => ?_
  exact g_ret q g2 (ed_callD (n, c, res) (by exact ⟨h1, h2, h3, h4, h5⟩) (ea_cons (ed_var rfl k1) (ea_cons (ed_var rfl (.int _)) ea_nil)))
abbrev N_places_of : List Str := ["kinds", "ahead", "at", "kind"]
theorem sc_places_of : FnScope N_places_of ["kinds"] (defScope s_places_of) := ⟨rfl, rfl, rfl, by decide +kernel, rfl, by decide +kernel, by decide +kernel⟩
abbrev sp_places_of : Sp := spOf (fun ks : List Int => [kD ks]) (fun ks => 1 ≤ ks.length ∧ ks.length ≤ 60) fun ks => kD (placesF ks)
theorem ok_places_of (T : Txt K mg C) (F : Fn K mg "places_of" s_places_of) : Cal P w K mg base 1 "places_of" ["kinds"] s_places_of sp_places_of := by
  refine cal_mk F sc_places_of (fun _ _ _ _ _ _ us hl => match us, hl with | [_], _ => rfl) (fun vs H Q E h => spOf_len (n := 1) (fun _ => rfl) h) (fun f cdv A outer s H vs Q E hr h => ?_)
  obtain ⟨ks, I, e, k, ⟨h1, h2⟩, q⟩ := spOf_out h
  obtain ⟨v1, rfl, k1⟩ := isAll1 k
  refine ⟨_, (pss_cons (ps_setLc (i := 1) (own := [("at", 2), ("kind", 3)]) rfl sc_places_of.nd rfl rfl (sw_true rfl rfl rfl (by decide +kernel)) (pi_enum (by rfl) T.b_enumerate (pa_cons (pv 0) pa_nil)) (blkOk_by (N := N_places_of) (own := [("at", 2), ("kind", 3)]) (sc := defScope s_places_of) (by decide +kernel)) (fun _ _ _ _ _ => (show PG _ _ (gTup K 2 (gCons (gName 2) (gCons (gName 3) gNil))) from (pg_tup (by rfl) (pgs_cons (pg_name (i := 2) sc_places_of.nd rfl (Or.inl rfl)) (pgs_cons (pg_name (i := 3) sc_places_of.nd rfl (Or.inl rfl)) pgs_nil))))) (fun _ _ _ _ _ => (pts_one (pt_cmpR op_eq (pv 3) pe_int (nomark _)))) (fun _ _ _ _ _ => (pv 2))) (pss_one (ps_ret (pe_op op_cat (pv 1) (pe_ifExp (pt_cmpR op_eq (pe_ix ix_list (pv 0) (pe_un un_neg pe_int) (fun _ _ => rfl)) pe_int (nomark _)) (pe_lst (pa_cons (pe_callB call_len_seq (by rfl) T.b_len (by decide +kernel) (pa_cons (pv 0) pa_nil)) pa_nil)) (pe_lst pa_nil)))))), ?_⟩
  refine q_set (d := kD (ahF ks ks.length)) (Go.refl e) (ed_lcE (I := I) ks PyData.int (fun i a => if a = 1 then some (.int i) else none) (ed_var rfl k1) (by omega) (fun _ _ => rfl) (fun i a x I' H' ha a1 a2 a3 kx => ?_) (fun i => (ahF ks i).map PyData.int) (by rfl) (fun i a ha => ?_) (fun i => by rw [List.length_map]; exact ahF_len ks i)) fun v I2 H2 g2 g2' kv => ?_
  · cases kx
    by_cases hb : a = 1
    · rw [if_pos hb]
      exact ⟨Et.is (et_test (J := I') (ad_eqI (ed_var rfl (.int _)) ed_int a2) a2) (by rw [decide_eq_true hb]), ed_var rfl (.int _)⟩
    · rw [if_neg hb]
      exact Et.is (et_test (J := I') (ad_eqI (ed_var rfl (.int _)) ed_int a2) a2) (by rw [decide_eq_false hb])
  · have hg : gI ks i = a := by
      unfold gI
      rw [ha]
      rfl
    rw [ahF_succ, List.map_append, hg]
    by_cases hb : a = 1
    · rw [if_pos hb, if_pos hb]
      rfl
    · rw [if_neg hb, if_neg hb]
      rfl
  · refine g_ret q g2 (Ed.is (ed_cat (es := (if lastI ks = 0 then [(ks.length : Int)] else []).map PyData.int) (ed_var rfl kv) (ed_if (et_test (J := I2) (ad_eqI (ed_ixL (ed_var rfl (k1.mono g2.i)) (ad_neg ed_int g2.o) g2.o (atI_last (fun z => by rw [z] at h1; cases h1))) ed_int g2.o) g2.o) (fun hb => ?_) fun hb => ?_) g2.o ?_) ?_)
    · have hb : lastI ks = 0 := by simpa using hb
      rw [if_pos hb]
      refine ad_lst (ds := [.int ks.length]) (ea_cons (Ed.is (ed_lenL (ed_var rfl (k1.mono g2.i)) g2.o) (by rw [List.length_map])) ea_nil) (by show 1 ≤ 100000; decide)
    · have hb : ¬ lastI ks = 0 := by simpa using hb
      rw [if_neg hb]
      exact ad_lst (ds := []) ea_nil (by show 0 ≤ 100000; decide)
    · rw [List.length_map, List.length_map]
      have := ahF_len ks ks.length
      split <;> simp <;> omega
    · unfold placesF
      rw [← List.map_append]
abbrev N_least_count : List Str := ["kinds", "c"]
theorem sc_least_count : FnScope N_least_count ["kinds", "c"] (defScope s_least_count) := ⟨rfl, rfl, rfl, by decide +kernel, rfl, by decide +kernel, by decide +kernel⟩
abbrev sp_least_count : Sp := spOf (fun a : List Int × Int => [kD a.1, .int a.2]) (fun a => GoodKinds a.1 ∧ 1 ≤ a.2 ∧ a.2 ≤ 40) fun a => .int (lrI (placesF a.1).length a.2 * (placesF a.1).length - chI (a.2 + lrI (placesF a.1).length a.2) (a.2 + 1))
theorem ok_least_count (T : Txt K mg C) (F : Fn K mg "least_count" s_least_count) (c_check_kinds : Cal P w K mg base 3 "check_kinds" ["kinds"] s_check_kinds sp_check_kinds) (c_check_slots : Cal P w K mg base 3 "check_slots" ["c"] s_check_slots sp_check_slots) (c_places_of : Cal P w K mg base 1 "places_of" ["kinds"] s_places_of sp_places_of) (c_alike_in : Cal P w K mg base 3 "alike_in" ["rounds", "c"] s_alike_in sp_alike_in) : Cal P w K mg base 4 "least_count" ["kinds", "c"] s_least_count sp_least_count := by
  refine cal_mk F sc_least_count (fun _ _ _ _ _ _ us hl => match us, hl with | [_, _], _ => rfl) (fun vs H Q E h => spOf_len (n := 2) (fun _ => rfl) h) (fun f cdv A outer s H vs Q E hr h => ?_)
  obtain ⟨⟨ks, c⟩, I, e, k, ⟨h1, h2, h3⟩, q⟩ := spOf_out h
  dsimp only at k h1 h2 h3 q
  obtain ⟨v1, v2, rfl, k1, k2⟩ := isAll2 k
  cases k2
  refine ⟨_, (pss_cons (ps_expr (pe_cal c_check_kinds hr (by first | decide | exact Nat.le_refl _) rfl (pa_cons (pv 0) pa_nil))) (pss_cons (ps_expr (pe_cal c_check_slots hr (by first | decide | exact Nat.le_refl _) rfl (pa_cons (pv 1) pa_nil))) (pss_one (ps_ret (pe_ix ix_tup (pe_cal c_alike_in hr (by first | decide | exact Nat.le_refl _) rfl (pa_cons (pe_callB call_len_seq (by rfl) T.b_len (by decide +kernel) (pa_cons (pe_cal c_places_of hr (by first | decide | exact Nat.le_refl _) rfl (pa_cons (pv 0) pa_nil)) pa_nil)) (pa_cons (pv 1) pa_nil))) pe_int (fun _ _ => rfl)))))), ?_⟩
  refine q_drop (Go.refl e) (ed_callD (I := I) ks h1 (ea_cons (ed_var rfl k1) ea_nil)) fun H1 g1 e1 => ?_
  refine q_drop g1 (ed_callD (I := I) c (by exact ⟨h2, h3⟩) (by walk_at "ed")) fun H2 g2 e2 => ?_
  have hp := placesF_len ks
  obtain ⟨hk1, hk2, _⟩ := h1
  refine g_ret q g2 (ed_ixT (ed_callD (I := I) (((placesF ks).length : Int), c) (by exact ⟨by omega, by show ((placesF ks).length : Int) ≤ 100; omega, h2, h3⟩) (ea_cons (Ed.is (ed_lenL (J := I) (ed_callD (I := I) ks (by exact ⟨hk1, hk2⟩) (ea_cons (ed_var rfl k1) ea_nil)) g2.o) (by rw [List.length_map])) (by walk_at "ed"))) (by walk_at "ed") g2.o rfl)
abbrev N_moved : List Str := ["places", "unit", "many"]
theorem sc_moved : FnScope N_moved ["places", "unit", "many"] (defScope s_moved) := ⟨rfl, rfl, rfl, by decide +kernel, rfl, by decide +kernel, by decide +kernel⟩
abbrev sp_moved : Sp := spOf (fun a : List Int × Int × Int => [kD a.1, .int a.2.1, .int a.2.2]) (fun a => 0 ≤ a.2.1 ∧ 0 ≤ a.2.2 ∧ a.2.1 + a.2.2 < a.1.length) fun a => cmD (cRun (gI a.1 (a.2.1 + a.2.2).toNat - gI a.1 a.2.1.toNat))
theorem ok_moved (T : Txt K mg C) (F : Fn K mg "moved" s_moved) : Cal P w K mg base 1 "moved" ["places", "unit", "many"] s_moved sp_moved := by
  refine cal_mk F sc_moved (fun _ _ _ _ _ _ us hl => match us, hl with | [_, _, _], _ => rfl) (fun vs H Q E h => spOf_len (n := 3) (fun _ => rfl) h) (fun f cdv A outer s H vs Q E hr h => ?_)
  obtain ⟨⟨pl, u, m⟩, I, e, k, ⟨h1, h2, h3⟩, q⟩ := spOf_out h
  dsimp only at k h1 h2 h3 q
  obtain ⟨v1, v2, v3, rfl, k1, k2, k3⟩ := isAll3 k
  cases k2
  cases k3
  refine ⟨_, (pss_one (ps_ret (pe_tup (pa_cons (pe_gk T.k_RUN rfl) (pa_cons (pe_op op_sub (pe_ix ix_list (pv 0) (pe_op op_add (pv 1) (pv 2)) (fun _ _ => rfl)) (pe_ix ix_list (pv 0) (pv 1) (fun _ _ => rfl))) pa_nil))))), ?_⟩
  exact g_ret q (Go.refl e) (ad_tup (ds := [.str "run", .int (gI pl (u + m).toNat - gI pl u.toNat)]) (ea_cons ed_str (ea_cons (ad_sub (ed_ixL (ed_var rfl k1) (by walk_at "ed") e (atI_g (i := (u + m).toNat) (by omega) (by omega))) (ed_ixL (ed_var rfl k1) (by walk_at "ed") e (atI_g (i := u.toNat) (by omega) (by omega))) e) ea_nil)) (by show 2 ≤ 100000; decide))
abbrev N_unit_turned : List Str := ["places", "kinds", "unit", "first", "many"]
theorem sc_unit_turned : FnScope N_unit_turned ["places", "kinds", "unit"] (defScope s_unit_turned) := ⟨rfl, rfl, rfl, by decide +kernel, rfl, by decide +kernel, by decide +kernel⟩
def unitFirst (pl : List Int) (u : Nat) : Int := if 0 < u then gI pl (u - 1) + 1 else 0
def unitMany (pl : List Int) (n u : Nat) : Int := gI pl u - unitFirst pl u + (if gI pl u < n then 1 else 0)
def unitT (pl : List Int) (n u : Nat) : List Cm := List.replicate (unitMany pl n u).toNat .turn
abbrev sp_unit_turned : Sp := spOf (fun a : List Int × List Int × Nat => [kD a.1, kD a.2.1, .int a.2.2]) (fun a => a.2.2 < a.1.length ∧ ∀ x ∈ a.1, 0 ≤ x ∧ x ≤ 100) fun a => csD (unitT a.1 a.2.1.length a.2.2)
theorem gI_mem {l : List Int} {i : Nat} (h : i < l.length) : gI l i ∈ l := by
  unfold gI
  rw [List.getElem?_eq_getElem h]
  exact List.getElem_mem h
theorem unitMany_le {pl : List Int} {n u : Nat} (h1 : u < pl.length) (h2 : ∀ x ∈ pl, 0 ≤ x ∧ x ≤ 100) : -101 ≤ unitMany pl n u ∧ unitMany pl n u ≤ 101 := by
  unfold unitMany unitFirst
  obtain ⟨a1, a2⟩ := h2 _ (gI_mem h1)
  by_cases hu : 0 < u
  · obtain ⟨b1, b2⟩ := h2 _ (gI_mem (show u - 1 < pl.length by omega))
    rw [if_pos hu]
    split <;> omega
  · rw [if_neg hu]
    split <;> omega
theorem ok_unit_turned (T : Txt K mg C) (F : Fn K mg "unit_turned" s_unit_turned) : Cal P w K mg base 1 "unit_turned" ["places", "kinds", "unit"] s_unit_turned sp_unit_turned := by
  refine cal_mk F sc_unit_turned (fun _ _ _ _ _ _ us hl => match us, hl with | [_, _, _], _ => rfl) (fun vs H Q E h => spOf_len (n := 3) (fun _ => rfl) h) (fun f cdv A outer s H vs Q E hr h => ?_)
  obtain ⟨⟨pl, ks, u⟩, I, e, k, ⟨h1, h2⟩, q⟩ := spOf_out h
  dsimp only at k h1 h2 q
  obtain ⟨v1, v2, v3, rfl, k1, k2, k3⟩ := isAll3 k
  cases k3
  refine ⟨_, (pss_cons (ps_set (i := 3) sc_unit_turned.nd rfl (Or.inl rfl) (pe_ifExp (pt_cmpR op_gt (pv 2) pe_int (nomark _)) (pe_op op_add (pe_ix ix_list (pv 0) (pe_op op_sub (pv 2) pe_int) (fun _ _ => rfl)) pe_int) pe_int)) (pss_cons (ps_set (i := 4) sc_unit_turned.nd rfl (Or.inl rfl) (pe_op op_add (pe_op op_sub (pe_ix ix_list (pv 0) (pv 2) (fun _ _ => rfl)) (pv 3)) (pe_ifExp (pt_cmpR op_lt (pe_ix ix_list (pv 0) (pv 2) (fun _ _ => rfl)) (pe_callB call_len_seq (by rfl) T.b_len (by decide +kernel) (pa_cons (pv 1) pa_nil)) (nomark _)) pe_int pe_int))) (pss_one (ps_ret (pe_op op_rep (pe_lst (pa_cons (pe_tup (pa_cons (pe_gk T.k_TURN rfl) pa_nil)) pa_nil)) (pv 4)))))), ?_⟩
  have hml := unitMany_le (n := ks.length) h1 h2
  refine q_int (Go.refl e) (n := unitFirst pl u) (ed_if (et_test (J := I) (ad_gt (ed_var rfl (.int _)) ed_int e) e) (fun hb => ?_) fun hb => ?_) fun H1 g1 e1 => ?_
  · have hb : (0 : Int) < u := by simpa using hb
    unfold unitFirst
    rw [if_pos (by omega)]
    exact ad_add (ed_ixL (ed_var rfl k1) (by walk_at "ed") e (atI_g (i := u - 1) (by omega) (by omega))) ed_int e
  · have hb : ¬ (0 : Int) < u := by simpa using hb
    unfold unitFirst
    rw [if_neg (by omega)]
    exact ed_int
  · refine q_int g1 (n := unitMany pl ks.length u) (ad_add (ad_sub (ed_ixL (ed_var rfl k1) (by walk_at "ed") g1.o (atI_g (i := u) rfl h1)) (by walk_at "ed") g1.o) (ed_if (d := .int (if gI pl u < ks.length then 1 else 0)) (et_test (J := I) (ad_lt (ed_ixL (ed_var rfl k1) (by walk_at "ed") g1.o (atI_g (i := u) rfl h1)) (Ed.is (ed_lenL (ed_var rfl k2) g1.o) (by rw [List.length_map])) g1.o) g1.o) (fun hb => ?_) fun hb => ?_) g1.o) fun H2 g2 e2 => ?_
    · rw [if_pos (by simpa using hb)]
      exact ed_int
    · rw [if_neg (by simpa using hb)]
      exact ed_int
    · refine g_ret q g2 (Ed.is (ed_rep (ds := [.tuple [.str "turn"]]) (by walk_at "ed") (ed_var rfl (.int _)) g2.o (by omega) (by show 1 * _ ≤ _; omega)) ?_)
      rw [rep_one]
      show _ = PyData.list ((List.replicate _ Cm.turn).map cmD)
      rw [List.map_replicate]
      rfl
end
end K84
namespace K84
open PySem PySem.Spec PyProof.Rows L2 KD
local macro_rules
  | `(tactic| walk_at "ed") => `(tactic| first
    | with_reducible assumption
    | with_reducible exact Ex.refl _
    | (with_reducible apply Go.o; with_reducible assumption)
    | with_reducible exact ed_int
    | with_reducible exact ed_bl
    | with_reducible exact ed_str
    | with_reducible exact ed_non
    | ((with_reducible apply ed_var) <;> (first | (exact rfl) | exact Is.int _ | exact Is.bl _ | exact Is.str _ | exact Is.non | with_reducible assumption))
    | ((with_reducible apply ad_add) <;> walk_at "ed")
    | ((with_reducible apply ad_sub) <;> walk_at "ed")
    | ((with_reducible apply ad_lt) <;> walk_at "ed")
    | ((with_reducible apply ad_le) <;> walk_at "ed")
    | ((with_reducible apply ad_gt) <;> walk_at "ed")
    | ((with_reducible apply ad_ge) <;> walk_at "ed")
    | ((with_reducible apply ad_eqI) <;> walk_at "ed")
    | ((with_reducible apply ad_neI) <;> walk_at "ed")
    | ((with_reducible apply ad_eqS) <;> walk_at "ed")
    | ((with_reducible apply ad_neS) <;> walk_at "ed")
    | ((with_reducible apply ad_notV) <;> walk_at "ed")
    | ((with_reducible apply ad_neg) <;> walk_at "ed")
    | ((with_reducible apply ad_lenL) <;> walk_at "ed")
    | ((with_reducible refine ad_tup ?_ ?_) <;> (first | walk_at "ed" | (simp only [List.length_cons, List.length_nil]; decide)))
    | ((with_reducible refine ad_lst ?_ ?_) <;> (first | walk_at "ed" | (simp only [List.length_cons, List.length_nil]; decide)))
    | ((with_reducible apply ea_cons) <;> walk_at "ed")
    | with_reducible exact ea_nil)

/-- the plain commands, taken over to the places -/
def undoGo (pl : List Int) (n : Nat) : List Cm → Int → Int → (Int → Option Int) → List Cm → Option (List Cm)
  | [], _, _, _, found => some found
  | .mv w m :: r, here, left, kept, found =>
    if found.length ≤ 5000 then
      (if w = "keep" then undoGo pl n r here left (fun i => if i = m then some here else kept i) (found ++ [.mv w m])
      else if w = "take" then (match kept m with
        | some h => undoGo pl n r h left kept (found ++ [.mv w m])
        | none => none)
      else if w = "run" then (if 0 ≤ here ∧ 0 ≤ m ∧ here + m < pl.length then undoGo pl n r (here + m) left kept (found ++ [cRun (gI pl (here + m).toNat - gI pl here.toNat)]) else none)
      else none)
    else none
  | .turn :: r, here, left, kept, found =>
    if found.length ≤ 5000 ∧ 1 ≤ left ∧ left ≤ pl.length then undoGo pl n r here (left - 1) kept (found ++ unitT pl n (left - 1).toNat) else none
  | _, _, _, _, _ => none
def undoStart (pl : List Int) : List Cm := if 0 < gI pl 0 then [cRun (gI pl 0)] else []
def undoO (ks : List Int) (cs : List Cm) : Option (List Cm) := undoGo (placesF ks) ks.length cs 0 (placesF ks).length (fun _ => none) (undoStart (placesF ks))
theorem placesF_ne {ks : List Int} (h : 1 ≤ (placesF ks).length) : placesF ks ≠ [] := fun z => by rw [z] at h; cases h
section
variable {P : Program} {w : World} {K : PySem.W.Frag} {mg : Str → Option Value} {base : Heap} {C : Addr}
theorem q_parIID {I0 H0 I H : Hp} {σ : L2.St} {D : Ends} {te1 te2 : TE} {tz : TS} {i j l : Nat} {m n : Int} (g : Go I0 H0 I H) (h1 : Ed te1 σ H I (.int m)) (h2 : Ed te2 σ H I (.int n)) (k : ∀ p H2, Ex H H2 → Go I0 H0 I (upd H2 p (.dK [])) → H2 p = none → tz D (((σ.set i (some (.int m))).set j (some (.int n))).set l (some (.ref p))) (upd H2 p (.dK []))) : tSeq (tPar3 i j l (tCons te1 (tCons te2 (tCons tDNewK tNil)))) tz D σ H :=
  h1.int g.o H (Ex.refl _) _ fun H1 e1 => h2.int g.o H1 e1 _ fun H2 e2 => fun p hp => ⟨.int m, .int n, .ref p, rfl, k p H2 (e1.trans e2) (g.step ((e1.trans e2).trans (Ex.new hp))) hp⟩
theorem q_newIf {I0 H0 I H : Hp} {σ : L2.St} {D : Ends} {t : TT} {ta tb : TA} {tz : TS} {i : Nat} {ds : List PyData} {b : Bool} (g : Go I0 H0 I H) (ht : Et t σ H b) (h1 : b = true → ∀ H1, Go I0 H0 I H1 → Ea ta σ H1 I ds) (h2 : b = false → ∀ H1, Go I0 H0 I H1 → Ea tb σ H1 I ds) (hl : ds.length ≤ 100000)
    (k : ∀ p vs I2 H2, Go I0 H0 I2 H2 → Go I H I2 H2 → Own I2 H2 p vs → IsAll I2 vs ds → H p = none → tz D (σ.set i (some (.ref p))) H2) : tSeq (tAsg (tIf t (tLst ta) (tLst tb)) (gName i)) tz D σ H :=
  q_tif ht (fun hb H1 e1 => q_new (g.step e1) (h1 hb H1 (g.step e1)) hl fun p vs I2 H2 g2 g2' o kv hp => k p vs I2 H2 g2 ⟨g2'.i, (fun a o z => (g2'.n a o z).imp id fun y => e1.free y), e1.trans g2'.h, g2'.o⟩ o kv (e1.free hp)) fun hb H1 e1 => q_new (g.step e1) (h2 hb H1 (g.step e1)) hl fun p vs I2 H2 g2 g2' o kv hp => k p vs I2 H2 g2 ⟨g2'.i, (fun a o z => (g2'.n a o z).imp id fun y => e1.free y), e1.trans g2'.h, g2'.o⟩ o kv (e1.free hp)
abbrev N_undoing_of : List Str := ["kinds", "c", "places", "found", "here", "left", "kept", "command"]
theorem sc_undoing_of : FnScope N_undoing_of ["kinds", "c"] (defScope s_undoing_of) := ⟨rfl, rfl, rfl, by decide +kernel, rfl, by decide +kernel, by decide +kernel⟩
abbrev sp_undoing_of : Sp := spOf (fun a : List Int × Nat × List Cm × List Cm => [kD a.1, .int a.2.1]) (fun a => (1 ≤ a.1.length ∧ a.1.length ≤ 60 ∧ 1 ≤ (placesF a.1).length ∧ (placesF a.1).length ≤ 60 ∧ (∀ x ∈ placesF a.1, 0 ≤ x ∧ x ≤ 100) ∧ 1 ≤ a.2.1 ∧ a.2.1 ≤ 40) ∧ a.2.2.1.length ≤ 1000 ∧ schO (placesF a.1).length a.2.1 = some a.2.2.1 ∧ undoO a.1 a.2.2.1 = some a.2.2.2) fun a => csD a.2.2.2
theorem ok_undoing_of (T : Txt K mg C) (F : Fn K mg "undoing_of" s_undoing_of) (c_places_of : Cal P w K mg base 1 "places_of" ["kinds"] s_places_of sp_places_of) (c_schedule_of : Cal P w K mg base 3 "schedule_of" ["costs", "c"] s_schedule_of sp_schedule_of) (c_moved : Cal P w K mg base 1 "moved" ["places", "unit", "many"] s_moved sp_moved) (c_unit_turned : Cal P w K mg base 1 "unit_turned" ["places", "kinds", "unit"] s_unit_turned sp_unit_turned) : Cal P w K mg base 4 "undoing_of" ["kinds", "c"] s_undoing_of sp_undoing_of := by
  refine cal_mk F sc_undoing_of (fun _ _ _ _ _ _ us hl => match us, hl with | [_, _], _ => rfl) (fun vs H Q E h => spOf_len (n := 2) (fun _ => rfl) h) (fun f cdv A outer s H vs Q E hr h => ?_)
  obtain ⟨⟨ks, c, plain, res⟩, I, e, k, ⟨⟨h1, h2, h3, h4, h5, h6, h7⟩, h8, h9, h10⟩, q⟩ := spOf_out h
  dsimp only at k h1 h2 h3 h4 h5 h6 h7 h8 h9 h10 q
  obtain ⟨v1, v2, rfl, k1, k2⟩ := isAll2 k
  cases k2
  have hu := room_hu hr
  refine ⟨_, (pss_cons (ps_set (i := 2) sc_undoing_of.nd rfl (Or.inl rfl) (pe_cal c_places_of hr (by first | decide | exact Nat.le_refl _) rfl (pa_cons (pv 0) pa_nil))) (pss_cons (ps_set (i := 3) sc_undoing_of.nd rfl (Or.inl rfl) (pe_ifExp (pt_cmpR op_gt (pe_ix ix_list (pv 2) pe_int (fun _ _ => rfl)) pe_int (nomark _)) (pe_lst (pa_cons (pe_tup (pa_cons (pe_gk T.k_RUN rfl) (pa_cons (pe_ix ix_list (pv 2) pe_int (fun _ _ => rfl)) pa_nil))) pa_nil)) (pe_lst pa_nil))) (pss_cons (ps_par3 (i := 4) (j := 5) (l := 6) (by rfl) sc_undoing_of.nd rfl rfl rfl (by decide) (by decide) (by decide) rfl rfl rfl (pa_cons pe_int (pa_cons (pe_callB call_len_seq (by rfl) T.b_len (by decide +kernel) (pa_cons (pv 2) pa_nil)) (pa_cons pe_dnewK pa_nil))) (by rfl)) (pss_cons (ps_for PassesOwn.never rfl (pi_list (pe_cal c_schedule_of hr (by first | decide | exact Nat.le_refl _) rfl (pa_cons (pe_op op_rep (pe_lst (pa_cons pe_int pa_nil)) (pe_callB call_len_seq (by rfl) T.b_len (by decide +kernel) (pa_cons (pv 2) pa_nil))) (pa_cons (pv 1) pa_nil)))) (pg_name (i := 7) sc_undoing_of.nd rfl (Or.inl rfl)) (pss_one (ps_if (pt_cmpR op_eq (pe_ix ix_tup (pv 7) pe_int (fun _ _ => rfl)) (pe_gk T.k_KEEP rfl) (nomark _)) (pss_cons (ps_dput hu (pv 6) (pe_ix ix_tup (pv 7) pe_int (fun _ _ => rfl)) (pv 4) (by rfl)) (pss_one (ps_expr (pe_bm PySem.F.plainAttrs_list PySem.F.slot_list_append PySem.F.type_list_append mt_append (pv 3) (pa_cons (pv 7) pa_nil))))) (pss_one (ps_if (pt_cmpR op_eq (pe_ix ix_tup (pv 7) pe_int (fun _ _ => rfl)) (pe_gk T.k_TAKE rfl) (nomark _)) (pss_cons (ps_set (i := 4) sc_undoing_of.nd rfl (Or.inl rfl) (pe_dget hu (pv 6) (pe_ix ix_tup (pv 7) pe_int (fun _ _ => rfl)) (fun _ _ => rfl))) (pss_one (ps_expr (pe_bm PySem.F.plainAttrs_list PySem.F.slot_list_append PySem.F.type_list_append mt_append (pv 3) (pa_cons (pv 7) pa_nil))))) (pss_one (ps_if (pt_cmpR op_eq (pe_ix ix_tup (pv 7) pe_int (fun _ _ => rfl)) (pe_gk T.k_RUN rfl) (nomark _)) (pss_cons (ps_expr (pe_bm PySem.F.plainAttrs_list PySem.F.slot_list_append PySem.F.type_list_append mt_append (pv 3) (pa_cons (pe_cal c_moved hr (by first | decide | exact Nat.le_refl _) rfl (pa_cons (pv 2) (pa_cons (pv 4) (pa_cons (pe_ix ix_tup (pv 7) pe_int (fun _ _ => rfl)) pa_nil)))) pa_nil))) (pss_one (ps_set (i := 4) sc_undoing_of.nd rfl (Or.inl rfl) (pe_op op_add (pv 4) (pe_ix ix_tup (pv 7) pe_int (fun _ _ => rfl)))))) (pss_cons (ps_set (i := 5) sc_undoing_of.nd rfl (Or.inl rfl) (pe_op op_sub (pv 5) pe_int)) (pss_one (ps_expr (pe_bm PySem.F.plainAttrs_list PySem.F.slot_list_extend PySem.F.type_list_extend mt_extend (pv 3) (pa_cons (pe_cal c_unit_turned hr (by first | decide | exact Nat.le_refl _) rfl (pa_cons (pv 2) (pa_cons (pv 0) (pa_cons (pv 5) pa_nil)))) pa_nil)))))))))))) (pss_one (ps_ret (pv 3))))))), ?_⟩
  have hpl := placesF_ne h3
  refine q_set (d := kD (placesF ks)) (Go.refl e) (ed_callD (I := I) ks (by exact ⟨h1, h2⟩) (ea_cons (ed_var rfl k1) ea_nil)) fun vp I1 H1 g1 g1' kp => ?_
  have i0 : ∀ {σ : L2.St} {H1 : Hp} {te : TE}, Ex I1 H1 → Ed te σ H1 I1 (kD (placesF ks)) → Ed (tOp (rIxL K) te (tC (.int 0))) σ H1 I1 (.int (gI (placesF ks) 0)) := fun e h => ed_ixL h ed_int e (atI_g (k := 0) (i := 0) rfl (by omega))
  refine q_newIf (ds := (undoStart (placesF ks)).map cmD) g1 (et_test (J := I1) (ad_gt (i0 g1.o (ed_var rfl kp)) ed_int g1.o) g1.o) (fun hb H2 g2 => ?_) (fun hb H2 g2 => ?_) (by unfold undoStart; split <;> simp) fun pf vf I3 H3 g3 g3' of3 kf3 hpf => ?_
  · have hb : 0 < gI (placesF ks) 0 := by simpa using hb
    unfold undoStart
    rw [if_pos hb]
    exact ea_cons (ad_tup (ds := [.str "run", .int (gI (placesF ks) 0)]) (ea_cons ed_str (ea_cons (i0 g2.o (ed_var rfl kp)) ea_nil)) (by show 2 ≤ 100000; decide)) ea_nil
  · have hb : ¬ 0 < gI (placesF ks) 0 := by simpa using hb
    unfold undoStart
    rw [if_neg hb]
    exact ea_nil
  have hpf0 : H pf = none := g1.h.free hpf
  have kp3 := kp.mono g3'.i
  refine q_parIID g3 (m := 0) (n := (placesF ks).length) ed_int (Ed.is (ed_lenL (ed_var rfl kp3) g3.o) (by rw [List.length_map])) fun pk H4 e4 g4 hpk => ?_
  have npk : pf ≠ pk := ne_of_none (e4 _ _ of3.h) hpk
  have hpk0 : H pk = none := (g3.h.trans e4).free hpk
  have hpkI : I3 pk = none := (g3.o.trans e4).free hpk
  have of4 : Own I3 (upd H4 pk (.dK [])) pf vf := (of3.step e4).put npk
  have hplan : Ed (tCall sp_schedule_of [] E0 (tCons (tOp rRep (tLst (tCons (tC (.int 1)) tNil)) (tCB (rLenSq K) (tCons (tVar 2) tNil))) (tCons (tVar 1) tNil))) [some v1, some (.int c), some vp, some (.ref pf), some (.int 0), some (.int ((placesF ks).length : Nat)), some (.ref pk), none] (upd H4 pk (.dK [])) I3 (csD plain) := by
    refine ed_callD ((placesF ks).length, c, plain) (by exact ⟨h3, h4, h6, h7, h9⟩) (ea_cons ?_ (ea_cons (ed_var rfl (.int _)) ea_nil))
    refine Ed.is (ed_rep1 (d := .int 1) (by have e := g4.o; walk_at "ed") (ed_lenL (ed_var rfl kp3) g4.o) g4.o (by rw [List.length_map]; omega)) ?_
    show _ = PyData.list ((List.replicate (placesF ks).length (1 : Int)).map PyData.int)
    rw [List.map_replicate, List.length_map]
    rfl
  refine q_forL (I := I3) (ds := plain.map cmD) hplan g4.o (fun I2 i σ' H' => ∃ x7 I5 here left kept xf found, σ' = [some v1, some (.int c), some vp, some (.ref pf), some (.int here), some (.int left), some (.ref pk), x7] ∧ Go I H I5 H' ∧ Ex I2 I5 ∧ Own I5 H' pf xf ∧ IsAll I5 xf (found.map cmD) ∧ DI H' pk kept i ∧ I5 pk = none ∧ undoGo (placesF ks) ks.length (plain.drop i) here left kept found = some res) ?_ ?_ ?_ ?_
  · rintro I2 i σ' H' ⟨x7, I5, here, left, kept, xf, found, _, g, e, _⟩
    exact e.trans g.o
  · intro I2 H5 g5
    have hd : (upd H4 pk (.dK [])) pk = some (HO.dK []) := upd_same
    exact ⟨none, I2, 0, _, fun _ => none, vf, _, rfl, g4.trans g5, Ex.refl _, of4.go g5, kf3.mono g5.i, (DI.nil hd).ex g5.h, g5.n.none hd hpkI, h10⟩
  · rintro I2 i d x σ' H' e2 hd kx ⟨x7, I5, here, left, kept, xf, found, rfl, g, e5, of5, kf5, hdi, hpi, hgo⟩
    obtain ⟨cm, hcm, rfl⟩ := map_get hd
    have hil := (List.getElem?_eq_some_iff.mp hcm).1
    have hdr := List.drop_eq_getElem_cons hil
    rw [(List.getElem?_eq_some_iff.mp hcm).2] at hdr
    rw [hdr] at hgo
    have kx5 := kx.mono e5
    have hxl := kf5.length
    rw [List.length_map] at hxl
    have kp5 := kp3.mono (e2.trans e5)
    have k15 := (k1.mono (g1.i.trans g3'.i)).mono (e2.trans e5)
    cases cm with
    | turn =>
      have hgo : (if found.length ≤ 5000 ∧ 1 ≤ left ∧ left ≤ (placesF ks).length then undoGo (placesF ks) ks.length (plain.drop (i + 1)) here (left - 1) kept (found ++ unitT (placesF ks) ks.length (left - 1).toNat) else none) = some res := hgo
      by_cases hck : found.length ≤ 5000 ∧ 1 ≤ left ∧ left ≤ (placesF ks).length
      · rw [if_pos hck] at hgo
        obtain ⟨hc1, hc2, hc3⟩ := hck
        have hc : ∀ {H1 : Hp}, Ex I5 H1 → Ed (tOp (rIxT K) (tVar 7) (tC (.int 0))) [some v1, some (.int c), some vp, some (.ref pf), some (.int here), some (.int left), some (.ref pk), some x] H1 I5 (.str "turn") := fun e => ed_ixT (ed_var rfl kx5) ed_int e rfl
        refine g_if g (b := false) (Et.is (et_test (J := I5) (ad_eqS (hc g.o) ed_str g.o) g.o) (by decide)) (fun z => by cases z) fun _ H6 g6 e6 => ?_
        refine g_if g6 (b := false) (Et.is (et_test (J := I5) (ad_eqS (hc g6.o) ed_str g6.o) g6.o) (by decide)) (fun z => by cases z) fun _ H7 g7 e7 => ?_
        refine g_if g7 (b := false) (Et.is (et_test (J := I5) (ad_eqS (hc g7.o) ed_str g7.o) g7.o) (by decide)) (fun z => by cases z) fun _ H8 g8 e8 => ?_
        refine q_int g8 (n := left - 1) (ad_sub (ed_var rfl (.int _)) ed_int g8.o) fun H9 g9 e9 => ?_
        have e59 := ((e6.trans e7).trans e8).trans e9
        have hum := unitMany_le (pl := placesF ks) (n := ks.length) (u := (left - 1).toNat) (by omega) h5
        have hul : (unitT (placesF ks) ks.length (left - 1).toNat).length ≤ 101 := by
          unfold unitT
          rw [List.length_replicate]
          omega
        refine g_ext (ds := (unitT (placesF ks) ks.length (left - 1).toNat).map cmD) g9 rfl (of5.step e59) hpf0 (ed_callD (placesF ks, ks, (left - 1).toNat) (by exact ⟨by show (left - 1).toNat < (placesF ks).length; omega, h5⟩) (ea_cons (ed_var rfl kp5) (ea_cons (ed_var rfl k15) (ea_cons (ed_var rfl (by show Is _ _ (.int ((left - 1).toNat : Int)); rw [Int.toNat_of_nonneg (by omega)]; exact .int _)) ea_nil)))) (by rw [List.length_map]; omega) fun vs I10 H10 g10 g10' o10 k10 => ?_
        refine ⟨_, I10, here, left - 1, kept, _, _, rfl, g10, e5.trans g10'.i, o10, by rw [List.map_append]; exact (kf5.mono g10'.i).append k10, ?_, ?_, hgo⟩
        · obtain ⟨kvs, q1, q2, q3⟩ := (hdi.ex (e59.trans g10'.h)).ne (o := .lst (xf ++ vs)) (fun z => npk z.symm)
          exact ⟨kvs, q1, q2, by omega⟩
        · obtain ⟨kvs, q1, _⟩ := hdi.ex e59
          exact g10'.n.none q1 hpi
      · rw [if_neg hck] at hgo
        cases hgo
    | mv wd m =>
      have hgo : (if found.length ≤ 5000 then
        (if wd = "keep" then undoGo (placesF ks) ks.length (plain.drop (i + 1)) here left (fun i => if i = m then some here else kept i) (found ++ [.mv wd m])
        else if wd = "take" then (match kept m with
          | some h => undoGo (placesF ks) ks.length (plain.drop (i + 1)) h left kept (found ++ [.mv wd m])
          | none => none)
        else if wd = "run" then (if 0 ≤ here ∧ 0 ≤ m ∧ here + m < (placesF ks).length then undoGo (placesF ks) ks.length (plain.drop (i + 1)) (here + m) left kept (found ++ [cRun (gI (placesF ks) (here + m).toNat - gI (placesF ks) here.toNat)]) else none)
        else none) else none) = some res := hgo
      by_cases hck : found.length ≤ 5000
      · rw [if_pos hck] at hgo
        have hc : ∀ {H1 : Hp} {hh : Int}, Ex I5 H1 → Ed (tOp (rIxT K) (tVar 7) (tC (.int 0))) [some v1, some (.int c), some vp, some (.ref pf), some (.int hh), some (.int left), some (.ref pk), some x] H1 I5 (.str wd) := fun e => ed_ixT (ed_var rfl kx5) ed_int e rfl
        have hm : ∀ {I6 H1 : Hp} {hh : Int}, Ex I5 I6 → Ex I6 H1 → Ed (tOp (rIxT K) (tVar 7) (tC (.int 1))) [some v1, some (.int c), some vp, some (.ref pf), some (.int hh), some (.int left), some (.ref pk), some x] H1 I6 (.int m) := fun e1 e => ed_ixT (ed_var rfl (kx5.mono e1)) ed_int e rfl
        refine g_if g (et_test (J := I5) (ad_eqS (hc g.o) ed_str g.o) g.o) (fun hb H6 g6 e6 => ?_) fun hb H6 g6 e6 => ?_
        · have hb : wd = "keep" := by simpa using hb
          rw [if_pos hb] at hgo
          refine q_dput (hdi.ex e6) (by omega) g6 hpi hpk0 (ev_var rfl) (hm (Ex.refl _) g6.o) (ed_var rfl (.int here)) fun H7 o7 e7 g7 d7 => ?_
          refine g_app g7 rfl ((of5.step (e6.trans e7)).put npk) hpf0 (ed_var rfl kx5) (by omega) fun v I8 H8 g8 g8' o8 k8 => ?_
          refine ⟨_, I8, here, left, _, _, _, rfl, g8, e5.trans g8'.i, o8, by rw [map_snoc]; exact (kf5.mono g8'.i).append (.cons k8 .nil), (d7.ex g8'.h).ne (fun z => npk z.symm), ?_, hgo⟩
          obtain ⟨kvs, q1, _⟩ := d7
          exact g8'.n.none q1 hpi
        · have hb : ¬ wd = "keep" := by simpa using hb
          rw [if_neg hb] at hgo
          refine g_if g6 (et_test (J := I5) (ad_eqS (hc g6.o) ed_str g6.o) g6.o) (fun hb H7 g7 e7 => ?_) fun hb H7 g7 e7 => ?_
          · have hb : wd = "take" := by simpa using hb
            rw [if_pos hb] at hgo
            cases hkm : kept m with
            | none => rw [hkm] at hgo; cases hgo
            | some hh =>
              rw [hkm] at hgo
              have hgo : undoGo (placesF ks) ks.length (plain.drop (i + 1)) hh left kept (found ++ [.mv wd m]) = some res := hgo
              have d7 := hdi.ex (e6.trans e7)
              refine q_int g7 (n := hh) (ed_dget (J := I5) d7 hkm (ev_var rfl) (hm (Ex.refl _) g7.o) g7.o) fun H8 g8 e8 => ?_
              refine g_app g8 rfl (of5.step ((e6.trans e7).trans e8)) hpf0 (ed_var rfl kx5) (by omega) fun v I9 H9 g9 g9' o9 k9 => ?_
              refine ⟨_, I9, hh, left, _, _, _, rfl, g9, e5.trans g9'.i, o9, by rw [map_snoc]; exact (kf5.mono g9'.i).append (.cons k9 .nil), ?_, ?_, hgo⟩
              · obtain ⟨kvs, q1, q2, q3⟩ := ((d7.ex e8).ex g9'.h).ne (o := .lst (xf ++ [v])) (fun z => npk z.symm)
                exact ⟨kvs, q1, q2, by omega⟩
              · obtain ⟨kvs, q1, _⟩ := d7.ex e8
                exact g9'.n.none q1 hpi
          · have hb : ¬ wd = "take" := by simpa using hb
            rw [if_neg hb] at hgo
            by_cases hrun : wd = "run"
            · rw [if_pos hrun] at hgo
              refine g_if g7 (b := true) (Et.is (et_test (J := I5) (ad_eqS (hc g7.o) ed_str g7.o) g7.o) (by rw [decide_eq_true hrun])) (fun _ H8 g8 e8 => ?_) (fun z => by cases z)
              by_cases hck2 : 0 ≤ here ∧ 0 ≤ m ∧ here + m < (placesF ks).length
              · rw [if_pos hck2] at hgo
                have e58 := (e6.trans e7).trans e8
                refine q_app g8 rfl (of5.step e58) hpf0 (ed_callD (placesF ks, here, m) (by exact hck2) (ea_cons (ed_var rfl kp5) (ea_cons (ed_var rfl (.int _)) (ea_cons (hm (Ex.refl _) g8.o) ea_nil)))) (by omega) fun v I9 H9 g9 g9' o9 k9 => ?_
                refine g_int g9 (n := here + m) (ad_add (ed_var rfl (.int _)) (hm g9'.i g9.o) g9.o) fun H10 g10 e10 => ?_
                refine ⟨_, I9, here + m, left, kept, _, _, rfl, g10, e5.trans g9'.i, o9.step e10, by rw [map_snoc]; exact (kf5.mono g9'.i).append (.cons k9 .nil), ?_, ?_, hgo⟩
                · obtain ⟨kvs, q1, q2, q3⟩ := (((hdi.ex e58).ex g9'.h).ne (o := .lst (xf ++ [v])) (fun z => npk z.symm)).ex e10
                  exact ⟨kvs, q1, q2, by omega⟩
                · obtain ⟨kvs, q1, _⟩ := hdi.ex e58
                  exact g9'.n.none q1 hpi
              · rw [if_neg hck2] at hgo
                cases hgo
            · rw [if_neg hrun] at hgo
              cases hgo
      · rw [if_neg hck] at hgo
        cases hgo
    | _ => cases hgo
  · rintro I2 σ' H' e2 ⟨x7, I5, here, left, kept, xf, found, rfl, g, e5, of5, kf5, hdi, hpi, hgo⟩
    rw [List.length_map, List.drop_length] at hgo
    have hgo : some found = some res := hgo
    cases hgo
    exact g_retO q g rfl of5 kf5 hpf0
abbrev N_best_undoing : List Str := ["kinds", "c"]
theorem sc_best_undoing : FnScope N_best_undoing ["kinds", "c"] (defScope s_best_undoing) := ⟨rfl, rfl, rfl, by decide +kernel, rfl, by decide +kernel, by decide +kernel⟩
abbrev sp_best_undoing : Sp := spOf (fun a : List Int × Nat × List Cm × List Cm => [kD a.1, .int a.2.1]) (fun a => GoodKinds a.1 ∧ (1 ≤ a.1.length ∧ a.1.length ≤ 60 ∧ 1 ≤ (placesF a.1).length ∧ (placesF a.1).length ≤ 60 ∧ (∀ x ∈ placesF a.1, 0 ≤ x ∧ x ≤ 100) ∧ 1 ≤ a.2.1 ∧ a.2.1 ≤ 40) ∧ a.2.2.1.length ≤ 1000 ∧ schO (placesF a.1).length a.2.1 = some a.2.2.1 ∧ undoO a.1 a.2.2.1 = some a.2.2.2) fun a => csD a.2.2.2
theorem ok_best_undoing (T : Txt K mg C) (F : Fn K mg "best_undoing" s_best_undoing) (c_check_kinds : Cal P w K mg base 3 "check_kinds" ["kinds"] s_check_kinds sp_check_kinds) (c_check_slots : Cal P w K mg base 3 "check_slots" ["c"] s_check_slots sp_check_slots) (c_undoing_of : Cal P w K mg base 4 "undoing_of" ["kinds", "c"] s_undoing_of sp_undoing_of) : Cal P w K mg base 5 "best_undoing" ["kinds", "c"] s_best_undoing sp_best_undoing := by
  refine cal_mk F sc_best_undoing (fun _ _ _ _ _ _ us hl => match us, hl with | [_, _], _ => rfl) (fun vs H Q E h => spOf_len (n := 2) (fun _ => rfl) h) (fun f cdv A outer s H vs Q E hr h => ?_)
  obtain ⟨⟨ks, c, plain, res⟩, I, e, k, ⟨h0, h1, h2, h3, h4⟩, q⟩ := spOf_out h
  dsimp only at k h0 h1 h2 h3 h4 q
  obtain ⟨v1, v2, rfl, k1, k2⟩ := isAll2 k
  cases k2
  refine ⟨_, (pss_cons (ps_expr (pe_cal c_check_kinds hr (by first | decide | exact Nat.le_refl _) rfl (pa_cons (pv 0) pa_nil))) (pss_cons (ps_expr (pe_cal c_check_slots hr (by first | decide | exact Nat.le_refl _) rfl (pa_cons (pv 1) pa_nil))) (pss_one (ps_ret (pe_cal c_undoing_of hr (by first | decide | exact Nat.le_refl _) rfl (pa_cons (pv 0) (pa_cons (pv 1) pa_nil))))))), ?_⟩
  refine q_drop (Go.refl e) (ed_callD (I := I) ks h0 (ea_cons (ed_var rfl k1) ea_nil)) fun H1 g1 e1 => ?_
  refine q_drop g1 (ed_callD (I := I) (c : Int) (by omega) (by walk_at "ed")) fun H2 g2 e2 => ?_
  exact g_ret q g2 (ed_callD (ks, c, plain, res) (by exact ⟨h1, h2, h3, h4⟩) (ea_cons (ed_var rfl k1) (ea_cons (ed_var rfl (.int _)) ea_nil)))
end
end K84
namespace KD
open PySem PySem.Spec PyProof.Rows L2
/-- all but one thing stays -/
def ExL (l : Addr) (H H2 : Hp) : Prop := ∀ a o, a ≠ l → H a = some o → H2 a = some o
theorem ExL.refl (l : Addr) (H : Hp) : ExL l H H := fun _ _ _ h => h
theorem ExL.trans {l : Addr} {H H1 H2 : Hp} (a : ExL l H H1) (b : ExL l H1 H2) : ExL l H H2 := fun x o n h => b x o n (a x o n h)
theorem Ex.l {l : Addr} {H H2 : Hp} (e : Ex H H2) : ExL l H H2 := fun a o _ h => e a o h
/-- without it -/
def cutH (H : Hp) (l : Addr) : Hp := fun a => if a = l then none else H a
theorem cutH_ex (H : Hp) (l : Addr) : Ex (cutH H l) H := fun a o h => by
  unfold cutH at h
  by_cases q : a = l
  · rw [if_pos q] at h; cases h
  · rw [if_neg q] at h; exact h
theorem cutH_l {H H2 : Hp} {l : Addr} (e : Ex (cutH H l) H2) : ExL l H H2 := fun a o n h => e a o (by unfold cutH; rw [if_neg n]; exact h)
section
variable {I0 H0 I H I2 H2 J : Hp} {σ : L2.St} {D : Ends} {te ta tb : TE} {d : PyData} {l : Addr} {xs : List V} {Q : VK} {K : PySem.W.Frag} {t : TT} {tu tw tz : TS} {g : TG}
/-- xs[k] = e, xs a list of one's own -/
theorem q_setL {i : Nat} {k : Int} {j : Nat} {v : V} (g : Go I0 H0 I H) (hs : σ[i]? = some (some (.ref l))) (a : Own I H l xs) (h0 : H0 l = none) (h : Ev te σ H v) (hk : Ev tb σ H (.int k)) (hj : ixN xs.length k = some j)
    (kk : ∀ H2, Ex H H2 → Go I0 H0 I (upd H2 l (.lst (xs.set j v))) → Own I (upd H2 l (.lst (xs.set j v))) l (xs.set j v) → tz D σ (upd H2 l (.lst (xs.set j v)))) : tSeq (tAsg te (gSub (tVar i) tb rSetL)) tz D σ H :=
  h H (Ex.refl _) _ fun H1 e1 => ⟨_, hs, hk H1 e1 _ fun H2 e2 => ⟨l, xs, k, j, rfl, rfl, (e1.trans e2) _ _ a.h, hj, kk H2 (e1.trans e2) ((g.step (e1.trans e2)).mut a.i h0) ⟨a.i, upd_same⟩⟩⟩
theorem g_retLst {ta : TA} {ds : List PyData} (g : Go I0 H0 I H) (h : Ea ta σ H I ds) (hl : ds.length ≤ 100000) (k : ∀ p vs I2 H2, Go I0 H0 I2 H2 → Go I H I2 H2 → Own I2 H2 p vs → IsAll I2 vs ds → H p = none → D.rt (.ref p) H2) : tRet (tLst ta) D σ H :=
  h H (Ex.refl _) g.o _ fun vs I2 H2 a1 a2 a3 n kv => ⟨sz_of (by rw [kv.length]; exact hl), fun p hp => k p vs I2 _ (g.trans ⟨a1, n, a2.trans (Ex.new hp), a3.trans (Ex.new hp)⟩) ⟨a1, n, a2.trans (Ex.new hp), a3.trans (Ex.new hp)⟩ ⟨a3.free hp, upd_same⟩ kv (a2.free hp)⟩
end
def BoxAt (H : Hp) (l : Addr) (n : Nat) : Prop := ∃ (b0 : Int) (b1 : Bool) (b2 b3 : Int), H l = some (.lst [.int b0, .bl b1, .int b2, .int b3]) ∧ 0 ≤ b2 ∧ b2 < 2147483648 ∧ 0 ≤ b3 ∧ b3 ≤ n
theorem BoxAt.ex {H H2 : Hp} {l : Addr} {n : Nat} (b : BoxAt H l n) (e : Ex H H2) : BoxAt H2 l n := by
  obtain ⟨b0, b1, b2, b3, h, r⟩ := b
  exact ⟨b0, b1, b2, b3, e _ _ h, r⟩
theorem BoxAt.ne {H : Hp} {l p : Addr} {n : Nat} {o : HO} (b : BoxAt H l n) (h : l ≠ p) : BoxAt (upd H p o) l n := by
  obtain ⟨b0, b1, b2, b3, h2, r⟩ := b
  exact ⟨b0, b1, b2, b3, by rw [upd_ne h]; exact h2, r⟩
end KD
namespace K84
open PySem PySem.Spec PyProof.Rows L2 KD
local macro_rules
  | `(tactic| walk_at "ed") => `(tactic| first
    | with_reducible assumption
    | with_reducible exact Ex.refl _
    | (with_reducible apply Go.o; with_reducible assumption)
    | with_reducible exact ed_int
    | with_reducible exact ed_bl
    | with_reducible exact ed_str
    | with_reducible exact ed_non
    | ((with_reducible apply ed_var) <;> (first | (exact rfl) | exact Is.int _ | exact Is.bl _ | exact Is.str _ | exact Is.non | with_reducible assumption))
    | ((with_reducible apply ad_add) <;> walk_at "ed")
    | ((with_reducible apply ad_sub) <;> walk_at "ed")
    | ((with_reducible apply ad_lt) <;> walk_at "ed")
    | ((with_reducible apply ad_le) <;> walk_at "ed")
    | ((with_reducible apply ad_gt) <;> walk_at "ed")
    | ((with_reducible apply ad_ge) <;> walk_at "ed")
    | ((with_reducible apply ad_eqI) <;> walk_at "ed")
    | ((with_reducible apply ad_neI) <;> walk_at "ed")
    | ((with_reducible apply ad_eqS) <;> walk_at "ed")
    | ((with_reducible apply ad_neS) <;> walk_at "ed")
    | ((with_reducible apply ad_notV) <;> walk_at "ed")
    | ((with_reducible apply ad_neg) <;> walk_at "ed")
    | ((with_reducible apply ad_lenL) <;> walk_at "ed")
    | ((with_reducible refine ad_tup ?_ ?_) <;> (first | walk_at "ed" | (simp only [List.length_cons, List.length_nil]; decide)))
    | ((with_reducible refine ad_lst ?_ ?_) <;> (first | walk_at "ed" | (simp only [List.length_cons, List.length_nil]; decide)))
    | ((with_reducible apply ea_cons) <;> walk_at "ed")
    | with_reducible exact ea_nil)

theorem fmod_in (a : Int) {m : Int} (h : 0 < m) : 0 ≤ a.fmod m ∧ a.fmod m < m := by
  rw [Int.fmod_eq_emod_of_nonneg _ (by omega)]
  exact ⟨Int.emod_nonneg _ (by omega), Int.emod_lt_of_pos _ h⟩
section
variable {P : Program} {w : World} {K : PySem.W.Frag} {mg : Str → Option Value} {base : Heap} {C : Addr}
abbrev N__law_box : List Str := ["great"]
theorem sc__law_box : FnScope N__law_box ["great"] (defScope s__law_box) := ⟨rfl, rfl, rfl, by decide +kernel, rfl, by decide +kernel, by decide +kernel⟩
abbrev sp__law_box : Sp := fun vs H Q _ => ∃ z : Int, vs = [.int z] ∧ ∀ p H2, H p = none → Ex H H2 → BoxAt H2 p 0 → Q (.ref p) H2
theorem ok__law_box (T : Txt K mg C) (F : Fn K mg "_law_box" s__law_box) : Cal P w K mg base 1 "_law_box" ["great"] s__law_box sp__law_box := by
  refine cal_mk F sc__law_box (fun _ _ _ _ _ _ us hl => match us, hl with | [_], _ => rfl) (fun vs H Q E h => ?_) (fun f cdv A outer s H vs Q E hr h => ?_)
  · obtain ⟨z, rfl, _⟩ := h
    rfl
  obtain ⟨z, rfl, q⟩ := h
  refine ⟨_, (pss_one (ps_ret (pe_lst (pa_cons (pe_callB call_abs (by rfl) T.b_abs (by decide +kernel) (pa_cons (pv 0) pa_nil)) (pa_cons (pe_cmpR op_ge (pe_callB call_abs (by rfl) T.b_abs (by decide +kernel) (pa_cons (pv 0) pa_nil)) (pe_op op_pow pe_int pe_int) (nomark _)) (pa_cons (pe_op op_modN (pe_callTy call_int1 (by rfl) T.b_int (by decide +kernel) (pa_cons (pe_callB call_abs (by rfl) T.b_abs (by decide +kernel) (pa_cons (pv 0) pa_nil)) pa_nil)) pe_int) (pa_cons pe_int pa_nil))))))), ?_⟩
  have e : Ex (fun _ => none : Hp) H := fun _ _ h => by cases h
  have hab : ∀ {H1 : Hp}, Ed (tCB (fun xs H Q => ∃ i, xs = [V.int i] ∧ Q (.int (if i < 0 then -i else i)) H) (tCons (tVar 0) tNil)) (start N__law_box [.int z]) H1 (fun _ => none) (.int (if z < 0 then -z else z)) := fun {H1} => ed_abs (J := fun _ => none) (ed_var rfl (.int _)) (fun _ _ h => by cases h)
  have hm := fmod_in (if z < 0 then -z else z) (m := 2147483629) (by decide)
  refine g_retLst (ds := [.int (if z < 0 then -z else z), .bool (decide ((10 : Int) ^ (18 : Int).toNat ≤ (if z < 0 then -z else z))), .int ((if z < 0 then -z else z).fmod 2147483629), .int 0]) (Go.refl e) (ea_cons hab (ea_cons (ad_ge hab (ad_pow (i := 10) (j := 18) (by exact ⟨by decide, by decide, by decide⟩) ed_int ed_int e) e) (ea_cons (ad_mod (i := if z < 0 then -z else z) (j := 2147483629) (by decide) (ed_intI (J := fun _ => none) hab e) ed_int e) (ea_cons ed_int ea_nil)))) (by show 4 ≤ 100000; decide) fun p vs I2 H2 g2 g2' o kv hp => ?_
  obtain ⟨w1, w2, w3, w4, rfl, k1, k2, k3, k4⟩ := isAll4 kv
  cases k1
  cases k2
  cases k3
  cases k4
  exact q p _ hp g2.h ⟨_, _, _, _, o.h, hm.1, by omega, by decide, by decide⟩
abbrev N__law_take : List Str := ["box", "many", "digit", "mixed"]
theorem sc__law_take : FnScope N__law_take ["box", "many"] (defScope s__law_take) := ⟨rfl, rfl, rfl, by decide +kernel, rfl, by decide +kernel, by decide +kernel⟩
abbrev sp__law_take : Sp := fun vs H Q _ => ∃ l many n, vs = [.ref l, .int many] ∧ BoxAt H l n ∧ n ≤ 1000000 ∧ 0 < many ∧ many < 1073741824 ∧ ∀ r H2, 0 ≤ r → r < many → ExL l H H2 → BoxAt H2 l (n + 1) → Q (.int r) H2
theorem ok__law_take (T : Txt K mg C) (F : Fn K mg "_law_take" s__law_take) : Cal P w K mg base 1 "_law_take" ["box", "many"] s__law_take sp__law_take := by
  refine cal_mk F sc__law_take (fun _ _ _ _ _ _ us hl => match us, hl with | [_, _], _ => rfl) (fun vs H Q E h => ?_) (fun f cdv A outer s H vs Q E hr h => ?_)
  · obtain ⟨l, many, n, rfl, _⟩ := h
    rfl
  obtain ⟨l, many, n, rfl, ⟨b0, b1, b2, b3, hl, hb1, hb2, hb3, hb4⟩, hn, hm1, hm2, q⟩ := h
  refine ⟨_, (pss_cons (ps_if (PW.pt (pw_and (pt_val (pe_ix ix_list (pv 0) pe_int (fun _ _ => rfl))) (pw_and1 (pt_cmpR op_gt (pe_ix ix_list (pv 0) pe_int (fun _ _ => rfl)) pe_int (nomark _))))) (pss_cons (ps_set (i := 2) sc__law_take.nd rfl (Or.inl rfl) (pe_op op_modN (pe_callTy call_int1 (by rfl) T.b_int (by decide +kernel) (pa_cons (pe_ix ix_list (pv 0) pe_int (fun _ _ => rfl)) pa_nil)) (pv 1))) (pss_cons (ps_asg (pe_op op_fdivN (pe_ix ix_list (pv 0) pe_int (fun _ _ => rfl)) (pv 1)) (pg_sub (pv 0) pe_int set_list)) (pss_one (ps_ret (pv 2))))) pss_nil) (pss_cons (ps_asg (pe_op op_add (pe_ix ix_list (pv 0) pe_int (fun _ _ => rfl)) pe_int) (pg_sub (pv 0) pe_int set_list)) (pss_cons (ps_set (i := 3) sc__law_take.nd rfl (Or.inl rfl) (pe_op op_modN (pe_callTy call_int1 (by rfl) T.b_int (by decide +kernel) (pa_cons (pe_op op_pow (pe_op op_add (pe_op op_add (pe_ix ix_list (pv 0) pe_int (fun _ _ => rfl)) (pe_op op_mul pe_int (pe_ix ix_list (pv 0) pe_int (fun _ _ => rfl)))) pe_int) pe_int) pa_nil)) pe_int)) (pss_one (ps_ret (pe_op op_modN (pe_callTy call_int1 (by rfl) T.b_int (by decide +kernel) (pa_cons (pe_op op_fdivN (pe_op op_modN (pe_callTy call_int1 (by rfl) T.b_int (by decide +kernel) (pa_cons (pe_op op_pow (pe_op op_add (pe_op op_mul (pv 3) pe_int) (pe_op op_mul pe_int (pe_ix ix_list (pv 0) pe_int (fun _ _ => rfl)))) pe_int) pa_nil)) pe_int) pe_int) pa_nil)) (pv 1))))))), ?_⟩
  generalize hI : (fun _ => none : Hp) = I
  have hIn : ∀ a, I a = none := fun a => by rw [← hI]
  have e : Ex I H := fun a o h => by rw [hIn a] at h; cases h
  have g : Go I (cutH H l) I H := ⟨Ex.refl _, New.refl _ _, cutH_ex H l, e⟩
  have h0 : (cutH H l) l = none := by unfold cutH; rw [if_pos rfl]
  have o : Own I H l [.int b0, .bl b1, .int b2, .int b3] := ⟨hIn l, hl⟩
  have ix : ∀ {H1 : Hp} {σ : L2.St} {c0 c2 c3 : Int} {k : Int} {d : PyData}, Own I H1 l [.int c0, .bl b1, .int c2, .int c3] → Ex I H1 → σ[0]? = some (some (.ref l)) → atI [PyData.int c0, .bool b1, .int c2, .int c3] k = some d → Ed (tOp (rIxL K) (tVar 0) (tC (.int k))) σ H1 (upd I l (.lst [.int c0, .bl b1, .int c2, .int c3])) d := fun o e hs h => ed_ownIx o (.cons (.int _) (.cons (.bl _) (.cons (.int _) (.cons (.int _) .nil)))) e hs ed_int h
  have ixi : ∀ {H1 : Hp} {σ : L2.St} {c0 c2 c3 : Int} {k z : Int}, Own I H1 l [.int c0, .bl b1, .int c2, .int c3] → Ex I H1 → σ[0]? = some (some (.ref l)) → atI [PyData.int c0, .bool b1, .int c2, .int c3] k = some (.int z) → Ed (tOp (rIxL K) (tVar 0) (tC (.int k))) σ H1 I (.int z) := fun o e hs h => ((ix o e hs h).int (e.lay o.h)).ed (.int _)
  refine q_when g (et_and (et_test (J := upd I l (.lst [.int b0, .bl b1, .int b2, .int b3])) (ix o e rfl rfl) (e.lay o.h)) fun _ => et_test (J := I) (ad_gt (ixi o e rfl rfl) ed_int e) e) (fun hb H1 g1 e1 => ?_) fun hb H1 g1 e1 => ?_
  · have o1 := o.step e1
    refine q_int g1 (n := b0.fmod many) (ad_mod (by omega) (ed_intI (J := I) (ixi o1 g1.o rfl rfl) g1.o) (ed_var rfl (.int _)) g1.o) fun H2 g2 e2 => ?_
    refine q_setL g2 rfl (o1.step e2) h0 ((ad_fdiv (by omega) (ixi (o1.step e2) g2.o rfl rfl) (ed_var rfl (.int _)) g2.o).int g2.o) (ed_int.int g2.o) (j := 0) rfl fun H3 e3 g3 o3 => ?_
    obtain ⟨r1, r2⟩ := fmod_in b0 hm1
    exact ⟨_, rfl, q _ _ r1 r2 (cutH_l g3.h) ⟨_, _, _, _, o3.h, hb1, hb2, hb3, by omega⟩⟩
  · have o1 := o.step e1
    refine q_setL g1 rfl o1 h0 ((ad_add (ixi o1 g1.o rfl rfl) ed_int g1.o).int g1.o) (ed_int.int g1.o) (j := 3) rfl fun H3 e3 g3 o3 => ?_
    have o3 : Own I _ l [.int b0, .bl b1, .int b2, .int (b3 + 1)] := o3
    generalize hz : ((b2 + 15491527 * (b3 + 1) + 179427091) ^ 5 : Int).fmod 2147483647 = z
    have hzi := fmod_in ((b2 + 15491527 * (b3 + 1) + 179427091) ^ 5) (m := 2147483647) (by decide)
    rw [hz] at hzi
    refine q_int g3 (n := z) (Ed.is (ad_mod (i := (b2 + 15491527 * (b3 + 1) + 179427091) ^ (5 : Int).toNat) (by decide) (ed_intI (J := I) (ad_pow (i := b2 + 15491527 * (b3 + 1) + 179427091) (j := 5) ⟨by decide, by decide, by omega⟩ (ad_add (ad_add (ixi o3 g3.o rfl rfl) (ad_mul (.inl ⟨by decide, by decide⟩) ed_int (ixi o3 g3.o rfl rfl) g3.o) g3.o) ed_int g3.o) ed_int g3.o) g3.o) ed_int g3.o) (by rw [show (5 : Int).toNat = 5 from rfl, hz])) fun H4 g4 e4 => ?_
    have o4 := o3.step e4
    refine (ad_mod (I := I) (j := many) (by omega) (ed_intI (J := I) (ad_fdiv (j := 64) (by exact ⟨by decide, by decide⟩) (ad_mod (j := 2147483587) (by decide) (ed_intI (J := I) (ad_pow (i := z * 48271 + 105023 * (b3 + 1)) (j := 3) ⟨by decide, by decide, by omega⟩ (ad_add (ad_mul (.inr ⟨by decide, by decide⟩) (ed_var rfl (.int _)) ed_int g4.o) (ad_mul (.inl ⟨by decide, by decide⟩) ed_int (ixi o4 g4.o rfl rfl) g4.o) g4.o) ed_int g4.o) g4.o) ed_int g4.o) ed_int g4.o) g4.o) (ed_var rfl (.int _)) g4.o) H4 (Ex.refl _) g4.o _ fun v I5 H5 a1 a2 a3 nw kv => ?_
    cases kv
    obtain ⟨r1, r2⟩ := fmod_in ((((z * 48271 + 105023 * (b3 + 1)) ^ (3 : Int).toNat).fmod 2147483587).fdiv 64) hm1
    exact q _ _ r1 r2 (cutH_l (g4.h.trans a2)) ⟨_, _, _, _, a2 _ _ o4.h, hb1, hb2, by omega, by omega⟩
end
end K84
namespace KD
open PySem PySem.Spec PyProof.Rows L2
theorem sq_ex {K : PySem.W.Frag} {H H2 : Hp} {a : Addr} {xs : List V} (h : SqL K H a xs) (e : Ex H H2) : SqL K H2 a xs := by
  rcases h with h | h
  · rcases h with h | ⟨o, h⟩
    · exact .inl (.inl (e _ _ h))
    · exact .inl (.inr ⟨o, e _ _ h⟩)
  · exact .inr h
/-- list(range(n)) -/
theorem ed_listRg {σ : L2.St} {H I J : Hp} {ta : TE} {n : Int} (h : Ed ta σ H J (.int n)) (ej : Ex J H) (ei : Ex I H) (hn : 0 ≤ n ∧ n ≤ 90000) : Ed (tLstRg (tRg1 ta)) σ H I (.list ((List.range n.toNat).map fun (i : Nat) => PyData.int (i : Int))) := fun H1 e b Q q =>
  h.int ej H1 e _ fun H2 e2 => ⟨n, rfl, RgOk.of_le (by omega) (by omega) (by omega) (by omega), fun p hp => by
    have hl : IsAll I (rgV 0 n) ((List.range n.toNat).map fun (i : Nat) => PyData.int (i : Int)) := by
      unfold rgV
      rw [Int.sub_zero]
      have : ∀ l : List Nat, IsAll I (l.map fun (i : Nat) => V.int (0 + (i : Int))) (l.map fun (i : Nat) => PyData.int (i : Int)) := fun l => by
        induction l with
        | nil => exact .nil
        | cons x l ih =>
          refine .cons ?_ ih
          show Is I (V.int (0 + (x : Int))) (.int (x : Int))
          rw [Int.zero_add]
          exact .int _
      exact this _
    have fr := (b.trans e2).free hp
    exact q _ (upd I p (.lst (rgV 0 n))) _ (Ex.new fr) (e2.trans (Ex.new hp)) (b.trans e2).both ((New.refl I H1).lay e2 hp) (.lst upd_same (hl.mono (Ex.new fr)))⟩
/-- a, b, .. = e, f, ..: by way of the tuple -/
theorem q_tupG {I0 H0 I H : Hp} {σ : L2.St} {D : Ends} {K : PySem.W.Frag} {tz : TS} {ta : TA} {gs : TGs} {n : Nat} {ds : List PyData} (g : Go I0 H0 I H) (h : Ea ta σ H I ds) (hn : ds.length = n) (hl : ds.length ≤ 100000) (k : ∀ vs I2 H2, Go I0 H0 I2 H2 → Go I H I2 H2 → IsAll I2 vs ds → gs vs σ H2 fun σ2 H3 => tz D σ2 H3) : tSeq (tAsg (tTup ta) (gTup K n gs)) tz D σ H :=
  h H (Ex.refl _) g.o _ fun vs I2 H2 a1 a2 a3 nw kv => ⟨sz_of (by rw [kv.length]; exact hl), fun p hp => by
    have gg : Go I H I2 (upd H2 p (.tup vs)) := ⟨a1, nw, a2.trans (Ex.new hp), a3.trans (Ex.new hp)⟩
    exact ⟨p, vs, rfl, SqT.of upd_same, by rw [kv.length, hn], k vs I2 _ (g.trans gg) gg kv⟩⟩
end KD
namespace K84
open PySem PySem.Spec PyProof.Rows L2 KD
local macro_rules
  | `(tactic| walk_at "ed") => `(tactic| first
    | with_reducible assumption
    | with_reducible exact Ex.refl _
    | (with_reducible apply Go.o; with_reducible assumption)
    | with_reducible exact ed_int
    | with_reducible exact ed_bl
    | with_reducible exact ed_str
    | with_reducible exact ed_non
    | ((with_reducible apply ed_var) <;> (first | (exact rfl) | exact Is.int _ | exact Is.bl _ | exact Is.str _ | exact Is.non | with_reducible assumption))
    | ((with_reducible apply ad_add) <;> walk_at "ed")
    | ((with_reducible apply ad_sub) <;> walk_at "ed")
    | ((with_reducible apply ad_lt) <;> walk_at "ed")
    | ((with_reducible apply ad_le) <;> walk_at "ed")
    | ((with_reducible apply ad_gt) <;> walk_at "ed")
    | ((with_reducible apply ad_ge) <;> walk_at "ed")
    | ((with_reducible apply ad_eqI) <;> walk_at "ed")
    | ((with_reducible apply ad_neI) <;> walk_at "ed")
    | ((with_reducible apply ad_eqS) <;> walk_at "ed")
    | ((with_reducible apply ad_neS) <;> walk_at "ed")
    | ((with_reducible apply ad_notV) <;> walk_at "ed")
    | ((with_reducible apply ad_neg) <;> walk_at "ed")
    | ((with_reducible apply ad_lenL) <;> walk_at "ed")
    | ((with_reducible refine ad_tup ?_ ?_) <;> (first | walk_at "ed" | (simp only [List.length_cons, List.length_nil]; decide)))
    | ((with_reducible refine ad_lst ?_ ?_) <;> (first | walk_at "ed" | (simp only [List.length_cons, List.length_nil]; decide)))
    | ((with_reducible apply ea_cons) <;> walk_at "ed")
    | with_reducible exact ea_nil)

section
variable {P : Program} {w : World} {K : PySem.W.Frag} {mg : Str → Option Value} {base : Heap} {C : Addr}
abbrev N__law_cell : List Str := ["script", "k"]
theorem sc__law_cell : FnScope N__law_cell ["script", "k"] (defScope s__law_cell) := ⟨rfl, rfl, rfl, by decide +kernel, rfl, by decide +kernel, by decide +kernel⟩
abbrev sp__law_cell (K : PySem.W.Frag) : Sp := fun vs H Q _ => ∃ (a : Addr) (k : Nat) (ns : List Int), vs = [.ref a, .int k] ∧ SqL K H a (ns.map V.int) ∧ k ≤ 100 ∧ ∀ (z : Int) H2, Ex H H2 → Q (.int z) H2
abbrev CLC (P : Program) (w : World) (K : PySem.W.Frag) (mg : Str → Option Value) (base : Heap) : Prop := Cal P w K mg base 1 "_law_cell" ["script", "k"] s__law_cell (sp__law_cell K)
theorem ok__law_cell (T : Txt K mg C) (F : Fn K mg "_law_cell" s__law_cell) : CLC P w K mg base := by
  refine cal_mk F sc__law_cell (fun _ _ _ _ _ _ us hl => match us, hl with | [_, _], _ => rfl) (fun vs H Q E h => ?_) (fun f cdv A outer s H vs Q E hr h => ?_)
  · obtain ⟨a, k, ns, rfl, _⟩ := h
    rfl
  obtain ⟨a, k, ns, rfl, hS, hk, q⟩ := h
  refine ⟨_, (pss_one (ps_ret (pe_ifExp (pt_cmpR op_lt (pv 1) (pe_callB call_len_seq (by rfl) T.b_len (by decide +kernel) (pa_cons (pv 0) pa_nil)) (nomark _)) (pe_ix ix_list (pv 0) (pv 1) (fun _ _ => rfl)) (pe_op op_add (pe_op op_mul pe_int (pv 1)) (pe_op op_modN (pe_callTy call_int1 (by rfl) T.b_int (by decide +kernel) (pa_cons (pe_callB (cr_sum rfl) (by rfl) T.b_sum (by decide +kernel) (pa_cons (pe_slice sl_list (pv 0) po_none (po_some pe_int)) pa_nil)) pa_nil)) pe_int))))), ?_⟩
  generalize hI : (fun _ => none : Hp) = I
  have e : ∀ {H1 : Hp}, Ex I H1 := fun a o h => by rw [← hI] at h; cases h
  have hlen : ∀ {H1 : Hp}, Ex H H1 → Ed (tCB (rLenSq K) (tCons (tVar 0) tNil)) (start N__law_cell [.ref a, .int k]) H1 I (.int (ns.length : Nat)) := fun {H1} e1 H2 e2 b Q q => ⟨_, rfl, a, _, rfl, .inl (sq_ex hS (e1.trans e2)), by rw [List.length_map]; exact q _ I H2 (Ex.refl _) (Ex.refl _) b (New.refl _ _) (.int _)⟩
  refine (et_test (J := I) (ad_lt (ed_var rfl (.int _)) (hlen (Ex.refl _)) e) e) H (Ex.refl _) _ fun H1 e1 => ?_
  by_cases hb : (k : Int) < ns.length
  · rw [decide_eq_true hb, if_pos rfl]
    refine ⟨_, rfl, _, rfl, a, _, k, .int (ns[k]'(by omega)), rfl, rfl, sq_ex hS e1, ?_, q _ _ e1⟩
    rw [atI_nat (by omega) (by rw [List.length_map]; omega), Int.toNat_natCast, List.getElem?_map, List.getElem?_eq_getElem (by omega)]
    rfl
  · rw [decide_eq_false hb, if_neg (by simp)]
    have hsum : Ed (tCB (rSum K) (tCons (tSl (rSlL K) (tVar 0) tNoPart (tPart (tC (.int 1)))) tNil)) (start N__law_cell [.ref a, .int k]) H1 I (.int (cutA ns none (some 1)).sum) := fun H2 e2 b Q q => ⟨_, rfl, _, rfl, a, _, rfl, sq_ex hS (e1.trans e2), fun p hp => ⟨p, cutA ns none (some 1), rfl, SqL.of (by
      rw [upd_same]
      congr 2
      unfold L2.cutV cutA
      rw [List.length_map, List.map_take, List.map_drop]), q _ I _ (Ex.refl _) (Ex.new hp) (b.trans (Ex.new hp)) (New.refl _ _) (.int _)⟩⟩
    refine (ad_add (I := I) (ad_mul (.inl ⟨by decide, by decide⟩) ed_int (ed_var rfl (.int _)) e) (ad_mod (by decide) (ed_intI (J := I) hsum e) ed_int e) e) H1 (Ex.refl _) e _ fun v I2 H2 a1 a2 a3 nw kv => ?_
    cases kv
    exact q _ _ (e1.trans a2)
abbrev N__law_alike_cost : List Str := ["l", "c", "r", "reached", "tall", "j"]
theorem sc__law_alike_cost : FnScope N__law_alike_cost ["l", "c"] (defScope s__law_alike_cost) := ⟨rfl, rfl, rfl, by decide +kernel, rfl, by decide +kernel, by decide +kernel⟩
@[irreducible] def acGo (l c : Int) : Nat → Int → Int → Int
  | 0, r, _ => r
  | f + 1, r, reached => if reached < l then acGo l c f (r + 1) ((reached * (c + (r + 1))).fdiv (r + 1)) else r
theorem acGo_lt {l c r a : Int} {f : Nat} (h : a < l) : acGo l c (f + 1) r a = acGo l c f (r + 1) ((a * (c + (r + 1))).fdiv (r + 1)) := by rw [acGo, if_pos h]
theorem acGo_ge {l c r a : Int} {f : Nat} (h : ¬ a < l) : acGo l c f r a = r := by
  cases f with
  | zero => rw [acGo]
  | succ f => rw [acGo, if_neg h]
def acR (l c : Int) : Int := acGo l c 200 0 1
def alikeC (l c : Int) : Int := if l = 0 then 0 else acR l c * l - chN (c + acR l c) (c + 1).toNat
theorem ac_step {r a c : Int} (h0 : 0 ≤ r) (h1 : r + 1 ≤ a) (hc : 1 ≤ c) : r + 1 + 1 ≤ (a * (c + (r + 1))).fdiv (r + 1) := by
  rw [Int.fdiv_eq_ediv_of_nonneg _ (by omega)]
  refine (Int.le_ediv_iff_mul_le (by omega)).mpr ?_
  have : (r + 1 + 1) * (r + 1) ≤ a * (c + (r + 1)) := by
    have h2 : (r + 1) * (r + 1 + 1) ≤ a * (c + (r + 1)) := Int.mul_le_mul h1 (by omega) (by omega) (by omega)
    rw [Int.mul_comm]
    exact h2
  exact this
theorem ac_in {l c : Int} (hc : 1 ≤ c) : ∀ (f : Nat) (r a : Int), 0 ≤ r → r + 1 ≤ a → r ≤ acGo l c f r a ∧ (acGo l c f r a ≤ l ∨ acGo l c f r a = r)
  | 0, r, a, _, _ => by rw [acGo]; exact ⟨Int.le_refl _, .inr rfl⟩
  | f + 1, r, a, h0, h1 => by
    by_cases h : a < l
    · rw [acGo_lt h]
      obtain ⟨b1, b2⟩ := ac_in (l := l) hc f (r + 1) _ (by omega) (ac_step h0 h1 hc)
      exact ⟨by omega, .inl (by omega)⟩
    · rw [acGo_ge h]
      exact ⟨Int.le_refl _, .inr rfl⟩
abbrev sp__law_alike_cost : Sp := spOf (fun a : Int × Int => [.int a.1, .int a.2]) (fun a => 0 ≤ a.1 ∧ a.1 ≤ 100 ∧ 1 ≤ a.2 ∧ a.2 ≤ 40) fun a => .int (alikeC a.1 a.2)
theorem ok__law_alike_cost (T : Txt K mg C) (F : Fn K mg "_law_alike_cost" s__law_alike_cost) : Cal P w K mg base 1 "_law_alike_cost" ["l", "c"] s__law_alike_cost sp__law_alike_cost := by
  refine cal_mk F sc__law_alike_cost (fun _ _ _ _ _ _ us hl => match us, hl with | [_, _], _ => rfl) (fun vs H Q E h => spOf_len (n := 2) (fun _ => rfl) h) (fun f cdv A outer s H vs Q E hr h => ?_)
  obtain ⟨⟨l, c⟩, I, e, k, ⟨h1, h2, h3, h4⟩, q⟩ := spOf_out h
  dsimp only at k h1 h2 h3 h4 q
  obtain ⟨v1, v2, rfl, k1, k2⟩ := isAll2 k
  cases k1
  cases k2
  refine ⟨_, (pss_cons (ps_asg (pe_tup (pa_cons pe_int (pa_cons pe_int (pa_cons pe_int pa_nil)))) (pg_tup (by rfl) (pgs_cons (pg_name (i := 2) sc__law_alike_cost.nd rfl (Or.inl rfl)) (pgs_cons (pg_name (i := 3) sc__law_alike_cost.nd rfl (Or.inl rfl)) (pgs_cons (pg_name (i := 4) sc__law_alike_cost.nd rfl (Or.inl rfl)) pgs_nil))))) (pss_cons (ps_if (pt_cmpR op_eq (pv 0) pe_int (nomark _)) (pss_one (ps_ret pe_int)) pss_nil) (pss_cons (ps_while PassesOwn.never (pt_cmpR op_lt (pv 3) (pv 0) (nomark _)) (pss_cons (ps_set (i := 2) sc__law_alike_cost.nd rfl (Or.inl rfl) (pe_op op_add (pv 2) pe_int)) (pss_one (ps_set (i := 3) sc__law_alike_cost.nd rfl (Or.inl rfl) (pe_op op_fdivN (pe_op op_mul (pv 3) (pe_op op_add (pv 1) (pv 2))) (pv 2)))))) (pss_cons (ps_for PassesOwn.never rfl (pi_range1 (by rfl) T.b_range (pa_cons (pe_op op_add (pv 1) pe_int) pa_nil)) (pg_name (i := 5) sc__law_alike_cost.nd rfl (Or.inl rfl)) (pss_one (ps_set (i := 4) sc__law_alike_cost.nd rfl (Or.inl rfl) (pe_op op_fdivN (pe_op op_mul (pv 4) (pe_op op_sub (pe_op op_add (pv 1) (pv 2)) (pv 5))) (pe_op op_add (pv 5) pe_int))))) (pss_one (ps_ret (pe_op op_sub (pe_op op_mul (pv 2) (pv 0)) (pv 4)))))))), ?_⟩
  refine q_tupG (ds := [.int 0, .int 1, .int 1]) (Go.refl e) (ea_cons ed_int (ea_cons ed_int (ea_cons ed_int ea_nil))) rfl (by show 3 ≤ 100000; decide) fun vs I2 H2 g2 g2' kv => ?_
  obtain ⟨w1, w2, w3, rfl, q1, q2, q3⟩ := isAll3 kv
  cases q1
  cases q2
  cases q3
  refine ⟨_, _, rfl, _, _, rfl, _, _, rfl, rfl, ?_⟩
  have e := g2.o
  refine q_when g2 (et_test (J := I2) (ad_eqI (ed_var rfl (.int _)) ed_int e) e) (fun hb H1 g1 e1 => ?_) fun hb H1 g1 e1 => ?_
  · have hb : l = 0 := by simpa using hb
    refine g_ret q g1 (Ed.is ed_int ?_)
    unfold alikeC
    rw [if_pos hb]
  have hl0 : ¬ l = 0 := by simpa using hb
  have hin := ac_in (l := l) h3 200 0 1 (by decide) (by decide)
  refine q_while (fun m σ H' => ∃ r a, ∃ f : Nat, σ = [some (.int l), some (.int c), some (.int r), some (.int a), some (.int 1), none] ∧ Go I H I2 H' ∧ acGo l c f r a = acR l c ∧ (l - r).toNat ≤ f ∧ m = (l - r).toNat ∧ 0 ≤ r ∧ r + 1 ≤ a) (l - 0).toNat ⟨0, 1, 200, rfl, g1, rfl, by omega, rfl, by decide, by decide⟩ ?_
  rintro m σ H' ⟨r, a, f, rfl, g, hr', hf, rfl, h5, h6⟩
  refine ⟨decide (a < l), et_test (J := I2) (by have e := g.o; walk_at "ed") g.o, fun hb H2 e2 => ?_, fun hb H2 e2 => ?_⟩
  · have hlt : a < l := of_decide_eq_true hb
    have g2 := g.step e2
    obtain ⟨f', rfl⟩ : ∃ f', f = f' + 1 := ⟨f - 1, by omega⟩
    rw [acGo_lt hlt] at hr'
    refine q_int g2 (n := r + 1) (ad_add (ed_var rfl (.int _)) ed_int g2.o) fun H3 g3 e3 => ?_
    refine g_int g3 (n := (a * (c + (r + 1))).fdiv (r + 1)) (ad_fdiv (by omega) (ad_mul (.inr ⟨by omega, by omega⟩) (ed_var rfl (.int _)) (ad_add (ed_var rfl (.int _)) (ed_var rfl (.int _)) g3.o) g3.o) (ed_var rfl (.int _)) g3.o) fun H4 g4 e4 => ?_
    exact ⟨_, by omega, r + 1, _, f', rfl, g4, hr', by omega, rfl, by omega, ac_step h5 h6 h3⟩
  · have hge : ¬ a < l := of_decide_eq_false hb
    rw [acGo_ge hge] at hr'
    subst hr'
    have g2 := g.step e2
    have hrl : acR l c ≤ 100 := by
      unfold acR
      omega
    refine q_forR1 (J := I2) (n := c + 1) (ea_cons (ad_add (ed_var rfl (.int _)) ed_int g2.o) ea_nil) g2.o (by omega) (fun i σ H' => ∃ x, σ = [some (.int l), some (.int c), some (.int (acR l c)), some (.int a), some (.int (chN (c + acR l c) i)), x] ∧ Go I H I2 H') (fun H3 e3 => ⟨none, rfl, g2.step e3⟩) (fun i σ H' hi hP => ?_) (fun σ H' hP => ?_)
    · obtain ⟨x, rfl, g⟩ := hP
      exact g_int g (n := chN (c + acR l c) (i + 1)) (ad_fdiv (by omega) (ad_mul (.inr ⟨by omega, by omega⟩) (ed_var rfl (.int _)) (ad_sub (ad_add (ed_var rfl (.int _)) (ed_var rfl (.int _)) g.o) (ed_var rfl (.int _)) g.o) g.o) (ad_add (ed_var rfl (.int _)) ed_int g.o) g.o) fun H3 g3 e3 => ⟨_, rfl, g3⟩
    · obtain ⟨x, rfl, g⟩ := hP
      refine g_ret q g (Ed.is (ad_sub (ad_mul (.inl ⟨by omega, by omega⟩) (ed_var rfl (.int _)) (ed_var rfl (.int _)) g.o) (ed_var rfl (.int _)) g.o) ?_)
      unfold alikeC
      rw [if_neg hl0]
abbrev N__law_due : List Str := ["kinds", "c", "many"]
theorem sc__law_due : FnScope N__law_due ["kinds", "c"] (defScope s__law_due) := ⟨rfl, rfl, rfl, by decide +kernel, rfl, by decide +kernel, by decide +kernel⟩
def manyF (ks : List Int) : Int := ks.sum + (if lastI ks = 0 then 1 else 0)
def dueF (ks : List Int) (c : Int) : Int := alikeC (manyF ks) c
abbrev sp__law_due : Sp := spOf (fun a : List Int × Int => [kD a.1, .int a.2]) (fun a => 1 ≤ a.1.length ∧ 0 ≤ manyF a.1 ∧ manyF a.1 ≤ 100 ∧ 1 ≤ a.2 ∧ a.2 ≤ 40) fun a => .int (dueF a.1 a.2)
theorem ok__law_due (T : Txt K mg C) (F : Fn K mg "_law_due" s__law_due) (c__law_alike_cost : Cal P w K mg base 1 "_law_alike_cost" ["l", "c"] s__law_alike_cost sp__law_alike_cost) : Cal P w K mg base 2 "_law_due" ["kinds", "c"] s__law_due sp__law_due := by
  refine cal_mk F sc__law_due (fun _ _ _ _ _ _ us hl => match us, hl with | [_, _], _ => rfl) (fun vs H Q E h => spOf_len (n := 2) (fun _ => rfl) h) (fun f cdv A outer s H vs Q E hr h => ?_)
  obtain ⟨⟨ks, c⟩, I, e, k, ⟨h1, h2, h3, h4, h5⟩, q⟩ := spOf_out h
  dsimp only at k h1 h2 h3 h4 h5 q
  obtain ⟨v1, v2, rfl, k1, k2⟩ := isAll2 k
  cases k2
  refine ⟨_, (pss_cons (ps_set (i := 2) sc__law_due.nd rfl (Or.inl rfl) (pe_op op_add (pe_callB (cr_sum rfl) (by rfl) T.b_sum (by decide +kernel) (pa_cons (pv 0) pa_nil)) (pe_ifExp (pt_cmpR op_eq (pe_ix ix_list (pv 0) (pe_un un_neg pe_int) (fun _ _ => rfl)) pe_int (nomark _)) pe_int pe_int))) (pss_one (ps_ret (pe_cal c__law_alike_cost hr (by first | decide | exact Nat.le_refl _) rfl (pa_cons (pv 2) (pa_cons (pv 1) pa_nil)))))), ?_⟩
  refine q_int (Go.refl e) (n := manyF ks) (ad_add (ed_sum (J := I) (ed_var rfl k1) e) (ed_if (d := .int (if lastI ks = 0 then 1 else 0)) (et_test (J := I) (ad_eqI (ed_ixL (ed_var rfl k1) (ad_neg ed_int e) e (atI_last (fun z => by rw [z] at h1; cases h1))) ed_int e) e) (fun hb => ?_) fun hb => ?_) e) fun H1 g1 e1 => ?_
  · rw [if_pos (by simpa using hb)]
    exact ed_int
  · rw [if_neg (by simpa using hb)]
    exact ed_int
  · exact g_ret q g1 (ed_callI (J := I) (manyF ks, c) (by rfl) (by exact ⟨h2, h3, h4, h5⟩) (by walk_at "ed") g1.o)
abbrev N__law_slow : List Str := ["l", "found", "k"]
theorem sc__law_slow : FnScope N__law_slow ["l"] (defScope s__law_slow) := ⟨rfl, rfl, rfl, by decide +kernel, rfl, by decide +kernel, by decide +kernel⟩
def slowStep (k : Nat) : List Cm := if (0 : Int) < k then [cTake 0, cRun k, .turn] else [cTake 0, .turn]
def slowTo (l : Nat) (i : Nat) : List Cm := cKeep 0 :: ((List.range l).reverse.take i).flatMap slowStep
def slowC (l : Nat) : List Cm := cKeep 0 :: (List.range l).reverse.flatMap slowStep
theorem slowTo_succ {l i k : Nat} (h : (List.range l).reverse[i]? = some k) : slowTo l (i + 1) = slowTo l i ++ slowStep k := by
  unfold slowTo
  rw [List.take_add_one, h, List.flatMap_append]
  simp
theorem slowTo_len (l : Nat) : ∀ i, (slowTo l i).length ≤ 1 + 3 * i
  | 0 => by simp [slowTo]
  | i + 1 => by
    have ih := slowTo_len l i
    cases h : (List.range l).reverse[i]? with
    | none =>
      have e : slowTo l (i + 1) = slowTo l i := by
        unfold slowTo
        rw [List.take_add_one, h]
        simp
      rw [e]
      omega
    | some k =>
      rw [slowTo_succ h, List.length_append]
      have : (slowStep k).length ≤ 3 := by
        unfold slowStep
        split <;> simp
      omega
abbrev sp__law_slow : Sp := spOf (fun l : Nat => [.int l]) (fun l => l ≤ 100) fun l => csD (slowC l)
theorem ok__law_slow (T : Txt K mg C) (F : Fn K mg "_law_slow" s__law_slow) : Cal P w K mg base 1 "_law_slow" ["l"] s__law_slow sp__law_slow := by
  refine cal_mk F sc__law_slow (fun _ _ _ _ _ _ us hl => match us, hl with | [_], _ => rfl) (fun vs H Q E h => spOf_len (n := 1) (fun _ => rfl) h) (fun f cdv A outer s H vs Q E hr h => ?_)
  obtain ⟨l, I, e, k, h1, q⟩ := spOf_out h
  obtain ⟨v1, rfl, k1⟩ := isAll1 k
  cases k1
  refine ⟨_, (pss_cons (ps_set (i := 1) sc__law_slow.nd rfl (Or.inl rfl) (pe_lst (pa_cons (pe_tup (pa_cons pe_str (pa_cons pe_int pa_nil))) pa_nil))) (pss_cons (ps_for PassesOwn.never rfl (pi_list (pe_revL (pe_listRg rfl (by rfl) T.b_list (prg_1 (by rfl) T.b_range (pv 0))))) (pg_name (i := 2) sc__law_slow.nd rfl (Or.inl rfl)) (pss_one (ps_expr (pe_bm PySem.F.plainAttrs_list PySem.F.slot_list_extend PySem.F.type_list_extend mt_extend (pv 1) (pa_cons (pe_ifExp (pt_cmpR op_gt (pv 2) pe_int (nomark _)) (pe_lst (pa_cons (pe_tup (pa_cons pe_str (pa_cons pe_int pa_nil))) (pa_cons (pe_tup (pa_cons pe_str (pa_cons (pv 2) pa_nil))) (pa_cons (pe_tup (pa_cons pe_str pa_nil)) pa_nil)))) (pe_lst (pa_cons (pe_tup (pa_cons pe_str (pa_cons pe_int pa_nil))) (pa_cons (pe_tup (pa_cons pe_str pa_nil)) pa_nil)))) pa_nil))))) (pss_one (ps_ret (pv 1))))), ?_⟩
  refine q_new (ds := [cmD (cKeep 0)]) (Go.refl e) (ea_cons (show Ed _ _ _ _ (.tuple [.str "keep", .int 0]) by walk_at "ed") ea_nil) (by show 1 ≤ 100000; decide) fun pf vf I1 H1 g1 g1' o1 kf hpf => ?_
  have hrev : Ed (tRevL K (tLstRg (tRg1 (tVar 0)))) [some (.int l), some (.ref pf), none] H1 I1 (.list ((List.range l).reverse.map fun (i : Nat) => PyData.int (i : Int))) := by
    refine Ed.is (ed_revL (ed_listRg (J := I1) (n := l) (ed_var rfl (.int _)) g1.o g1.o (by omega))) ?_
    rw [Int.toNat_natCast, List.map_reverse]
  refine q_forL (I := I1) hrev g1.o (fun I2 i σ' H' => ∃ x I3 xf, σ' = [some (.int l), some (.ref pf), x] ∧ Go I H I3 H' ∧ Ex I2 I3 ∧ Own I3 H' pf xf ∧ IsAll I3 xf ((slowTo l i).map cmD)) ?_ ?_ ?_ ?_
  · rintro I2 i σ' H' ⟨x, I3, xf, _, g, e, _⟩
    exact e.trans g.o
  · intro I2 H2 g2
    exact ⟨none, I2, vf, rfl, g1.trans g2, Ex.refl _, o1.go g2, kf.mono g2.i⟩
  · rintro I2 i d v σ' H' e2 hd kx ⟨x, I3, xf, rfl, g, e3, o, kf⟩
    obtain ⟨kk, hk, rfl⟩ := map_get hd
    cases kx
    have hxl := kf.length
    rw [List.length_map] at hxl
    have hsl := slowTo_len l i
    have hil := (List.getElem?_eq_some_iff.mp hk).1
    rw [List.length_reverse, List.length_range] at hil
    refine g_ext (ds := (slowStep kk).map cmD) g rfl o hpf (ed_if (et_test (J := I3) (ad_gt (ed_var rfl (.int _)) ed_int g.o) g.o) (fun hb => ?_) fun hb => ?_) (by
      have : (slowStep kk).length ≤ 3 := by
        unfold slowStep
        split <;> simp
      rw [List.length_map]
      omega) fun vs I4 H4 g4 g4' o4 k4 => ?_
    · have hb : (0 : Int) < kk := of_decide_eq_true hb
      unfold slowStep
      rw [if_pos hb]
      exact (show Ed _ _ _ _ (.list [.tuple [.str "take", .int 0], .tuple [.str "run", .int kk], .tuple [.str "turn"]]) by have e := g.o; walk_at "ed")
    · have hb : ¬ (0 : Int) < kk := of_decide_eq_false hb
      unfold slowStep
      rw [if_neg hb]
      exact (show Ed _ _ _ _ (.list [.tuple [.str "take", .int 0], .tuple [.str "turn"]]) by have e := g.o; walk_at "ed")
    · refine ⟨_, I4, _, rfl, g4, e3.trans g4'.i, o4, ?_⟩
      rw [slowTo_succ hk, List.map_append]
      exact (kf.mono g4'.i).append k4
  · rintro I2 σ' H' e2 ⟨x, I3, xf, rfl, g, e3, o, kf⟩
    have ee : slowTo l ((List.range l).reverse.map fun (i : Nat) => PyData.int (i : Int)).length = slowC l := by
      unfold slowTo slowC
      rw [List.length_map, List.take_length]
    rw [ee] at kf
    exact g_retO q g rfl o kf hpf
end
end K84
namespace K84
open PySem PySem.Spec PyProof.Rows L2 KD
local macro_rules
  | `(tactic| walk_at "ed") => `(tactic| first
    | with_reducible assumption
    | with_reducible exact Ex.refl _
    | (with_reducible apply Go.o; with_reducible assumption)
    | with_reducible exact ed_int
    | with_reducible exact ed_bl
    | with_reducible exact ed_str
    | with_reducible exact ed_non
    | ((with_reducible apply ed_var) <;> (first | (exact rfl) | exact Is.int _ | exact Is.bl _ | exact Is.str _ | exact Is.non | with_reducible assumption))
    | ((with_reducible apply ad_add) <;> walk_at "ed")
    | ((with_reducible apply ad_sub) <;> walk_at "ed")
    | ((with_reducible apply ad_lt) <;> walk_at "ed")
    | ((with_reducible apply ad_le) <;> walk_at "ed")
    | ((with_reducible apply ad_gt) <;> walk_at "ed")
    | ((with_reducible apply ad_ge) <;> walk_at "ed")
    | ((with_reducible apply ad_eqI) <;> walk_at "ed")
    | ((with_reducible apply ad_neI) <;> walk_at "ed")
    | ((with_reducible apply ad_eqS) <;> walk_at "ed")
    | ((with_reducible apply ad_neS) <;> walk_at "ed")
    | ((with_reducible apply ad_notV) <;> walk_at "ed")
    | ((with_reducible apply ad_neg) <;> walk_at "ed")
    | ((with_reducible apply ad_lenL) <;> walk_at "ed")
    | ((with_reducible refine ad_tup ?_ ?_) <;> (first | walk_at "ed" | (simp only [List.length_cons, List.length_nil]; decide)))
    | ((with_reducible refine ad_lst ?_ ?_) <;> (first | walk_at "ed" | (simp only [List.length_cons, List.length_nil]; decide)))
    | ((with_reducible apply ea_cons) <;> walk_at "ed")
    | with_reducible exact ea_nil)

def forBody : Stmt → List Stmt
  | .For _ _ b _ _ => b
  | .While _ b _ _ => b
  | _ => []
def stAt (st : Stmt) (i : Nat) : Stmt := (defBody st).getD i (.Pass ⟨0, 0, 0, 0⟩)
structure Lst where
  here : Int
  left : Int
  kept : Int → Option Int
  count : Int
  runs : Int
def cutS (ks : List Int) (a b : Int) : Int := (cutA ks (some a) (some b)).sum
def behindB (ks : List Int) (u : Bool) (s : Lst) : Bool := u && (decide (0 < s.left) && (decide (s.here = s.left) && decide (kAt ks (s.left - 1) = 0)))
def lStep (ks : List Int) (c : Int) (u : Bool) (s : Lst) : Cm → Option Lst
  | .turn => if (decide (s.left = 0) || (!decide (s.here = s.left - 1) && !behindB ks u s)) = true then none else some { s with left := s.left - 1, here := s.left - 1 }
  | .mv w n =>
    if (decide (w = "run") && (decide (1 ≤ n) && decide (n ≤ s.left - s.here))) = true then some { s with count := s.count + cutS ks s.here (s.here + n), runs := s.runs + n, here := s.here + n }
    else if (decide (w = "undo") && (u && ((decide (1 ≤ n) && decide (n ≤ s.here)) && decide (cutS ks (s.here - n) s.here = 0)))) = true then some { s with here := s.here - n }
    else if (decide (w = "keep") && (decide (0 ≤ n) && decide (n < c))) = true then some { s with kept := fun i => if i = n then some s.here else s.kept i }
    else if (decide (w = "take") && (s.kept n).isSome) = true then some { s with here := (s.kept n).getD 0 }
    else none
  | _ => none
def lGo (ks : List Int) (c : Int) (u : Bool) : Lst → List Cm → Option Lst
  | s, [] => some s
  | s, cm :: r => match lStep ks c u s cm with
    | none => none
    | some s2 => lGo ks c u s2 r
def l0 (ks : List Int) : Lst := ⟨0, ks.length, fun _ => none, 0, 0⟩
abbrev LR := Bool × Int × Int
def lRes : Option Lst → LR
  | none => (false, 0, 0)
  | some s => (decide (s.left = 0), s.count, s.runs)
def lWalk (ks : List Int) (c : Int) (v : Val) (u : Bool) : LR := match v with
  | .ls cs => if (4000 : Int) < cs.length then (false, 0, 0) else lRes (lGo ks c u (l0 ks) cs)
  | .tp cs => if (4000 : Int) < cs.length then (false, 0, 0) else lRes (lGo ks c u (l0 ks) cs)
  | .oth _ => (false, 0, 0)
def lrD (r : LR) : PyData := .tuple [.bool r.1, .int r.2.1, .int r.2.2]
def cmNice : Cm → Prop
  | .mv w _ => PyData.strOk w = true
  | .bl w _ => PyData.strOk w = true
  | _ => True
def valNice : Val → Prop
  | .ls cs => cs.length ≤ 90000 ∧ ∀ cm ∈ cs, cmNice cm
  | .tp cs => cs.length ≤ 90000 ∧ ∀ cm ∈ cs, cmNice cm
  | .oth d => isSeq d = false
section
variable {P : Program} {w : World} {K : PySem.W.Frag} {mg : Str → Option Value} {base : Heap} {C : Addr}
abbrev N__law_walked : List Str := ["kinds", "c", "schedule", "undoes", "l", "here", "turned_from", "kept", "count", "runs", "command", "behind", "word", "number"]
theorem sc__law_walked : FnScope N__law_walked ["kinds", "c", "schedule", "undoes"] (defScope s__law_walked) := ⟨rfl, rfl, rfl, by decide +kernel, rfl, by decide +kernel, by decide +kernel⟩
abbrev lwSt (v1 v3 : V) (c : Int) (u : Bool) (pk : Addr) (l : Int) (s : Lst) (x10 x11 x12 x13 : Option V) : L2.St := [some v1, some (.int c), some v3, some (.bl u), some (.int l), some (.int s.here), some (.int s.left), some (.ref pk), some (.int s.count), some (.int s.runs), x10, x11, x12, x13]
theorem cm_shaped {w : Str} {d : PyData} (hw : PyData.strOk w = true) (hd : (∃ n, d = .int n) ∨ ∃ b, d = .bool b) : noD (.tuple [.str w, d]) = true ∧ SeqAt.shaped (.tuple [.str w, d]) = true := by
  rcases hd with ⟨n, rfl⟩ | ⟨b, rfl⟩
  · refine ⟨rfl, ?_⟩
    unfold SeqAt.shaped
    simp [PyData.canLay0, PyData.canLayAll0, PyData.depth, PyData.depthAll, hw]
  · refine ⟨rfl, ?_⟩
    unfold SeqAt.shaped
    simp [PyData.canLay0, PyData.canLayAll0, PyData.depth, PyData.depthAll, hw]
theorem lw_body (T : Txt K mg C) (f : Addr) (cdv : Value) (A : Around) (outer : List Env) (s0 : Shared) (H : Hp) (E : XK) (hu64 : (A.deeper (envOfC "_law_walked" (defScope s__law_walked) s0.heap.objs.size f cdv)).units + 64 < cLine) (hu : (A.deeper (envOfC "_law_walked" (defScope s__law_walked) s0.heap.objs.size f cdv)).units + 1 < cLine) :
    ∃ t, PSs (cxOf CX0 P w K mg base N__law_walked "_law_walked" (defScope s__law_walked) f cdv A outer s0 H E).nox (forBody (stAt s__law_walked 2)) t ∧
      ∀ {ks : List Int} {c : Int} {u : Bool} {I I2 H' : Hp} {pk : Addr} {v1 v3 x : V} {x11 x12 x13 : Option V} {s : Lst} {i : Nat} {cm : Cm} {D : Ends} {l : Int}, Is I2 x (cmD cm) → cmNice cm → Is I2 v1 (kD ks) → Go I H I2 H' → DI H' pk s.kept i → I2 pk = none → H pk = none → i < 90000 → 0 ≤ s.left → s.left ≤ ks.length →
        (lStep ks c u s cm = none → ∀ H2 I3, Go I H I3 H2 → Ex I2 I3 → ∀ v, Is I3 v (lrD (false, 0, 0)) → D.rt v H2) →
        (∀ s2, lStep ks c u s cm = some s2 → ∀ H2 y11 y12 y13, Go I H I2 H2 → DI H2 pk s2.kept (i + 1) → D.nx (lwSt v1 v3 c u pk l s2 (some x) y11 y12 y13) H2 ∧ D.ct (lwSt v1 v3 c u pk l s2 (some x) y11 y12 y13) H2) →
        t D (lwSt v1 v3 c u pk l s (some x) x11 x12 x13) H' := by
  refine ⟨_, (pss_cons (ps_if (PW.pt (pw_or (pt_not (pt_val (pe_callB call_isi (by rfl) T.b_isinstance (by decide +kernel) (pa_cons (pv 10) (pa_cons (pe_bltn (v := .ty "tuple") (by rfl) T.b_tuple (by decide +kernel) rfl) pa_nil))))) (pw_or (pt_cmpR (op_eqD hu64) (pv 10) (pe_tup pa_nil) (nomark _)) (pw_or1 (pt_not (pt_val (pe_callB call_isi (by rfl) T.b_isinstance (by decide +kernel) (pa_cons (pe_ix ix_tup (pv 10) pe_int (fun _ _ => rfl)) (pa_cons (pe_bltn (v := .ty "str") (by rfl) T.b_str (by decide +kernel) rfl) pa_nil))))))))) (pss_one (ps_ret (pe_tup (pa_cons pe_bl (pa_cons pe_int (pa_cons pe_int pa_nil)))))) pss_nil) (pss_cons (ps_if (PW.pt (pw_and (pt_cmpR op_eq (pe_ix ix_tup (pv 10) pe_int (fun _ _ => rfl)) pe_str (nomark _)) (pw_and1 (pt_cmpR op_eq (pe_callB call_len_seq (by rfl) T.b_len (by decide +kernel) (pa_cons (pv 10) pa_nil)) pe_int (nomark _))))) (pss_cons (ps_set (i := 11) sc__law_walked.nd rfl (Or.inl rfl) (pe_and (pv 3) (pe_and (pe_cmpR op_gt (pv 6) pe_int (nomark _)) (pe_and (pe_cmpR op_eq (pv 5) (pv 6) (nomark _)) (pe_one (pe_cmpR op_eq (pe_ix ix_list (pv 0) (pe_op op_sub (pv 6) pe_int) (fun _ _ => rfl)) pe_int (nomark _))))))) (pss_cons (ps_if (PW.pt (pw_or (pt_cmpR op_eq (pv 6) pe_int (nomark _)) (pw_or1 (PW.pt (pw_and (pt_cmpR op_ne (pv 5) (pe_op op_sub (pv 6) pe_int) (nomark _)) (pw_and1 (pt_not (pt_val (pv 11))))))))) (pss_one (ps_ret (pe_tup (pa_cons pe_bl (pa_cons pe_int (pa_cons pe_int pa_nil)))))) pss_nil) (pss_cons (ps_set (i := 6) sc__law_walked.nd rfl (Or.inl rfl) (pe_op op_sub (pv 6) pe_int)) (pss_cons (ps_set (i := 5) sc__law_walked.nd rfl (Or.inl rfl) (pv 6)) (pss_one ps_continue))))) pss_nil) (pss_cons (ps_if (PW.pt (pw_or (pt_cmpR op_ne (pe_callB call_len_seq (by rfl) T.b_len (by decide +kernel) (pa_cons (pv 10) pa_nil)) pe_int (nomark _)) (pw_or (pt_val (pe_callB call_isi (by rfl) T.b_isinstance (by decide +kernel) (pa_cons (pe_ix ix_tup (pv 10) pe_int (fun _ _ => rfl)) (pa_cons (pe_bltn (v := .ty "bool") (by rfl) T.b_bool (by decide +kernel) rfl) pa_nil)))) (pw_or1 (pt_not (pt_val (pe_callB call_isi (by rfl) T.b_isinstance (by decide +kernel) (pa_cons (pe_ix ix_tup (pv 10) pe_int (fun _ _ => rfl)) (pa_cons (pe_bltn (v := .ty "int") (by rfl) T.b_int (by decide +kernel) rfl) pa_nil))))))))) (pss_one (ps_ret (pe_tup (pa_cons pe_bl (pa_cons pe_int (pa_cons pe_int pa_nil)))))) pss_nil) (pss_cons (ps_asg (pv 10) (pg_tup (by rfl) (pgs_cons (pg_name (i := 12) sc__law_walked.nd rfl (Or.inl rfl)) (pgs_cons (pg_name (i := 13) sc__law_walked.nd rfl (Or.inl rfl)) pgs_nil)))) (pss_one (ps_if (PW.pt (pw_and (pt_cmpR op_eq (pv 12) pe_str (nomark _)) (pw_and1 (pt_chain op_le op_le pe_int (pv 13) (pe_op op_sub (pv 6) (pv 5)))))) (pss_cons (ps_par (i := 8) (j := 9) (by rfl) sc__law_walked.nd rfl rfl (by decide) rfl rfl (pa_cons (pe_op op_add (pv 8) (pe_callB (cr_sum rfl) (by rfl) T.b_sum (by decide +kernel) (pa_cons (pe_slice sl_list (pv 0) (po_some (pv 5)) (po_some (pe_op op_add (pv 5) (pv 13)))) pa_nil))) (pa_cons (pe_op op_add (pv 9) (pv 13)) pa_nil)) (by rfl)) (pss_one (ps_set (i := 5) sc__law_walked.nd rfl (Or.inl rfl) (pe_op op_add (pv 5) (pv 13))))) (pss_one (ps_if (PW.pt (pw_and (pt_cmpR op_eq (pv 12) pe_str (nomark _)) (pw_and (pt_val (pv 3)) (pw_and (pt_chain op_le op_le pe_int (pv 13) (pv 5)) (pw_and1 (pt_cmpR op_eq (pe_callB (cr_sum rfl) (by rfl) T.b_sum (by decide +kernel) (pa_cons (pe_slice sl_list (pv 0) (po_some (pe_op op_sub (pv 5) (pv 13))) (po_some (pv 5))) pa_nil)) pe_int (nomark _))))))) (pss_one (ps_set (i := 5) sc__law_walked.nd rfl (Or.inl rfl) (pe_op op_sub (pv 5) (pv 13)))) (pss_one (ps_if (PW.pt (pw_and (pt_cmpR op_eq (pv 12) pe_str (nomark _)) (pw_and1 (pt_chain op_le op_lt pe_int (pv 13) (pv 1))))) (pss_one (ps_dput hu (pv 7) (pv 13) (pv 5) (by rfl))) (pss_one (ps_if (PW.pt (pw_and (pt_cmpR op_eq (pv 12) pe_str (nomark _)) (pw_and1 (pt_cmp (pc_din hu (pv 13) (pv 7)))))) (pss_one (ps_set (i := 5) sc__law_walked.nd rfl (Or.inl rfl) (pe_dget hu (pv 7) (pv 13) (fun _ _ => rfl)))) (pss_one (ps_ret (pe_tup (pa_cons pe_bl (pa_cons pe_int (pa_cons pe_int pa_nil)))))))))))))))))), ?_⟩
  intro ks c u I I2 H' pk v1 v3 x x11 x12 x13 s i cm D l kx hnice kks g hd hpi hp0 hi hl1 hl2 hnone hsome
  have hret : ∀ {D2 : Ends} {σ : L2.St} {H2 : Hp}, D2.rt = D.rt → Go I H I2 H2 → lStep ks c u s cm = none → tRet (tTup (tCons (tC (.bl false)) (tCons (tC (.int 0)) (tCons (tC (.int 0)) tNil)))) D2 σ H2 := fun {D2 σ H2} hD g2 hn => by
    refine (show Ed _ σ H2 I2 (lrD (false, 0, 0)) from ad_tup (ea_cons ed_bl (ea_cons ed_int (ea_cons ed_int ea_nil))) (by show 3 ≤ 100000; decide)) H2 (Ex.refl _) g2.o _ fun v I3 H3 a1 a2 a3 nw kv => ?_
    rw [hD]
    exact hnone hn H3 I3 (g2.trans ⟨a1, nw, a2, a3⟩) a1 v kv
  cases cm with
  | non => exact q_when g (b := true) (et_or (a := true) (b := true) (et_not (a := false) (et_test (J := I2) (ed_isi (kit_tuple _) (ed_var rfl kx) g.o) g.o)) fun z => by cases z) (fun hb H2 g2 e2 => hret rfl g2 rfl) fun hb H2 g2 e2 => by cases hb
  | ls ds => exact q_when g (b := true) (et_or (a := true) (b := true) (et_not (a := false) (et_test (J := I2) (ed_isi (kit_tuple _) (ed_var rfl kx) g.o) g.o)) fun z => by cases z) (fun hb H2 g2 e2 => hret rfl g2 rfl) fun hb H2 g2 e2 => by cases hb
  | turn =>
    have c0 : ∀ {H1 : Hp} {σ : L2.St}, σ[10]? = some (some x) → Go I H I2 H1 → Ed (tOp (rIxT K) (tVar 10) (tC (.int 0))) σ H1 I2 (.str "turn") := fun hs g => ed_ixT (ed_var hs kx) ed_int g.o rfl
    refine q_when g (b := !true || (false || !true)) (et_or (et_not (et_test (J := I2) (ed_isi (kit_tuple _) (ed_var rfl kx) g.o) g.o)) fun _ => et_or (Et.is (et_test (J := I2) (ed_eqD (d1 := .tuple [.str "turn"]) (d2 := .tuple []) (by decide) (by decide) (by decide +kernel) (by decide +kernel) (ed_var rfl kx) (ad_tup (ds := []) ea_nil (by show 0 ≤ 100000; decide)) g.o g.o) g.o) (by decide)) fun _ => et_not (et_test (J := I2) (ed_isi (kit_str (.str "turn")) (c0 rfl g) g.o) g.o)) (fun z => by cases z) fun _ H2 g2 e2 => ?_
    refine q_when g2 (b := true && true) (et_and (Et.is (et_test (J := I2) (ad_eqS (c0 rfl g2) ed_str g2.o) g2.o) (by decide)) fun _ => Et.is (et_test (J := I2) (ad_eqI (ed_lenT (J := I2) (ed_var rfl kx) g2.o) ed_int g2.o) g2.o) (by rfl)) (fun _ H3 g3 e3 => ?_) (fun z => by cases z)
    refine q_bl g3 (n := behindB ks u s) (ad_andV (ed_var rfl (.bl u)) (fun _ => ad_andV (ad_gt (ed_var rfl (.int _)) ed_int g3.o) (fun hlt => ad_andV (ad_eqI (ed_var rfl (.int _)) (ed_var rfl (.int _)) g3.o) (fun _ => ad_eqI (ed_ixL (ed_var rfl kks) (ad_sub (ed_var rfl (.int _)) ed_int g3.o) g3.o (atI_k (by have := of_decide_eq_true hlt; omega) (by omega))) ed_int g3.o) g3.o) g3.o) g3.o) fun H4 g4 e4 => ?_
    refine q_when g4 (b := decide (s.left = 0) || (!decide (s.here = s.left - 1) && !behindB ks u s)) (et_or (et_test (J := I2) (ad_eqI (ed_var rfl (.int _)) ed_int g4.o) g4.o) fun _ => et_and (et_test (J := I2) (ad_neI (ed_var rfl (.int _)) (ad_sub (ed_var rfl (.int _)) ed_int g4.o) g4.o) g4.o) fun _ => et_not (et_test (J := I2) (ed_var rfl (.bl _)) g4.o)) (fun hb H5 g5 e5 => hret rfl g5 (by show (if _ then none else _) = none; rw [if_pos hb])) fun hb H5 g5 e5 => ?_
    have hs2 : lStep ks c u s .turn = some { s with left := s.left - 1, here := s.left - 1 } := by
      show (if _ then none else _) = _
      rw [if_neg (by rw [hb]; simp)]
    refine q_int g5 (n := s.left - 1) (ad_sub (ed_var rfl (.int _)) ed_int g5.o) fun H6 g6 e6 => ?_
    refine q_int g6 (n := s.left - 1) (ed_var rfl (.int _)) fun H7 g7 e7 => ?_
    obtain ⟨kvs, q1, q2, q3⟩ := hd.ex (((((e2.trans e3).trans e4).trans e5).trans e6).trans e7)
    exact (hsome _ hs2 H7 _ _ _ g7 ⟨kvs, q1, q2, by omega⟩).2
  | bl wd b =>
    have c0 : ∀ {H1 : Hp} {σ : L2.St}, σ[10]? = some (some x) → Go I H I2 H1 → Ed (tOp (rIxT K) (tVar 10) (tC (.int 0))) σ H1 I2 (.str wd) := fun hs g => ed_ixT (ed_var hs kx) ed_int g.o rfl
    have c1 : ∀ {H1 : Hp} {σ : L2.St}, σ[10]? = some (some x) → Go I H I2 H1 → Ed (tOp (rIxT K) (tVar 10) (tC (.int 1))) σ H1 I2 (.bool b) := fun hs g => ed_ixT (ed_var hs kx) ed_int g.o rfl
    obtain ⟨z1, z2⟩ := cm_shaped (d := .bool b) hnice (.inr ⟨b, rfl⟩)
    refine q_when g (b := !true || (false || !true)) (et_or (et_not (et_test (J := I2) (ed_isi (kit_tuple _) (ed_var rfl kx) g.o) g.o)) fun _ => et_or (Et.is (et_test (J := I2) (ed_eqD (d1 := .tuple [.str wd, .bool b]) (d2 := .tuple []) z1 (by decide) z2 (by decide) (ed_var rfl kx) (ad_tup (ds := []) ea_nil (by show 0 ≤ 100000; decide)) g.o g.o) g.o) (by simp [PyData.eqv, PyData.eqvAll])) fun _ => et_not (et_test (J := I2) (ed_isi (kit_str (.str wd)) (c0 rfl g) g.o) g.o)) (fun z => by cases z) fun _ H2 g2 e2 => ?_
    refine q_when g2 (b := decide (wd = "turn") && false) (et_and (et_test (J := I2) (ad_eqS (c0 rfl g2) ed_str g2.o) g2.o) fun _ => Et.is (et_test (J := I2) (ad_eqI (ed_lenT (J := I2) (ed_var rfl kx) g2.o) ed_int g2.o) g2.o) (by rfl)) (fun z => by simp at z) fun _ H3 g3 e3 => ?_
    refine q_when g3 (b := false || (true || true)) (et_or (Et.is (et_test (J := I2) (ad_neI (ed_lenT (J := I2) (ed_var rfl kx) g3.o) ed_int g3.o) g3.o) (by rfl)) fun _ => et_or (et_test (J := I2) (ed_isi (kit_bool (.bool b)) (c1 rfl g3) g3.o) g3.o) (fun z => by cases z)) (fun _ H4 g4 e4 => hret rfl g4 rfl) (fun z => by cases z)
  | mv wd n =>
    have c0 : ∀ {H1 : Hp} {σ : L2.St}, σ[10]? = some (some x) → Go I H I2 H1 → Ed (tOp (rIxT K) (tVar 10) (tC (.int 0))) σ H1 I2 (.str wd) := fun hs g => ed_ixT (ed_var hs kx) ed_int g.o rfl
    have c1 : ∀ {H1 : Hp} {σ : L2.St}, σ[10]? = some (some x) → Go I H I2 H1 → Ed (tOp (rIxT K) (tVar 10) (tC (.int 1))) σ H1 I2 (.int n) := fun hs g => ed_ixT (ed_var hs kx) ed_int g.o rfl
    obtain ⟨z1, z2⟩ := cm_shaped (d := .int n) hnice (.inl ⟨n, rfl⟩)
    refine q_when g (b := !true || (false || !true)) (et_or (et_not (et_test (J := I2) (ed_isi (kit_tuple _) (ed_var rfl kx) g.o) g.o)) fun _ => et_or (Et.is (et_test (J := I2) (ed_eqD (d1 := .tuple [.str wd, .int n]) (d2 := .tuple []) z1 (by decide) z2 (by decide) (ed_var rfl kx) (ad_tup (ds := []) ea_nil (by show 0 ≤ 100000; decide)) g.o g.o) g.o) (by simp [PyData.eqv, PyData.eqvAll])) fun _ => et_not (et_test (J := I2) (ed_isi (kit_str (.str wd)) (c0 rfl g) g.o) g.o)) (fun z => by cases z) fun _ H2 g2 e2 => ?_
    refine q_when g2 (b := decide (wd = "turn") && false) (et_and (et_test (J := I2) (ad_eqS (c0 rfl g2) ed_str g2.o) g2.o) fun _ => Et.is (et_test (J := I2) (ad_eqI (ed_lenT (J := I2) (ed_var rfl kx) g2.o) ed_int g2.o) g2.o) (by rfl)) (fun z => by simp at z) fun _ H3 g3 e3 => ?_
    refine q_when g3 (b := false || (false || !true)) (et_or (Et.is (et_test (J := I2) (ad_neI (ed_lenT (J := I2) (ed_var rfl kx) g3.o) ed_int g3.o) g3.o) (by rfl)) fun _ => et_or (et_test (J := I2) (ed_isi (kit_bool (.int n)) (c1 rfl g3) g3.o) g3.o) fun _ => et_not (et_test (J := I2) (ed_isi (kit_int (.int n)) (c1 rfl g3) g3.o) g3.o)) (fun z => by cases z) fun _ H4 g4 e4 => ?_
    have hun : ∀ {tz : TS}, tz D (lwSt v1 v3 c u pk l s (some x) x11 (some (.str wd)) (some (.int n))) H4 → tSeq (tAsg (tVar 10) (gTup K 2 (gCons (gName 12) (gCons (gName 13) gNil)))) tz D (lwSt v1 v3 c u pk l s (some x) x11 x12 x13) H4 := fun {tz} hh => by
      have kx : Is I2 x (.tuple [.str wd, .int n]) := kx
      cases kx with
      | @tup a xs _ ka kb =>
        obtain ⟨w1, w2, rfl, q1, q2⟩ := isAll2 kb
        cases q1
        cases q2
        exact ⟨_, rfl, a, _, rfl, SqT.of (g4.o _ _ ka), rfl, _, _, rfl, _, _, rfl, rfl, hh⟩
    refine hun ?_
    have e14 := (e2.trans e3).trans e4
    have hmv : lStep ks c u s (.mv wd n) = (if (decide (wd = "run") && (decide (1 ≤ n) && decide (n ≤ s.left - s.here))) = true then some { s with count := s.count + cutS ks s.here (s.here + n), runs := s.runs + n, here := s.here + n }
      else if (decide (wd = "undo") && (u && ((decide (1 ≤ n) && decide (n ≤ s.here)) && decide (cutS ks (s.here - n) s.here = 0)))) = true then some { s with here := s.here - n }
      else if (decide (wd = "keep") && (decide (0 ≤ n) && decide (n < c))) = true then some { s with kept := fun i => if i = n then some s.here else s.kept i }
      else if (decide (wd = "take") && (s.kept n).isSome) = true then some { s with here := (s.kept n).getD 0 }
      else none) := rfl
    rw [hmv] at hnone hsome hret
    have hcut : ∀ {H1 : Hp} {a b : Int} {ta tb : TE} {σ : L2.St}, Go I H I2 H1 → σ[0]? = some (some v1) → Ed ta σ H1 I2 (.int a) → Ed tb σ H1 I2 (.int b) → Ed (tCB (rSum K) (tCons (tSl (rSlL K) (tVar 0) (tPart ta) (tPart tb)) tNil)) σ H1 I2 (.int (cutS ks a b)) := fun {H1 a b ta tb σ} g hs ha hb => by
      refine ed_sum (J := I2) ?_ g.o
      rw [← cutD_map]
      exact ed_sl (ed_var hs kks) (eo_some (J := I2) ha g.o) (eo_some (J := I2) hb g.o)
    refine g_if g4 (et_and (et_test (J := I2) (ad_eqS (ed_var rfl (.str _)) ed_str g4.o) g4.o) fun _ => et_test (J := I2) (ed_chainI (J := I2) (g := fun i j => decide (i ≤ j)) (g' := fun i j => decide (i ≤ j)) ed_int (ed_var rfl (.int _)) (ad_sub (ed_var rfl (.int _)) (ed_var rfl (.int _)) g4.o) g4.o) g4.o) (fun hb H5 g5 e5 => ?_) fun hb H5 g5 e5 => ?_
    · rw [if_pos hb] at hsome
      refine q_parII g5 (m := s.count + cutS ks s.here (s.here + n)) (n := s.runs + n) (ad_add (ed_var rfl (.int _)) (hcut g5 rfl (ed_var rfl (.int _)) (ad_add (ed_var rfl (.int _)) (ed_var rfl (.int _)) g5.o)) g5.o) (ad_add (ed_var rfl (.int _)) (ed_var rfl (.int _)) g5.o) fun H6 g6 e6 => ?_
      refine g_int g6 (n := s.here + n) (ad_add (ed_var rfl (.int _)) (ed_var rfl (.int _)) g6.o) fun H7 g7 e7 => ?_
      obtain ⟨kvs, q1, q2, q3⟩ := hd.ex (((e14.trans e5).trans e6).trans e7)
      exact (hsome _ rfl H7 _ _ _ g7 ⟨kvs, q1, q2, by omega⟩).1
    have hb1 := hb
    rw [if_neg (by rw [hb1]; simp)] at hnone hsome hret
    refine g_if g5 (et_and (et_test (J := I2) (ad_eqS (ed_var rfl (.str _)) ed_str g5.o) g5.o) fun _ => et_and (et_test (J := I2) (ed_var rfl (.bl u)) g5.o) fun _ => et_and (et_test (J := I2) (ed_chainI (J := I2) (g := fun i j => decide (i ≤ j)) (g' := fun i j => decide (i ≤ j)) ed_int (ed_var rfl (.int _)) (ed_var rfl (.int _)) g5.o) g5.o) fun _ => et_test (J := I2) (ad_eqI (hcut g5 rfl (ad_sub (ed_var rfl (.int _)) (ed_var rfl (.int _)) g5.o) (ed_var rfl (.int _))) ed_int g5.o) g5.o) (fun hb H6 g6 e6 => ?_) fun hb H6 g6 e6 => ?_
    · rw [if_pos hb] at hsome
      refine g_int g6 (n := s.here - n) (ad_sub (ed_var rfl (.int _)) (ed_var rfl (.int _)) g6.o) fun H7 g7 e7 => ?_
      obtain ⟨kvs, q1, q2, q3⟩ := hd.ex (((e14.trans e5).trans e6).trans e7)
      exact (hsome _ rfl H7 _ _ _ g7 ⟨kvs, q1, q2, by omega⟩).1
    have hb2 := hb
    rw [if_neg (by rw [hb2]; simp)] at hnone hsome hret
    refine g_if g6 (et_and (et_test (J := I2) (ad_eqS (ed_var rfl (.str _)) ed_str g6.o) g6.o) fun _ => et_test (J := I2) (ed_chainI (J := I2) (g := fun i j => decide (i ≤ j)) (g' := fun i j => decide (i < j)) ed_int (ed_var rfl (.int _)) (ed_var rfl (.int _)) g6.o) g6.o) (fun hb H7 g7 e7 => ?_) fun hb H7 g7 e7 => ?_
    · rw [if_pos hb] at hsome
      refine g_dput (hd.ex (((e14.trans e5).trans e6).trans e7)) (by omega) g7 hpi hp0 (ev_var rfl) (ed_var rfl (.int n)) (ed_var rfl (.int s.here)) fun H8 o8 e8 g8 d8 => ?_
      exact (hsome _ rfl _ _ _ _ g8 d8).1
    have hb3 := hb
    rw [if_neg (by rw [hb3]; simp)] at hnone hsome hret
    have d7 := hd.ex (((e14.trans e5).trans e6).trans e7)
    refine g_if g7 (et_and (et_test (J := I2) (ad_eqS (ed_var rfl (.str _)) ed_str g7.o) g7.o) fun _ => et_B (J := I2) (ed_din (J := I2) d7 (ev_var rfl) (ed_var rfl (.int n)) g7.o) g7.o) (fun hb H8 g8 e8 => ?_) fun hb H8 g8 e8 => ?_
    · rw [if_pos hb] at hsome
      rw [Bool.and_eq_true] at hb
      obtain ⟨hh, hkn⟩ := Option.isSome_iff_exists.mp hb.2
      refine g_int g8 (n := hh) (ed_dget (J := I2) (d7.ex e8) hkn (ev_var rfl) (ed_var rfl (.int n)) g8.o) fun H9 g9 e9 => ?_
      obtain ⟨kvs, q1, q2, q3⟩ := d7.ex (e8.trans e9)
      have hq := (hsome _ rfl H9 x11 (some (.str wd)) (some (.int n)) g9 ⟨kvs, q1, q2, by omega⟩).1
      rw [hkn] at hq
      exact hq
    · have hb4 := hb
      rw [if_neg (by rw [hb4]; simp)] at hnone hsome hret
      exact hret rfl g8 rfl
abbrev sp__law_walked : Sp := spOf (fun a : List Int × Int × Val × Bool => [kD a.1, .int a.2.1, valD a.2.2.1, .bool a.2.2.2]) (fun a => a.1.length ≤ 100 ∧ valNice a.2.2.1) fun a => lrD (lWalk a.1 a.2.1 a.2.2.1 a.2.2.2)
theorem lGo_cons (ks : List Int) (c : Int) (u : Bool) (s : Lst) (cm : Cm) (r : List Cm) : lGo ks c u s (cm :: r) = match lStep ks c u s cm with | none => none | some s2 => lGo ks c u s2 r := rfl
theorem lStep_left {ks : List Int} {c : Int} {u : Bool} {s s2 : Lst} {cm : Cm} (h : lStep ks c u s cm = some s2) (h0 : 0 ≤ s.left) (h1 : s.left ≤ ks.length) : 0 ≤ s2.left ∧ s2.left ≤ ks.length := by
  cases cm with
  | turn =>
    have h : (if (decide (s.left = 0) || (!decide (s.here = s.left - 1) && !behindB ks u s)) = true then none else some { s with left := s.left - 1, here := s.left - 1 }) = some s2 := h
    split at h
    · cases h
    · rename_i hb
      cases h
      rw [Bool.or_eq_true, not_or, decide_eq_true_eq] at hb
      exact ⟨by show 0 ≤ s.left - 1; omega, by show s.left - 1 ≤ _; omega⟩
  | mv w n =>
    have e : s2.left = s.left := by
      unfold lStep at h
      dsimp only at h
      split at h
      · cases h; rfl
      · split at h
        · cases h; rfl
        · split at h
          · cases h; rfl
          · split at h
            · cases h; rfl
            · cases h
    rw [e]
    exact ⟨h0, h1⟩
  | _ => cases h
theorem ok__law_walked (T : Txt K mg C) (F : Fn K mg "_law_walked" s__law_walked) : Cal P w K mg base 1 "_law_walked" ["kinds", "c", "schedule", "undoes"] s__law_walked sp__law_walked := by
  refine cal_mk F sc__law_walked (fun _ _ _ _ _ _ us hl => match us, hl with | [_, _, _, _], _ => rfl) (fun vs H Q E h => spOf_len (n := 4) (fun _ => rfl) h) (fun f cdv A outer s H vs Q E hr h => ?_)
  obtain ⟨⟨ks, c, v, u⟩, I, e, k, ⟨h1, h2⟩, q⟩ := spOf_out h
  dsimp only at k h1 h2 q
  obtain ⟨v1, v2, v3, v4, rfl, k1, k2, k3, k4⟩ := isAll4 k
  cases k2
  cases k4
  have hu64 : (A.deeper (envOfC "_law_walked" (defScope s__law_walked) s.heap.objs.size f cdv)).units + 64 < cLine := by
    have := hr.un
    omega
  have hu := room_hu hr
  obtain ⟨tb, hb, hgood⟩ := lw_body (P := P) (w := w) (mg := mg) (base := base) T f cdv A outer s H E hu64 hu
  have hstart : ∀ {tz : TS} {D : Ends}, (∀ pk H2, Go I H I H2 → DI H2 pk (fun _ => none) 0 → I pk = none → H pk = none → tz D (lwSt v1 v3 c u pk ks.length (l0 ks) none none none none) H2) → tSeq (tAsg (tTup (tCons (tCB (rLenSq K) (tCons (tVar 0) tNil)) (tCons (tC (.int 0)) (tCons (tCB (rLenSq K) (tCons (tVar 0) tNil)) (tCons tDNewK (tCons (tC (.int 0)) (tCons (tC (.int 0)) tNil))))))) (gTup K 6 (gCons (gName 4) (gCons (gName 5) (gCons (gName 6) (gCons (gName 7) (gCons (gName 8) (gCons (gName 9) gNil)))))))) tz D (start N__law_walked [v1, .int c, v3, .bl u]) H := fun {tz D} hh => by
    have hl : ∀ {H1 : Hp}, Ex H H1 → Ev (tCB (rLenSq K) (tCons (tVar 0) tNil)) (start N__law_walked [v1, .int c, v3, .bl u]) H1 (.int ks.length) := fun e1 => (Ed.is (ed_lenL (I := I) (ed_var rfl k1) (e.trans e1)) (by rw [List.length_map])).int (e.trans e1)
    refine hl (Ex.refl _) H (Ex.refl _) _ fun H1 e1 => hl e1 H1 (Ex.refl _) _ fun H2 e2 => fun p hp => ⟨sz_of (by show 6 ≤ 100000; decide), fun qa hq => ⟨qa, _, rfl, SqT.of upd_same, rfl, _, _, rfl, _, _, rfl, _, _, rfl, _, _, rfl, _, _, rfl, _, _, rfl, rfl, ?_⟩⟩
    have hd : (upd H2 p (.dK [])) p = some (HO.dK []) := upd_same
    have ne : p ≠ qa := ne_of_none hd hq
    have ee := ((e1.trans e2).trans (Ex.new (o := .dK []) hp)).trans (Ex.new (o := .tup [.int ks.length, .int 0, .int ks.length, .ref p, .int 0, .int 0]) hq)
    exact hh p _ ((Go.refl e).step ee) (DI.nil (by rw [upd_ne ne, upd_same])) ((e.trans (e1.trans e2)).free hp) ((e1.trans e2).free hp)
  have hbad : ∀ {D : Ends} {σ : L2.St} {H2 : Hp}, D.rt = Q → Go I H I H2 → lWalk ks c v u = (false, 0, 0) → tRet (tTup (tCons (tC (.bl false)) (tCons (tC (.int 0)) (tCons (tC (.int 0)) tNil)))) D σ H2 := fun {D σ H2} hD g hl => by
    rw [hl] at q
    refine g_ret (D := D) (by rw [hD]; exact q) g (ad_tup (ea_cons ed_bl (ea_cons ed_int (ea_cons ed_int ea_nil))) (by show 3 ≤ 100000; decide))
  have hend : ∀ {D : Ends} {I2 H2 : Hp} {pk : Addr} {s : Lst} {x10 x11 x12 x13 : Option V}, D.rt = Q → Go I H I2 H2 → lWalk ks c v u = lRes (some s) → tRet (tTup (tCons (tOp rEq (tVar 6) (tC (.int 0))) (tCons (tVar 8) (tCons (tVar 9) tNil)))) D (lwSt v1 v3 c u pk ks.length s x10 x11 x12 x13) H2 := fun {D I2 H2 pk s x10 x11 x12 x13} hD g hl => by
    rw [hl] at q
    exact g_ret (D := D) (d := lrD (lRes (some s))) (by rw [hD]; exact q) g (ad_tup (ea_cons (ad_eqI (ed_var rfl (.int _)) ed_int g.o) (ea_cons (ed_var rfl (.int _)) (ea_cons (ed_var rfl (.int _)) ea_nil))) (by show 3 ≤ 100000; decide))
  cases v with
  | oth d =>
    refine ⟨_, (pss_cons (ps_asg (pe_tup (pa_cons (pe_callB call_len_seq (by rfl) T.b_len (by decide +kernel) (pa_cons (pv 0) pa_nil)) (pa_cons pe_int (pa_cons (pe_callB call_len_seq (by rfl) T.b_len (by decide +kernel) (pa_cons (pv 0) pa_nil)) (pa_cons pe_dnewK (pa_cons pe_int (pa_cons pe_int pa_nil))))))) (pg_tup (by rfl) (pgs_cons (pg_name (i := 4) sc__law_walked.nd rfl (Or.inl rfl)) (pgs_cons (pg_name (i := 5) sc__law_walked.nd rfl (Or.inl rfl)) (pgs_cons (pg_name (i := 6) sc__law_walked.nd rfl (Or.inl rfl)) (pgs_cons (pg_name (i := 7) sc__law_walked.nd rfl (Or.inl rfl)) (pgs_cons (pg_name (i := 8) sc__law_walked.nd rfl (Or.inl rfl)) (pgs_cons (pg_name (i := 9) sc__law_walked.nd rfl (Or.inl rfl)) pgs_nil)))))))) (pss_cons (ps_if (PW.pt (pw_or (pt_not (pt_val (pe_callB call_isiT (by rfl) T.b_isinstance (by decide +kernel) (pa_cons (pv 2) (pa_cons (pe_tup (pa_cons (pe_bltn (v := .ty "list") (by rfl) T.b_list (by decide +kernel) rfl) (pa_cons (pe_bltn (v := .ty "tuple") (by rfl) T.b_tuple (by decide +kernel) rfl) pa_nil))) pa_nil))))) (pw_or1 (pt_cmpR op_gt (pe_callB call_len_seq (by rfl) T.b_len (by decide +kernel) (pa_cons (pv 2) pa_nil)) pe_int (nomark _))))) (pss_one (ps_ret (pe_tup (pa_cons pe_bl (pa_cons pe_int (pa_cons pe_int pa_nil)))))) pss_nil) (pss_cons (ps_for PassesOwn.never rfl (pi_list (pv 2)) (pg_name (i := 10) sc__law_walked.nd rfl (Or.inl rfl)) hb) (pss_one (ps_ret (pe_tup (pa_cons (pe_cmpR op_eq (pv 6) pe_int (nomark _)) (pa_cons (pv 8) (pa_cons (pv 9) pa_nil))))))))), ?_⟩
    refine hstart fun pk H2 g2 d2 hpi hp0 => ?_
    have hd : isSeq d = false := h2
    have hl : (isL d || isTup d) = false := by cases d <;> first | rfl | cases hd
    refine q_when g2 (b := true) (et_or (a := true) (b := true) (Et.is (et_not (et_test (J := I) (ed_isiT (kit_list d) (kit_tuple d) (ed_var rfl k3) g2.o) g2.o)) (by rw [hl]; rfl)) fun z => by cases z) (fun _ H3 g3 e3 => hbad rfl g3 rfl) (fun z => by cases z)
  | ls cs =>
    obtain ⟨hz1, hz2⟩ := h2
    refine ⟨_, (pss_cons (ps_asg (pe_tup (pa_cons (pe_callB call_len_seq (by rfl) T.b_len (by decide +kernel) (pa_cons (pv 0) pa_nil)) (pa_cons pe_int (pa_cons (pe_callB call_len_seq (by rfl) T.b_len (by decide +kernel) (pa_cons (pv 0) pa_nil)) (pa_cons pe_dnewK (pa_cons pe_int (pa_cons pe_int pa_nil))))))) (pg_tup (by rfl) (pgs_cons (pg_name (i := 4) sc__law_walked.nd rfl (Or.inl rfl)) (pgs_cons (pg_name (i := 5) sc__law_walked.nd rfl (Or.inl rfl)) (pgs_cons (pg_name (i := 6) sc__law_walked.nd rfl (Or.inl rfl)) (pgs_cons (pg_name (i := 7) sc__law_walked.nd rfl (Or.inl rfl)) (pgs_cons (pg_name (i := 8) sc__law_walked.nd rfl (Or.inl rfl)) (pgs_cons (pg_name (i := 9) sc__law_walked.nd rfl (Or.inl rfl)) pgs_nil)))))))) (pss_cons (ps_if (PW.pt (pw_or (pt_not (pt_val (pe_callB call_isiT (by rfl) T.b_isinstance (by decide +kernel) (pa_cons (pv 2) (pa_cons (pe_tup (pa_cons (pe_bltn (v := .ty "list") (by rfl) T.b_list (by decide +kernel) rfl) (pa_cons (pe_bltn (v := .ty "tuple") (by rfl) T.b_tuple (by decide +kernel) rfl) pa_nil))) pa_nil))))) (pw_or1 (pt_cmpR op_gt (pe_callB call_len_seq (by rfl) T.b_len (by decide +kernel) (pa_cons (pv 2) pa_nil)) pe_int (nomark _))))) (pss_one (ps_ret (pe_tup (pa_cons pe_bl (pa_cons pe_int (pa_cons pe_int pa_nil)))))) pss_nil) (pss_cons (ps_for PassesOwn.never rfl (pi_list (pv 2)) (pg_name (i := 10) sc__law_walked.nd rfl (Or.inl rfl)) hb) (pss_one (ps_ret (pe_tup (pa_cons (pe_cmpR op_eq (pv 6) pe_int (nomark _)) (pa_cons (pv 8) (pa_cons (pv 9) pa_nil))))))))), ?_⟩
    refine hstart fun pk H2 g2 d2 hpi hp0 => ?_
    refine q_when g2 (b := !(true || false) || decide ((4000 : Int) < cs.length)) (et_or (et_not (et_test (J := I) (ed_isiT (kit_list _) (kit_tuple _) (ed_var rfl k3) g2.o) g2.o)) fun _ => Et.is (et_test (J := I) (ad_gt (ed_lenL (J := I) (ed_var rfl k3) g2.o) ed_int g2.o) g2.o) (by rw [List.length_map])) (fun hc H3 g3 e3 => hbad rfl g3 ?_) fun hc H3 g3 e3 => ?_
    · have hc : (4000 : Int) < cs.length := by simpa using hc
      show (if _ then _ else _) = _
      rw [if_pos hc]
    · have hc : ¬ (4000 : Int) < cs.length := by simpa using hc
      have hlw : lWalk ks c (.ls cs) u = lRes (lGo ks c u (l0 ks) cs) := by
        show (if _ then _ else _) = _
        rw [if_neg hc]
      refine q_forL (I := I) (ds := cs.map cmD) (ed_var rfl k3) g3.o (fun I2 i σ' H' => ∃ s x10 x11 x12 x13, σ' = lwSt v1 v3 c u pk ks.length s x10 x11 x12 x13 ∧ Go I H I2 H' ∧ DI H' pk s.kept i ∧ I2 pk = none ∧ 0 ≤ s.left ∧ s.left ≤ ks.length ∧ lWalk ks c (.ls cs) u = lRes (lGo ks c u s (cs.drop i))) ?_ ?_ ?_ ?_
      · rintro I2 i σ' H' ⟨s, x10, x11, x12, x13, _, g, _⟩
        exact g.o
      · intro I2 H4 g4
        have d3 := d2.ex e3
        obtain ⟨kvs, q1, _⟩ := id d3
        exact ⟨l0 ks, none, none, none, none, rfl, g3.trans g4, d3.ex g4.h, g4.n.none q1 hpi, Int.natCast_nonneg _, Int.le_refl _, hlw⟩
      · rintro I2 i d x σ' H' e2 hd kx ⟨s, x10, x11, x12, x13, rfl, g, hdi, hpi2, hl1, hl2, hw⟩
        obtain ⟨cm, hcm, rfl⟩ := map_get hd
        have hil := (List.getElem?_eq_some_iff.mp hcm).1
        have hdr := List.drop_eq_getElem_cons hil
        rw [(List.getElem?_eq_some_iff.mp hcm).2] at hdr
        rw [hdr, lGo_cons] at hw
        refine hgood kx (hz2 cm (List.mem_of_getElem? hcm)) (k1.mono e2) g hdi hpi2 hp0 (by omega) hl1 hl2 (fun hn H4 I4 g4 e4 v kv => ?_) fun s2 hs2 H4 y11 y12 y13 g4 d4 => ?_
        · rw [hn] at hw
          rw [hw] at q
          exact q v I4 H4 g4.i g4.h g4.o g4.n kv
        · rw [hs2] at hw
          obtain ⟨r1, r2⟩ := lStep_left hs2 hl1 hl2
          have := (show ∃ s x10 x11 x12 x13, lwSt v1 v3 c u pk ks.length s2 (some x) y11 y12 y13 = lwSt v1 v3 c u pk ks.length s x10 x11 x12 x13 ∧ Go I H I2 H4 ∧ DI H4 pk s.kept (i + 1) ∧ I2 pk = none ∧ 0 ≤ s.left ∧ s.left ≤ ks.length ∧ lWalk ks c (.ls cs) u = lRes (lGo ks c u s (cs.drop (i + 1))) from ⟨s2, _, _, _, _, rfl, g4, d4, hpi2, r1, r2, hw⟩)
          exact ⟨this, this⟩
      · rintro I2 σ' H' e2 ⟨s, x10, x11, x12, x13, rfl, g, hdi, hpi2, hl1, hl2, hw⟩
        rw [List.length_map, List.drop_length] at hw
        exact hend rfl g hw
  | tp cs =>
    obtain ⟨hz1, hz2⟩ := h2
    refine ⟨_, (pss_cons (ps_asg (pe_tup (pa_cons (pe_callB call_len_seq (by rfl) T.b_len (by decide +kernel) (pa_cons (pv 0) pa_nil)) (pa_cons pe_int (pa_cons (pe_callB call_len_seq (by rfl) T.b_len (by decide +kernel) (pa_cons (pv 0) pa_nil)) (pa_cons pe_dnewK (pa_cons pe_int (pa_cons pe_int pa_nil))))))) (pg_tup (by rfl) (pgs_cons (pg_name (i := 4) sc__law_walked.nd rfl (Or.inl rfl)) (pgs_cons (pg_name (i := 5) sc__law_walked.nd rfl (Or.inl rfl)) (pgs_cons (pg_name (i := 6) sc__law_walked.nd rfl (Or.inl rfl)) (pgs_cons (pg_name (i := 7) sc__law_walked.nd rfl (Or.inl rfl)) (pgs_cons (pg_name (i := 8) sc__law_walked.nd rfl (Or.inl rfl)) (pgs_cons (pg_name (i := 9) sc__law_walked.nd rfl (Or.inl rfl)) pgs_nil)))))))) (pss_cons (ps_if (PW.pt (pw_or (pt_not (pt_val (pe_callB call_isiT (by rfl) T.b_isinstance (by decide +kernel) (pa_cons (pv 2) (pa_cons (pe_tup (pa_cons (pe_bltn (v := .ty "list") (by rfl) T.b_list (by decide +kernel) rfl) (pa_cons (pe_bltn (v := .ty "tuple") (by rfl) T.b_tuple (by decide +kernel) rfl) pa_nil))) pa_nil))))) (pw_or1 (pt_cmpR op_gt (pe_callB call_len_seq (by rfl) T.b_len (by decide +kernel) (pa_cons (pv 2) pa_nil)) pe_int (nomark _))))) (pss_one (ps_ret (pe_tup (pa_cons pe_bl (pa_cons pe_int (pa_cons pe_int pa_nil)))))) pss_nil) (pss_cons (ps_for PassesOwn.never rfl (pi_tup (pv 2)) (pg_name (i := 10) sc__law_walked.nd rfl (Or.inl rfl)) hb) (pss_one (ps_ret (pe_tup (pa_cons (pe_cmpR op_eq (pv 6) pe_int (nomark _)) (pa_cons (pv 8) (pa_cons (pv 9) pa_nil))))))))), ?_⟩
    refine hstart fun pk H2 g2 d2 hpi hp0 => ?_
    refine q_when g2 (b := !(false || true) || decide ((4000 : Int) < cs.length)) (et_or (et_not (et_test (J := I) (ed_isiT (kit_list _) (kit_tuple _) (ed_var rfl k3) g2.o) g2.o)) fun _ => Et.is (et_test (J := I) (ad_gt (ed_lenT (J := I) (ed_var rfl k3) g2.o) ed_int g2.o) g2.o) (by rw [List.length_map])) (fun hc H3 g3 e3 => hbad rfl g3 ?_) fun hc H3 g3 e3 => ?_
    · have hc : (4000 : Int) < cs.length := by simpa using hc
      show (if _ then _ else _) = _
      rw [if_pos hc]
    · have hc : ¬ (4000 : Int) < cs.length := by simpa using hc
      have hlw : lWalk ks c (.tp cs) u = lRes (lGo ks c u (l0 ks) cs) := by
        show (if _ then _ else _) = _
        rw [if_neg hc]
      refine q_forT (I := I) (ds := cs.map cmD) (ed_var rfl k3) g3.o (fun I2 i σ' H' => ∃ s x10 x11 x12 x13, σ' = lwSt v1 v3 c u pk ks.length s x10 x11 x12 x13 ∧ Go I H I2 H' ∧ DI H' pk s.kept i ∧ I2 pk = none ∧ 0 ≤ s.left ∧ s.left ≤ ks.length ∧ lWalk ks c (.tp cs) u = lRes (lGo ks c u s (cs.drop i))) ?_ ?_ ?_ ?_
      · rintro I2 i σ' H' ⟨s, x10, x11, x12, x13, _, g, _⟩
        exact g.o
      · intro I2 H4 g4
        have d3 := d2.ex e3
        obtain ⟨kvs, q1, _⟩ := id d3
        exact ⟨l0 ks, none, none, none, none, rfl, g3.trans g4, d3.ex g4.h, g4.n.none q1 hpi, Int.natCast_nonneg _, Int.le_refl _, hlw⟩
      · rintro I2 i d x σ' H' e2 hd kx ⟨s, x10, x11, x12, x13, rfl, g, hdi, hpi2, hl1, hl2, hw⟩
        obtain ⟨cm, hcm, rfl⟩ := map_get hd
        have hil := (List.getElem?_eq_some_iff.mp hcm).1
        have hdr := List.drop_eq_getElem_cons hil
        rw [(List.getElem?_eq_some_iff.mp hcm).2] at hdr
        rw [hdr, lGo_cons] at hw
        refine hgood kx (hz2 cm (List.mem_of_getElem? hcm)) (k1.mono e2) g hdi hpi2 hp0 (by omega) hl1 hl2 (fun hn H4 I4 g4 e4 v kv => ?_) fun s2 hs2 H4 y11 y12 y13 g4 d4 => ?_
        · rw [hn] at hw
          rw [hw] at q
          exact q v I4 H4 g4.i g4.h g4.o g4.n kv
        · rw [hs2] at hw
          obtain ⟨r1, r2⟩ := lStep_left hs2 hl1 hl2
          have := (show ∃ s x10 x11 x12 x13, lwSt v1 v3 c u pk ks.length s2 (some x) y11 y12 y13 = lwSt v1 v3 c u pk ks.length s x10 x11 x12 x13 ∧ Go I H I2 H4 ∧ DI H4 pk s.kept (i + 1) ∧ I2 pk = none ∧ 0 ≤ s.left ∧ s.left ≤ ks.length ∧ lWalk ks c (.tp cs) u = lRes (lGo ks c u s (cs.drop (i + 1))) from ⟨s2, _, _, _, _, rfl, g4, d4, hpi2, r1, r2, hw⟩)
          exact ⟨this, this⟩
      · rintro I2 σ' H' e2 ⟨s, x10, x11, x12, x13, rfl, g, hdi, hpi2, hl1, hl2, hw⟩
        rw [List.length_map, List.drop_length] at hw
        exact hend rfl g hw
end
end K84
namespace KD
open PySem PySem.Spec PyProof.Rows L2
section
variable {K : PySem.W.Frag} {σ : L2.St} {H I J : Hp} {ta tb te : TE} {d : PyData}
theorem ed_neB {i j : Bool} (ha : Ed ta σ H J (.bool i)) (hb : Ed tb σ H J (.bool j)) (ej : Ex J H) (ei : Ex I H) : Ed (tOp rNe ta tb) σ H I (.bool (!decide (i = j))) :=
  ed_sc (.bl _) ha hb ej ei fun _ _ _ H2 _ _ k1 k2 Q q => by
    cases k1
    cases k2
    refine ⟨rfl, ?_⟩
    rw [show decide (V.bl i = V.bl j) = decide (i = j) by simp]
    exact q H2 (Ex.refl _)
theorem ed_isB {i j : Bool} (ha : Ed ta σ H J (.bool i)) (hb : Ed tb σ H J (.bool j)) (ej : Ex J H) (ei : Ex I H) : Ed (tOp rIsB ta tb) σ H I (.bool (decide (i = j))) :=
  ed_sc (.bl _) ha hb ej ei fun _ _ _ H2 _ _ k1 k2 Q q => by
    cases k1
    cases k2
    exact ⟨i, j, rfl, rfl, q H2 (Ex.refl _)⟩
/-- is None, where it is not -/
theorem ed_isNo (hd : d ≠ .none) (ha : Ed ta σ H J d) (ej : Ex J H) (ei : Ex I H) : Ed (tOp (fun x y H Q => y = .non ∧ Q (.bl (decide (x = .non))) H) ta (tC .non)) σ H I (.bool false) :=
  ed_sc (.bl _) ha ed_non ej ei fun v1 v2 I2 H2 _ _ k1 k2 Q q => by
    cases k2
    have : v1 ≠ .non := by
      intro z
      subst z
      cases k1
      exact hd rfl
    refine ⟨rfl, ?_⟩
    rw [decide_eq_false this]
    exact q H2 (Ex.refl _)
def rLenS2 : List V → Hp → VK → Prop := fun xs H Q => ∃ z, xs = [.str z] ∧ z.length ≤ sizeLine ∧ Q (.int z.length) H
theorem ed_lenS {s : Str} (hs : s.length ≤ 1000) (h : Ed ta σ H J (.str s)) (ej : Ex J H) : Ed (tCB rLenS2 (tCons ta tNil)) σ H I (.int s.length) := fun H1 e k Q q =>
  h.str ej H1 e _ fun H2 a2 => ⟨s, rfl, sz_of (by omega), q _ I H2 (Ex.refl _) a2 (k.trans a2) (New.refl _ _) (.int _)⟩
theorem ed_slS {s : Str} {tl th : TO} {lo hi : Option Int} (hs : s.length ≤ 1000) (h : Ed te σ H J (.str s)) (ej : Ex J H) (h1 : Eo tl σ H lo) (h2 : Eo th σ H hi) : Ed (tSl rSlS te tl th) σ H I (.str (L2.cutS s lo hi)) := fun H1 e b Q q =>
  h.str ej H1 e _ fun H2 a2 => h1 H2 (e.trans a2) _ fun H3 e3 => h2 H3 ((e.trans a2).trans e3) _ fun H4 e4 => ⟨s, rfl, sz_of (by omega), q _ I H4 (Ex.refl _) ((a2.trans e3).trans e4) (b.trans ((a2.trans e3).trans e4)) (New.refl _ _) (.str _)⟩
theorem ed_ixS {s : Str} {i : Int} {c : Nat} (hs : s.length ≤ 1000) (ha : Ed ta σ H J (.str s)) (hb : Ed tb σ H J (.int i)) (ej : Ex J H) (ei : Ex I H) (hc : atI s.cps.toList i = some c) : Ed (tOp rIxS ta tb) σ H I (.str ⟨#[c]⟩) :=
  ed_sc (.str _) ha hb ej ei fun v1 v2 I2 H2 _ _ k1 k2 Q q => by
    cases k1
    cases k2
    exact ⟨s, i, c, rfl, rfl, sz_of (by omega), hc, q H2 (Ex.refl _)⟩
end
def strOne (w : Str) : Bool := decide (w.length ≤ 1000) && (List.range w.length).all fun k => match atI w.cps.toList (k : Int) with
  | some c => decide (L2.cutS w (some (k : Int)) (some ((k : Int) + 1)) = ⟨#[c]⟩)
  | none => false
/-- what is compared: whole numbers, truths, words, rows of them -/
def Smp : Nat → PyData → Prop
  | 0, .int _ => True
  | 0, .bool _ => True
  | 0, .str w => strOne w = true
  | 0, _ => False
  | _ + 1, .int _ => True
  | _ + 1, .bool _ => True
  | _ + 1, .str w => strOne w = true
  | k + 1, .list ds => ds.length ≤ 90000 ∧ ∀ d ∈ ds, Smp k d
  | k + 1, .tuple ds => ds.length ≤ 90000 ∧ ∀ d ∈ ds, Smp k d
  | _ + 1, _ => False
end KD
namespace K84
open PySem PySem.Spec PyProof.Rows L2 KD
local macro_rules
  | `(tactic| walk_at "ed") => `(tactic| first
    | with_reducible assumption
    | with_reducible exact Ex.refl _
    | (with_reducible apply Go.o; with_reducible assumption)
    | with_reducible exact ed_int
    | with_reducible exact ed_bl
    | with_reducible exact ed_str
    | with_reducible exact ed_non
    | ((with_reducible apply ed_var) <;> (first | (exact rfl) | exact Is.int _ | exact Is.bl _ | exact Is.str _ | exact Is.non | with_reducible assumption))
    | ((with_reducible apply ad_add) <;> walk_at "ed")
    | ((with_reducible apply ad_sub) <;> walk_at "ed")
    | ((with_reducible apply ad_lt) <;> walk_at "ed")
    | ((with_reducible apply ad_le) <;> walk_at "ed")
    | ((with_reducible apply ad_gt) <;> walk_at "ed")
    | ((with_reducible apply ad_ge) <;> walk_at "ed")
    | ((with_reducible apply ad_eqI) <;> walk_at "ed")
    | ((with_reducible apply ad_neI) <;> walk_at "ed")
    | ((with_reducible apply ad_eqS) <;> walk_at "ed")
    | ((with_reducible apply ad_neS) <;> walk_at "ed")
    | ((with_reducible apply ad_notV) <;> walk_at "ed")
    | ((with_reducible apply ad_neg) <;> walk_at "ed")
    | ((with_reducible apply ad_lenL) <;> walk_at "ed")
    | ((with_reducible refine ad_tup ?_ ?_) <;> (first | walk_at "ed" | (simp only [List.length_cons, List.length_nil]; decide)))
    | ((with_reducible refine ad_lst ?_ ?_) <;> (first | walk_at "ed" | (simp only [List.length_cons, List.length_nil]; decide)))
    | ((with_reducible apply ea_cons) <;> walk_at "ed")
    | with_reducible exact ea_nil)

section
variable {P : Program} {w : World} {K : PySem.W.Frag} {mg : Str → Option Value} {base : Heap} {C : Addr}
abbrev N__law_same : List Str := ["told", "due", "k", "key"]
theorem sc__law_same : FnScope N__law_same ["told", "due"] (defScope s__law_same) := ⟨rfl, rfl, rfl, by decide +kernel, rfl, by decide +kernel, by decide +kernel⟩
abbrev sp__law_same (k : Nat) : Sp := spOf (fun d : PyData => [d, d]) (Smp k) fun _ => .bool true
abbrev CLS (P : Program) (w : World) (K : PySem.W.Frag) (mg : Str → Option Value) (base : Heap) (k : Nat) : Prop := Cal P w K mg base (k + 1) "_law_same" ["told", "due"] s__law_same (sp__law_same k)
theorem smp_leaf {k : Nat} {d : PyData} (h : Smp k d) (hl : isSeq d = false) : (∃ n, d = .int n) ∨ (∃ b, d = .bool b) ∨ ∃ w, d = .str w ∧ strOne w = true := by
  cases d with
  | int n => exact .inl ⟨n, rfl⟩
  | bool b => exact .inr (.inl ⟨b, rfl⟩)
  | str w => cases k <;> exact .inr (.inr ⟨w, rfl, h⟩)
  | none => cases k <;> exact absurd h (by simp [Smp])
  | dict m => cases k <;> exact absurd h (by simp [Smp])
  | list ds => cases hl
  | tuple ds => cases hl
/-- the leaves -/
theorem same_leaf (T : Txt K mg C) {d : PyData} (hd : (∃ n, d = .int n) ∨ (∃ b, d = .bool b) ∨ ∃ w, d = .str w ∧ strOne w = true) {f : Addr} {cdv : Value} {A : Around} {outer : List Env} {s : Shared} {H I : Hp} {v1 v2 : V} {Q : VK} {E : XK}
    (hu : (A.deeper (envOfC "_law_same" (defScope s__law_same) s.heap.objs.size f cdv)).units + 64 < cLine) (e : Ex I H) (k1 : Is I v1 d) (k2 : Is I v2 d) (q : Ret I H (.bool true) Q) :
    ∃ t, PSs (cxOf CX0 P w K mg base N__law_same "_law_same" (defScope s__law_same) f cdv A outer s H E).nox (defBody s__law_same) t ∧ t { nx := fun _ H' => Q .non H', rt := Q } (start N__law_same [v1, v2]) H := by
  have hx : ∀ {H1 : Hp}, d ≠ .none → Ex I H1 → Et (tTest (tOp (fun x y H Q => y = .non ∧ Q (.bl (decide (x = .non))) H) (tVar 1) (tC .non))) (start N__law_same [v1, v2]) H1 false := fun hn e => et_test (J := I) (ed_isNo hn (ed_var rfl k2) e e) e
  have hi : ∀ {H1 : Hp} {S : String} {b : Bool}, Ex I H1 → kitB (tyN d) S = some b → Et (tTest (tCB (rIsi K) (tCons (tVar 1) (tCons (tC (.ty S)) tNil)))) (start N__law_same [v1, v2]) H1 b := fun e hk => et_test (J := I) (ed_isi hk (ed_var rfl k2) e) e
  rcases hd with ⟨n, rfl⟩ | ⟨b, rfl⟩ | ⟨wd, rfl, hw⟩
  · refine ⟨_, (pss_cons (ps_if (pt_cmpR op_isN (pv 1) pe_non (nomark _)) (pss_one (ps_ret (pe_cmpR op_isN (pv 0) pe_non (nomark _)))) pss_nil) (pss_cons (ps_if (pt_val (pe_callB call_isi (by rfl) T.b_isinstance (by decide +kernel) (pa_cons (pv 1) (pa_cons (pe_bltn (v := .ty "bool") (by rfl) T.b_bool (by decide +kernel) rfl) pa_nil)))) (pss_one (ps_ret (pe_and (pe_callB call_isi (by rfl) T.b_isinstance (by decide +kernel) (pa_cons (pv 0) (pa_cons (pe_bltn (v := .ty "bool") (by rfl) T.b_bool (by decide +kernel) rfl) pa_nil))) (pe_one (pe_cmpR op_eq (pe_cmpR op_isBl (pv 0) pe_bl (nomark _)) (pe_cmpR op_isBl (pv 1) pe_bl (nomark _)) (nomark _)))))) pss_nil) (pss_cons (ps_if (pt_val (pe_callB call_isi (by rfl) T.b_isinstance (by decide +kernel) (pa_cons (pv 1) (pa_cons (pe_bltn (v := .ty "int") (by rfl) T.b_int (by decide +kernel) rfl) pa_nil)))) (pss_one (ps_ret (pe_and (pe_callB call_isi (by rfl) T.b_isinstance (by decide +kernel) (pa_cons (pv 0) (pa_cons (pe_bltn (v := .ty "int") (by rfl) T.b_int (by decide +kernel) rfl) pa_nil))) (pe_and (pe_not (pe_callB call_isi (by rfl) T.b_isinstance (by decide +kernel) (pa_cons (pv 0) (pa_cons (pe_bltn (v := .ty "bool") (by rfl) T.b_bool (by decide +kernel) rfl) pa_nil)))) (pe_one (pe_cmpR op_eq (pe_op op_sub (pe_callTy call_int1 (by rfl) T.b_int (by decide +kernel) (pa_cons (pv 0) pa_nil)) (pv 1)) pe_int (nomark _))))))) pss_nil) (pss_cons (ps_if (pt_val (pe_callB call_isi (by rfl) T.b_isinstance (by decide +kernel) (pa_cons (pv 1) (pa_cons (pe_bltn (v := .ty "str") (by rfl) T.b_str (by decide +kernel) rfl) pa_nil)))) pss_never pss_nil) (pss_cons (ps_if (pt_val (pe_callB call_isi (by rfl) T.b_isinstance (by decide +kernel) (pa_cons (pv 1) (pa_cons (pe_bltn (v := .ty "dict") (by rfl) T.b_dict (by decide +kernel) rfl) pa_nil)))) pss_never pss_nil) (pss_cons (ps_if (PW.pt (pw_or (pt_not (pt_val (pe_callB call_isiT (by rfl) T.b_isinstance (by decide +kernel) (pa_cons (pv 1) (pa_cons (pe_tup (pa_cons (pe_bltn (v := .ty "list") (by rfl) T.b_list (by decide +kernel) rfl) (pa_cons (pe_bltn (v := .ty "tuple") (by rfl) T.b_tuple (by decide +kernel) rfl) pa_nil))) pa_nil))))) (pw_or1 (pt_not (pt_val (pe_callB call_isiT (by rfl) T.b_isinstance (by decide +kernel) (pa_cons (pv 0) (pa_cons (pe_tup (pa_cons (pe_bltn (v := .ty "list") (by rfl) T.b_list (by decide +kernel) rfl) (pa_cons (pe_bltn (v := .ty "tuple") (by rfl) T.b_tuple (by decide +kernel) rfl) pa_nil))) pa_nil)))))))) (pss_one (ps_ret pe_bl)) pss_nil) (pss_cons (ps_if (PW.pt (pw_or (pt_cmpR op_ne (pe_callB call_isi (by rfl) T.b_isinstance (by decide +kernel) (pa_cons (pv 0) (pa_cons (pe_bltn (v := .ty "list") (by rfl) T.b_list (by decide +kernel) rfl) pa_nil))) (pe_callB call_isi (by rfl) T.b_isinstance (by decide +kernel) (pa_cons (pv 1) (pa_cons (pe_bltn (v := .ty "list") (by rfl) T.b_list (by decide +kernel) rfl) pa_nil))) (nomark _)) (pw_or1 (pt_cmpR op_ne (pe_callB call_len_seq (by rfl) T.b_len (by decide +kernel) (pa_cons (pv 0) pa_nil)) (pe_callB call_len_seq (by rfl) T.b_len (by decide +kernel) (pa_cons (pv 1) pa_nil)) (nomark _))))) (pss_one (ps_ret pe_bl)) pss_nil) (pss_one ps_never)))))))), ?_⟩
    refine q_when (Go.refl e) (hx (by simp) e) (fun z => by cases z) fun _ H1 g1 e1 => ?_
    refine q_when g1 (hi g1.o (kit_bool (.int n))) (fun z => by cases z) fun _ H2 g2 e2 => ?_
    refine q_when g2 (hi g2.o (kit_int (.int n))) (fun _ H3 g3 e3 => ?_) (fun z => by cases z)
    exact g_ret q g3 (Ed.is (ad_andV (a := true) (ed_isi (kit_int (.int n)) (ed_var rfl k1) g3.o) (fun _ => ad_andV (a := true) (ad_notV (a := false) (ed_isi (kit_bool (.int n)) (ed_var rfl k1) g3.o) g3.o) (fun _ => ad_eqI (ad_sub (ed_intI (J := I) (ed_var rfl k1) g3.o) (ed_var rfl k2) g3.o) ed_int g3.o) g3.o) g3.o) (by simp))
  · refine ⟨_, (pss_cons (ps_if (pt_cmpR op_isN (pv 1) pe_non (nomark _)) (pss_one (ps_ret (pe_cmpR op_isN (pv 0) pe_non (nomark _)))) pss_nil) (pss_cons (ps_if (pt_val (pe_callB call_isi (by rfl) T.b_isinstance (by decide +kernel) (pa_cons (pv 1) (pa_cons (pe_bltn (v := .ty "bool") (by rfl) T.b_bool (by decide +kernel) rfl) pa_nil)))) (pss_one (ps_ret (pe_and (pe_callB call_isi (by rfl) T.b_isinstance (by decide +kernel) (pa_cons (pv 0) (pa_cons (pe_bltn (v := .ty "bool") (by rfl) T.b_bool (by decide +kernel) rfl) pa_nil))) (pe_one (pe_cmpR op_eq (pe_cmpR op_isBl (pv 0) pe_bl (nomark _)) (pe_cmpR op_isBl (pv 1) pe_bl (nomark _)) (nomark _)))))) pss_nil) (pss_cons (ps_if (pt_val (pe_callB call_isi (by rfl) T.b_isinstance (by decide +kernel) (pa_cons (pv 1) (pa_cons (pe_bltn (v := .ty "int") (by rfl) T.b_int (by decide +kernel) rfl) pa_nil)))) (pss_one (ps_ret (pe_and (pe_callB call_isi (by rfl) T.b_isinstance (by decide +kernel) (pa_cons (pv 0) (pa_cons (pe_bltn (v := .ty "int") (by rfl) T.b_int (by decide +kernel) rfl) pa_nil))) (pe_and (pe_not (pe_callB call_isi (by rfl) T.b_isinstance (by decide +kernel) (pa_cons (pv 0) (pa_cons (pe_bltn (v := .ty "bool") (by rfl) T.b_bool (by decide +kernel) rfl) pa_nil)))) (pe_one (pe_cmpR op_eq (pe_op op_sub (pe_callTy call_int1 (by rfl) T.b_int (by decide +kernel) (pa_cons (pv 0) pa_nil)) (pv 1)) pe_int (nomark _))))))) pss_nil) (pss_cons (ps_if (pt_val (pe_callB call_isi (by rfl) T.b_isinstance (by decide +kernel) (pa_cons (pv 1) (pa_cons (pe_bltn (v := .ty "str") (by rfl) T.b_str (by decide +kernel) rfl) pa_nil)))) pss_never pss_nil) (pss_cons (ps_if (pt_val (pe_callB call_isi (by rfl) T.b_isinstance (by decide +kernel) (pa_cons (pv 1) (pa_cons (pe_bltn (v := .ty "dict") (by rfl) T.b_dict (by decide +kernel) rfl) pa_nil)))) pss_never pss_nil) (pss_cons (ps_if (PW.pt (pw_or (pt_not (pt_val (pe_callB call_isiT (by rfl) T.b_isinstance (by decide +kernel) (pa_cons (pv 1) (pa_cons (pe_tup (pa_cons (pe_bltn (v := .ty "list") (by rfl) T.b_list (by decide +kernel) rfl) (pa_cons (pe_bltn (v := .ty "tuple") (by rfl) T.b_tuple (by decide +kernel) rfl) pa_nil))) pa_nil))))) (pw_or1 (pt_not (pt_val (pe_callB call_isiT (by rfl) T.b_isinstance (by decide +kernel) (pa_cons (pv 0) (pa_cons (pe_tup (pa_cons (pe_bltn (v := .ty "list") (by rfl) T.b_list (by decide +kernel) rfl) (pa_cons (pe_bltn (v := .ty "tuple") (by rfl) T.b_tuple (by decide +kernel) rfl) pa_nil))) pa_nil)))))))) (pss_one (ps_ret pe_bl)) pss_nil) (pss_cons (ps_if (PW.pt (pw_or (pt_cmpR op_ne (pe_callB call_isi (by rfl) T.b_isinstance (by decide +kernel) (pa_cons (pv 0) (pa_cons (pe_bltn (v := .ty "list") (by rfl) T.b_list (by decide +kernel) rfl) pa_nil))) (pe_callB call_isi (by rfl) T.b_isinstance (by decide +kernel) (pa_cons (pv 1) (pa_cons (pe_bltn (v := .ty "list") (by rfl) T.b_list (by decide +kernel) rfl) pa_nil))) (nomark _)) (pw_or1 (pt_cmpR op_ne (pe_callB call_len_seq (by rfl) T.b_len (by decide +kernel) (pa_cons (pv 0) pa_nil)) (pe_callB call_len_seq (by rfl) T.b_len (by decide +kernel) (pa_cons (pv 1) pa_nil)) (nomark _))))) (pss_one (ps_ret pe_bl)) pss_nil) (pss_one ps_never)))))))), ?_⟩
    refine q_when (Go.refl e) (hx (by simp) e) (fun z => by cases z) fun _ H1 g1 e1 => ?_
    refine q_when g1 (hi g1.o (kit_bool (.bool b))) (fun _ H3 g3 e3 => ?_) (fun z => by cases z)
    exact g_ret q g3 (Ed.is (ad_andV (a := true) (ed_isi (kit_bool (.bool b)) (ed_var rfl k1) g3.o) (fun _ => ed_eqB (ed_isB (J := I) (I := I) (ed_var rfl k1) ed_bl g3.o g3.o) (ed_isB (J := I) (I := I) (ed_var rfl k2) ed_bl g3.o g3.o) g3.o g3.o) g3.o) (by simp))
  · refine ⟨_, (pss_cons (ps_if (pt_cmpR op_isN (pv 1) pe_non (nomark _)) (pss_one (ps_ret (pe_cmpR op_isN (pv 0) pe_non (nomark _)))) pss_nil) (pss_cons (ps_if (pt_val (pe_callB call_isi (by rfl) T.b_isinstance (by decide +kernel) (pa_cons (pv 1) (pa_cons (pe_bltn (v := .ty "bool") (by rfl) T.b_bool (by decide +kernel) rfl) pa_nil)))) (pss_one (ps_ret (pe_and (pe_callB call_isi (by rfl) T.b_isinstance (by decide +kernel) (pa_cons (pv 0) (pa_cons (pe_bltn (v := .ty "bool") (by rfl) T.b_bool (by decide +kernel) rfl) pa_nil))) (pe_one (pe_cmpR op_eq (pe_cmpR op_isBl (pv 0) pe_bl (nomark _)) (pe_cmpR op_isBl (pv 1) pe_bl (nomark _)) (nomark _)))))) pss_nil) (pss_cons (ps_if (pt_val (pe_callB call_isi (by rfl) T.b_isinstance (by decide +kernel) (pa_cons (pv 1) (pa_cons (pe_bltn (v := .ty "int") (by rfl) T.b_int (by decide +kernel) rfl) pa_nil)))) (pss_one (ps_ret (pe_and (pe_callB call_isi (by rfl) T.b_isinstance (by decide +kernel) (pa_cons (pv 0) (pa_cons (pe_bltn (v := .ty "int") (by rfl) T.b_int (by decide +kernel) rfl) pa_nil))) (pe_and (pe_not (pe_callB call_isi (by rfl) T.b_isinstance (by decide +kernel) (pa_cons (pv 0) (pa_cons (pe_bltn (v := .ty "bool") (by rfl) T.b_bool (by decide +kernel) rfl) pa_nil)))) (pe_one (pe_cmpR op_eq (pe_op op_sub (pe_callTy call_int1 (by rfl) T.b_int (by decide +kernel) (pa_cons (pv 0) pa_nil)) (pv 1)) pe_int (nomark _))))))) pss_nil) (pss_cons (ps_if (pt_val (pe_callB call_isi (by rfl) T.b_isinstance (by decide +kernel) (pa_cons (pv 1) (pa_cons (pe_bltn (v := .ty "str") (by rfl) T.b_str (by decide +kernel) rfl) pa_nil)))) (pss_one (ps_ret (pe_and (pe_callB call_isi (by rfl) T.b_isinstance (by decide +kernel) (pa_cons (pv 0) (pa_cons (pe_bltn (v := .ty "str") (by rfl) T.b_str (by decide +kernel) rfl) pa_nil))) (pe_and (pe_cmpR op_eq (pe_callB call_len_str (by rfl) T.b_len (by decide +kernel) (pa_cons (pv 0) pa_nil)) (pe_callB call_len_str (by rfl) T.b_len (by decide +kernel) (pa_cons (pv 1) pa_nil)) (nomark _)) (pe_one (pe_cmpR (op_eqD hu) (pe_lc (own := [("k", 2)]) (by rfl) sc__law_same.nd (pi_range1 (by rfl) T.b_range (pa_cons (pe_callB call_len_str (by rfl) T.b_len (by decide +kernel) (pa_cons (pv 1) pa_nil)) pa_nil)) (blkOk_by (N := N__law_same) (own := [("k", 2)]) (sc := defScope s__law_same) (by decide +kernel)) (fun _ _ _ _ _ => (pg_name (i := 2) sc__law_same.nd rfl (Or.inl rfl))) (fun _ _ _ _ _ => (pts_one (pt_cmpR op_ne (pe_slice sl_str (pv 0) (po_some (pv 2)) (po_some (pe_op op_add (pv 2) pe_int))) (pe_ix ix_str (pv 1) (pv 2) (fun _ _ => rfl)) (nomark _)))) (fun _ _ _ _ _ => (pv 2))) (pe_lst pa_nil) (nomark _))))))) pss_nil) (pss_cons (ps_if (pt_val (pe_callB call_isi (by rfl) T.b_isinstance (by decide +kernel) (pa_cons (pv 1) (pa_cons (pe_bltn (v := .ty "dict") (by rfl) T.b_dict (by decide +kernel) rfl) pa_nil)))) pss_never pss_nil) (pss_cons (ps_if (PW.pt (pw_or (pt_not (pt_val (pe_callB call_isiT (by rfl) T.b_isinstance (by decide +kernel) (pa_cons (pv 1) (pa_cons (pe_tup (pa_cons (pe_bltn (v := .ty "list") (by rfl) T.b_list (by decide +kernel) rfl) (pa_cons (pe_bltn (v := .ty "tuple") (by rfl) T.b_tuple (by decide +kernel) rfl) pa_nil))) pa_nil))))) (pw_or1 (pt_not (pt_val (pe_callB call_isiT (by rfl) T.b_isinstance (by decide +kernel) (pa_cons (pv 0) (pa_cons (pe_tup (pa_cons (pe_bltn (v := .ty "list") (by rfl) T.b_list (by decide +kernel) rfl) (pa_cons (pe_bltn (v := .ty "tuple") (by rfl) T.b_tuple (by decide +kernel) rfl) pa_nil))) pa_nil)))))))) (pss_one (ps_ret pe_bl)) pss_nil) (pss_cons (ps_if (PW.pt (pw_or (pt_cmpR op_ne (pe_callB call_isi (by rfl) T.b_isinstance (by decide +kernel) (pa_cons (pv 0) (pa_cons (pe_bltn (v := .ty "list") (by rfl) T.b_list (by decide +kernel) rfl) pa_nil))) (pe_callB call_isi (by rfl) T.b_isinstance (by decide +kernel) (pa_cons (pv 1) (pa_cons (pe_bltn (v := .ty "list") (by rfl) T.b_list (by decide +kernel) rfl) pa_nil))) (nomark _)) (pw_or1 (pt_cmpR op_ne (pe_callB call_len_str (by rfl) T.b_len (by decide +kernel) (pa_cons (pv 0) pa_nil)) (pe_callB call_len_str (by rfl) T.b_len (by decide +kernel) (pa_cons (pv 1) pa_nil)) (nomark _))))) (pss_one (ps_ret pe_bl)) pss_nil) (pss_one ps_never)))))))), ?_⟩
    refine q_when (Go.refl e) (hx (by simp) e) (fun z => by cases z) fun _ H1 g1 e1 => ?_
    refine q_when g1 (hi g1.o (kit_bool (.str wd))) (fun z => by cases z) fun _ H2 g2 e2 => ?_
    refine q_when g2 (hi g2.o (kit_int (.str wd))) (fun z => by cases z) fun _ H3 g3 e3 => ?_
    unfold strOne at hw
    rw [Bool.and_eq_true, decide_eq_true_eq, List.all_eq_true] at hw
    obtain ⟨hw1, hw2⟩ := hw
    refine q_when g3 (hi g3.o (kit_str (.str wd))) (fun _ H4 g4 e4 => ?_) (fun z => by cases z)
    have hlc : Ed (tLc (iRng1 (tCons (tCB rLenS2 (tCons (tVar 1) tNil)) tNil)) (gName 2) (tTest (tOp rNe (tSl rSlS (tVar 0) (tPart (tVar 2)) (tPart (tOp (rI0 fun i j => V.int (i + j)) (tVar 2) (tC (.int 1))))) (tOp rIxS (tVar 1) (tVar 2)))) (tVar 2) [2]) (start N__law_same [v1, v2]) H4 I (.list []) := by
      refine Ed.is (ed_lcFR (J := I) (n := wd.length) (fun _ => none) (ea_cons (ed_lenS hw1 (ed_var rfl k2) g4.o) ea_nil) g4.o (by omega) (fun _ => rfl) fun i I' H' hi2 a1 a2 a3 => ?_) (by simp)
      have hk := hw2 i (List.mem_range.mpr (by omega))
      split at hk
      case h_2 => cases hk
      rename_i c hc
      rw [decide_eq_true_eq] at hk
      refine Et.is (et_test (J := I') (ad_neS (ed_slS hw1 (ed_var rfl (k1.mono a1)) a2 (eo_some (J := I') (ed_var rfl (.int _)) a2) (eo_some (J := I') (ad_add (ed_var rfl (.int _)) ed_int a2) a2)) (ed_ixS hw1 (ed_var rfl (k2.mono a1)) (ed_var rfl (.int _)) a2 a2 hc) a2) a2) ?_
      rw [hk]
      simp
    exact g_ret q g4 (Ed.is (ad_andV (a := true) (ed_isi (kit_str (.str wd)) (ed_var rfl k1) g4.o) (fun _ => ad_andV (ad_eqI (ed_lenS hw1 (ed_var rfl k1) g4.o) (ed_lenS hw1 (ed_var rfl k2) g4.o) g4.o) (fun _ => ed_eqD (I := I) (J := I) (d1 := .list []) (d2 := .list []) (by decide) (by decide) (by decide +kernel) (by decide +kernel) hlc (ad_lst (ds := []) ea_nil (by show 0 ≤ 100000; decide)) g4.o g4.o) g4.o) g4.o) (by simp [PyData.eqv, PyData.eqvAll]))
theorem ok__law_same0 (T : Txt K mg C) (F : Fn K mg "_law_same" s__law_same) : CLS P w K mg base 0 := by
  refine cal_mk F sc__law_same (fun _ _ _ _ _ _ us hl => match us, hl with | [_, _], _ => rfl) (fun vs H Q E h => spOf_len (n := 2) (fun _ => rfl) h) (fun f cdv A outer s H vs Q E hr h => ?_)
  obtain ⟨d, I, e, k, hs, q⟩ := spOf_out h
  obtain ⟨v1, v2, rfl, k1, k2⟩ := isAll2 k
  have hu : (A.deeper (envOfC "_law_same" (defScope s__law_same) s.heap.objs.size f cdv)).units + 64 < cLine := by
    have := hr.un
    omega
  refine same_leaf T (smp_leaf hs ?_) hu e k1 k2 q
  cases d <;> first | rfl | exact absurd hs (by simp [Smp])
theorem ok__law_same1 (kk : Nat) (T : Txt K mg C) (F : Fn K mg "_law_same" s__law_same) (c__law_same : CLS P w K mg base kk) : CLS P w K mg base (kk + 1) := by
  refine cal_mk F sc__law_same (fun _ _ _ _ _ _ us hl => match us, hl with | [_, _], _ => rfl) (fun vs H Q E h => spOf_len (n := 2) (fun _ => rfl) h) (fun f cdv A outer s H vs Q E hr h => ?_)
  obtain ⟨d, I, e, k, hs, q⟩ := spOf_out h
  obtain ⟨v1, v2, rfl, k1, k2⟩ := isAll2 k
  have hu : (A.deeper (envOfC "_law_same" (defScope s__law_same) s.heap.objs.size f cdv)).units + 64 < cLine := by
    have := hr.un
    omega
  cases hq : isSeq d with
  | false => exact same_leaf T (smp_leaf hs hq) hu e k1 k2 q
  | true =>
    have hx : ∀ {H1 : Hp}, d ≠ .none → Ex I H1 → Et (tTest (tOp (fun x y H Q => y = .non ∧ Q (.bl (decide (x = .non))) H) (tVar 1) (tC .non))) (start N__law_same [v1, v2]) H1 false := fun hn e => et_test (J := I) (ed_isNo hn (ed_var rfl k2) e e) e
    have hi : ∀ {H1 : Hp} {S : String} {b : Bool}, Ex I H1 → kitB (tyN d) S = some b → Et (tTest (tCB (rIsi K) (tCons (tVar 1) (tCons (tC (.ty S)) tNil)))) (start N__law_same [v1, v2]) H1 b := fun e hk => et_test (J := I) (ed_isi hk (ed_var rfl k2) e) e
    have hfin : ∀ {H1 : Hp} {te : TE} {D : Ends}, D.rt = Q → Go I H I H1 → Ed te (start N__law_same [v1, v2]) H1 I (.list []) → tRet (tOp (rEqD K) te (tLst tNil)) D (start N__law_same [v1, v2]) H1 := fun {H1 te D} hD g ht => g_ret (D := D) (d := .bool true) (by rw [hD]; exact q) g (Ed.is (ed_eqD (I := I) (J := I) (d1 := .list []) (d2 := .list []) (by decide) (by decide) (by decide +kernel) (by decide +kernel) ht (ad_lst (ds := []) ea_nil (by show 0 ≤ 100000; decide)) g.o g.o) (by simp [PyData.eqv, PyData.eqvAll]))
    cases d with
    | list ds =>
      obtain ⟨hs1, hs2⟩ : ds.length ≤ 90000 ∧ ∀ d ∈ ds, Smp kk d := hs
      refine ⟨_, (pss_cons (ps_if (pt_cmpR op_isN (pv 1) pe_non (nomark _)) (pss_one (ps_ret (pe_cmpR op_isN (pv 0) pe_non (nomark _)))) pss_nil) (pss_cons (ps_if (pt_val (pe_callB call_isi (by rfl) T.b_isinstance (by decide +kernel) (pa_cons (pv 1) (pa_cons (pe_bltn (v := .ty "bool") (by rfl) T.b_bool (by decide +kernel) rfl) pa_nil)))) (pss_one (ps_ret (pe_and (pe_callB call_isi (by rfl) T.b_isinstance (by decide +kernel) (pa_cons (pv 0) (pa_cons (pe_bltn (v := .ty "bool") (by rfl) T.b_bool (by decide +kernel) rfl) pa_nil))) (pe_one (pe_cmpR op_eq (pe_cmpR op_isBl (pv 0) pe_bl (nomark _)) (pe_cmpR op_isBl (pv 1) pe_bl (nomark _)) (nomark _)))))) pss_nil) (pss_cons (ps_if (pt_val (pe_callB call_isi (by rfl) T.b_isinstance (by decide +kernel) (pa_cons (pv 1) (pa_cons (pe_bltn (v := .ty "int") (by rfl) T.b_int (by decide +kernel) rfl) pa_nil)))) (pss_one (ps_ret (pe_and (pe_callB call_isi (by rfl) T.b_isinstance (by decide +kernel) (pa_cons (pv 0) (pa_cons (pe_bltn (v := .ty "int") (by rfl) T.b_int (by decide +kernel) rfl) pa_nil))) (pe_and (pe_not (pe_callB call_isi (by rfl) T.b_isinstance (by decide +kernel) (pa_cons (pv 0) (pa_cons (pe_bltn (v := .ty "bool") (by rfl) T.b_bool (by decide +kernel) rfl) pa_nil)))) (pe_one (pe_cmpR op_eq (pe_op op_sub (pe_callTy call_int1 (by rfl) T.b_int (by decide +kernel) (pa_cons (pv 0) pa_nil)) (pv 1)) pe_int (nomark _))))))) pss_nil) (pss_cons (ps_if (pt_val (pe_callB call_isi (by rfl) T.b_isinstance (by decide +kernel) (pa_cons (pv 1) (pa_cons (pe_bltn (v := .ty "str") (by rfl) T.b_str (by decide +kernel) rfl) pa_nil)))) pss_never pss_nil) (pss_cons (ps_if (pt_val (pe_callB call_isi (by rfl) T.b_isinstance (by decide +kernel) (pa_cons (pv 1) (pa_cons (pe_bltn (v := .ty "dict") (by rfl) T.b_dict (by decide +kernel) rfl) pa_nil)))) pss_never pss_nil) (pss_cons (ps_if (PW.pt (pw_or (pt_not (pt_val (pe_callB call_isiT (by rfl) T.b_isinstance (by decide +kernel) (pa_cons (pv 1) (pa_cons (pe_tup (pa_cons (pe_bltn (v := .ty "list") (by rfl) T.b_list (by decide +kernel) rfl) (pa_cons (pe_bltn (v := .ty "tuple") (by rfl) T.b_tuple (by decide +kernel) rfl) pa_nil))) pa_nil))))) (pw_or1 (pt_not (pt_val (pe_callB call_isiT (by rfl) T.b_isinstance (by decide +kernel) (pa_cons (pv 0) (pa_cons (pe_tup (pa_cons (pe_bltn (v := .ty "list") (by rfl) T.b_list (by decide +kernel) rfl) (pa_cons (pe_bltn (v := .ty "tuple") (by rfl) T.b_tuple (by decide +kernel) rfl) pa_nil))) pa_nil)))))))) (pss_one (ps_ret pe_bl)) pss_nil) (pss_cons (ps_if (PW.pt (pw_or (pt_cmpR op_ne (pe_callB call_isi (by rfl) T.b_isinstance (by decide +kernel) (pa_cons (pv 0) (pa_cons (pe_bltn (v := .ty "list") (by rfl) T.b_list (by decide +kernel) rfl) pa_nil))) (pe_callB call_isi (by rfl) T.b_isinstance (by decide +kernel) (pa_cons (pv 1) (pa_cons (pe_bltn (v := .ty "list") (by rfl) T.b_list (by decide +kernel) rfl) pa_nil))) (nomark _)) (pw_or1 (pt_cmpR op_ne (pe_callB call_len_seq (by rfl) T.b_len (by decide +kernel) (pa_cons (pv 0) pa_nil)) (pe_callB call_len_seq (by rfl) T.b_len (by decide +kernel) (pa_cons (pv 1) pa_nil)) (nomark _))))) (pss_one (ps_ret pe_bl)) pss_nil) (pss_one (ps_ret (pe_cmpR (op_eqD hu) (pe_lc (own := [("k", 2)]) (by rfl) sc__law_same.nd (pi_range1 (by rfl) T.b_range (pa_cons (pe_callB call_len_seq (by rfl) T.b_len (by decide +kernel) (pa_cons (pv 1) pa_nil)) pa_nil)) (blkOk_by (N := N__law_same) (own := [("k", 2)]) (sc := defScope s__law_same) (by decide +kernel)) (fun _ _ _ _ _ => (pg_name (i := 2) sc__law_same.nd rfl (Or.inl rfl))) (fun _ _ _ _ _ => (pts_one (pt_not (pt_val (pe_cal c__law_same hr (by first | decide | exact Nat.le_refl _) rfl (pa_cons (pe_ix (show IxR _ (rIxL K) from ix_list) (pv 0) (pv 2) (fun _ _ => rfl)) (pa_cons (pe_ix (show IxR _ (rIxL K) from ix_list) (pv 1) (pv 2) (fun _ _ => rfl)) pa_nil))))))) (fun _ _ _ _ _ => (pv 2))) (pe_lst pa_nil) (nomark _))))))))))), ?_⟩
      refine q_when (Go.refl e) (hx (by simp) e) (fun z => by cases z) fun _ H1 g1 e1 => ?_
      refine q_when g1 (hi g1.o (kit_bool (.list ds))) (fun z => by cases z) fun _ H2 g2 e2 => ?_
      refine q_when g2 (hi g2.o (kit_int (.list ds))) (fun z => by cases z) fun _ H3 g3 e3 => ?_
      refine q_when g3 (hi g3.o (kit_str (.list ds))) (fun z => by cases z) fun _ H4 g4 e4 => ?_
      refine q_when g4 (hi g4.o (kit_dict (.list ds))) (fun z => by cases z) fun _ H5 g5 e5 => ?_
      refine q_when g5 (b := !(true || false) || !(true || false)) (et_or (et_not (et_test (J := I) (ed_isiT (kit_list _) (kit_tuple _) (ed_var rfl k2) g5.o) g5.o)) fun _ => et_not (et_test (J := I) (ed_isiT (kit_list _) (kit_tuple _) (ed_var rfl k1) g5.o) g5.o)) (fun z => by cases z) fun _ H6 g6 e6 => ?_
      refine q_when g6 (b := false || false) (et_or (Et.is (et_test (J := I) (ed_neB (I := I) (J := I) (ed_isi (kit_list (.list ds)) (ed_var rfl k1) g6.o) (ed_isi (kit_list (.list ds)) (ed_var rfl k2) g6.o) g6.o g6.o) g6.o) (by simp)) fun _ => Et.is (et_test (J := I) (ad_neI (ed_lenL (J := I) (ed_var rfl k1) g6.o) (ed_lenL (J := I) (ed_var rfl k2) g6.o) g6.o) g6.o) (by simp)) (fun z => by cases z) fun _ H7 g7 e7 => ?_
      refine hfin rfl g7 (Ed.is (ed_lcFR (J := I) (n := ds.length) (fun _ => none) (ea_cons (ed_lenL (ed_var rfl k2) g7.o) ea_nil) g7.o (by omega) (fun _ => rfl) fun i I' H' hi2 a1 a2 a3 => ?_) (by simp))
      have hil : i < ds.length := by omega
      have hat : atI ds (i : Int) = some ds[i] := by
        rw [atI_nat (by omega) (by omega), Int.toNat_natCast, List.getElem?_eq_getElem hil]
      exact Et.is (et_not (et_test (J := I') (ed_callB (J := I') ds[i] (by rfl) (by exact hs2 _ (List.getElem_mem hil)) (ea_cons (ed_ixL (ed_var rfl (k1.mono a1)) (ed_var rfl (.int _)) a2 hat) (ea_cons (ed_ixL (ed_var rfl (k2.mono a1)) (ed_var rfl (.int _)) a2 hat) ea_nil)) a2) a2)) (by rfl)
    | tuple ds =>
      obtain ⟨hs1, hs2⟩ : ds.length ≤ 90000 ∧ ∀ d ∈ ds, Smp kk d := hs
      refine ⟨_, (pss_cons (ps_if (pt_cmpR op_isN (pv 1) pe_non (nomark _)) (pss_one (ps_ret (pe_cmpR op_isN (pv 0) pe_non (nomark _)))) pss_nil) (pss_cons (ps_if (pt_val (pe_callB call_isi (by rfl) T.b_isinstance (by decide +kernel) (pa_cons (pv 1) (pa_cons (pe_bltn (v := .ty "bool") (by rfl) T.b_bool (by decide +kernel) rfl) pa_nil)))) (pss_one (ps_ret (pe_and (pe_callB call_isi (by rfl) T.b_isinstance (by decide +kernel) (pa_cons (pv 0) (pa_cons (pe_bltn (v := .ty "bool") (by rfl) T.b_bool (by decide +kernel) rfl) pa_nil))) (pe_one (pe_cmpR op_eq (pe_cmpR op_isBl (pv 0) pe_bl (nomark _)) (pe_cmpR op_isBl (pv 1) pe_bl (nomark _)) (nomark _)))))) pss_nil) (pss_cons (ps_if (pt_val (pe_callB call_isi (by rfl) T.b_isinstance (by decide +kernel) (pa_cons (pv 1) (pa_cons (pe_bltn (v := .ty "int") (by rfl) T.b_int (by decide +kernel) rfl) pa_nil)))) (pss_one (ps_ret (pe_and (pe_callB call_isi (by rfl) T.b_isinstance (by decide +kernel) (pa_cons (pv 0) (pa_cons (pe_bltn (v := .ty "int") (by rfl) T.b_int (by decide +kernel) rfl) pa_nil))) (pe_and (pe_not (pe_callB call_isi (by rfl) T.b_isinstance (by decide +kernel) (pa_cons (pv 0) (pa_cons (pe_bltn (v := .ty "bool") (by rfl) T.b_bool (by decide +kernel) rfl) pa_nil)))) (pe_one (pe_cmpR op_eq (pe_op op_sub (pe_callTy call_int1 (by rfl) T.b_int (by decide +kernel) (pa_cons (pv 0) pa_nil)) (pv 1)) pe_int (nomark _))))))) pss_nil) (pss_cons (ps_if (pt_val (pe_callB call_isi (by rfl) T.b_isinstance (by decide +kernel) (pa_cons (pv 1) (pa_cons (pe_bltn (v := .ty "str") (by rfl) T.b_str (by decide +kernel) rfl) pa_nil)))) pss_never pss_nil) (pss_cons (ps_if (pt_val (pe_callB call_isi (by rfl) T.b_isinstance (by decide +kernel) (pa_cons (pv 1) (pa_cons (pe_bltn (v := .ty "dict") (by rfl) T.b_dict (by decide +kernel) rfl) pa_nil)))) pss_never pss_nil) (pss_cons (ps_if (PW.pt (pw_or (pt_not (pt_val (pe_callB call_isiT (by rfl) T.b_isinstance (by decide +kernel) (pa_cons (pv 1) (pa_cons (pe_tup (pa_cons (pe_bltn (v := .ty "list") (by rfl) T.b_list (by decide +kernel) rfl) (pa_cons (pe_bltn (v := .ty "tuple") (by rfl) T.b_tuple (by decide +kernel) rfl) pa_nil))) pa_nil))))) (pw_or1 (pt_not (pt_val (pe_callB call_isiT (by rfl) T.b_isinstance (by decide +kernel) (pa_cons (pv 0) (pa_cons (pe_tup (pa_cons (pe_bltn (v := .ty "list") (by rfl) T.b_list (by decide +kernel) rfl) (pa_cons (pe_bltn (v := .ty "tuple") (by rfl) T.b_tuple (by decide +kernel) rfl) pa_nil))) pa_nil)))))))) (pss_one (ps_ret pe_bl)) pss_nil) (pss_cons (ps_if (PW.pt (pw_or (pt_cmpR op_ne (pe_callB call_isi (by rfl) T.b_isinstance (by decide +kernel) (pa_cons (pv 0) (pa_cons (pe_bltn (v := .ty "list") (by rfl) T.b_list (by decide +kernel) rfl) pa_nil))) (pe_callB call_isi (by rfl) T.b_isinstance (by decide +kernel) (pa_cons (pv 1) (pa_cons (pe_bltn (v := .ty "list") (by rfl) T.b_list (by decide +kernel) rfl) pa_nil))) (nomark _)) (pw_or1 (pt_cmpR op_ne (pe_callB call_len_seq (by rfl) T.b_len (by decide +kernel) (pa_cons (pv 0) pa_nil)) (pe_callB call_len_seq (by rfl) T.b_len (by decide +kernel) (pa_cons (pv 1) pa_nil)) (nomark _))))) (pss_one (ps_ret pe_bl)) pss_nil) (pss_one (ps_ret (pe_cmpR (op_eqD hu) (pe_lc (own := [("k", 2)]) (by rfl) sc__law_same.nd (pi_range1 (by rfl) T.b_range (pa_cons (pe_callB call_len_seq (by rfl) T.b_len (by decide +kernel) (pa_cons (pv 1) pa_nil)) pa_nil)) (blkOk_by (N := N__law_same) (own := [("k", 2)]) (sc := defScope s__law_same) (by decide +kernel)) (fun _ _ _ _ _ => (pg_name (i := 2) sc__law_same.nd rfl (Or.inl rfl))) (fun _ _ _ _ _ => (pts_one (pt_not (pt_val (pe_cal c__law_same hr (by first | decide | exact Nat.le_refl _) rfl (pa_cons (pe_ix (show IxR _ (rIxT K) from ix_tup) (pv 0) (pv 2) (fun _ _ => rfl)) (pa_cons (pe_ix (show IxR _ (rIxT K) from ix_tup) (pv 1) (pv 2) (fun _ _ => rfl)) pa_nil))))))) (fun _ _ _ _ _ => (pv 2))) (pe_lst pa_nil) (nomark _))))))))))), ?_⟩
      refine q_when (Go.refl e) (hx (by simp) e) (fun z => by cases z) fun _ H1 g1 e1 => ?_
      refine q_when g1 (hi g1.o (kit_bool (.tuple ds))) (fun z => by cases z) fun _ H2 g2 e2 => ?_
      refine q_when g2 (hi g2.o (kit_int (.tuple ds))) (fun z => by cases z) fun _ H3 g3 e3 => ?_
      refine q_when g3 (hi g3.o (kit_str (.tuple ds))) (fun z => by cases z) fun _ H4 g4 e4 => ?_
      refine q_when g4 (hi g4.o (kit_dict (.tuple ds))) (fun z => by cases z) fun _ H5 g5 e5 => ?_
      refine q_when g5 (b := !(false || true) || !(false || true)) (et_or (et_not (et_test (J := I) (ed_isiT (kit_list _) (kit_tuple _) (ed_var rfl k2) g5.o) g5.o)) fun _ => et_not (et_test (J := I) (ed_isiT (kit_list _) (kit_tuple _) (ed_var rfl k1) g5.o) g5.o)) (fun z => by cases z) fun _ H6 g6 e6 => ?_
      refine q_when g6 (b := false || false) (et_or (Et.is (et_test (J := I) (ed_neB (I := I) (J := I) (ed_isi (kit_list (.tuple ds)) (ed_var rfl k1) g6.o) (ed_isi (kit_list (.tuple ds)) (ed_var rfl k2) g6.o) g6.o g6.o) g6.o) (by simp)) fun _ => Et.is (et_test (J := I) (ad_neI (ed_lenT (J := I) (ed_var rfl k1) g6.o) (ed_lenT (J := I) (ed_var rfl k2) g6.o) g6.o) g6.o) (by simp)) (fun z => by cases z) fun _ H7 g7 e7 => ?_
      refine hfin rfl g7 (Ed.is (ed_lcFR (J := I) (n := ds.length) (fun _ => none) (ea_cons (ed_lenT (ed_var rfl k2) g7.o) ea_nil) g7.o (by omega) (fun _ => rfl) fun i I' H' hi2 a1 a2 a3 => ?_) (by simp))
      have hil : i < ds.length := by omega
      have hat : atI ds (i : Int) = some ds[i] := by
        rw [atI_nat (by omega) (by omega), Int.toNat_natCast, List.getElem?_eq_getElem hil]
      exact Et.is (et_not (et_test (J := I') (ed_callB (J := I') ds[i] (by rfl) (by exact hs2 _ (List.getElem_mem hil)) (ea_cons (ed_ixT (ed_var rfl (k1.mono a1)) (ed_var rfl (.int _)) a2 hat) (ea_cons (ed_ixT (ed_var rfl (k2.mono a1)) (ed_var rfl (.int _)) a2 hat) ea_nil)) a2) a2)) (by rfl)
    | _ => cases hq
end
end K84
namespace KD
open PySem PySem.Spec PyProof.Rows L2
theorem ed_dct {σ : L2.St} {H I : Hp} : Ed tDNewK σ H I (.dict []) := fun H1 e b Q q => fun p hp => q _ (upd I p (.dK [])) _ (Ex.new (b.free hp)) (Ex.new hp) b.both ((New.refl I H1).lay (Ex.refl _) hp) (.dct upd_same)
theorem BoxAt.some {H : Hp} {l : Addr} {n : Nat} (b : BoxAt H l n) : ∃ o, H l = Option.some o := by
  obtain ⟨b0, b1, b2, b3, h, r⟩ := b
  exact ⟨_, h⟩
/-- e takes k times from the box at l, its value is F r for some r of P -/
def Em {ρ : Type} (l : Addr) (k : Nat) (te : TE) (σ : L2.St) (I : Hp) (P : ρ → Prop) (F : ρ → PyData) : Prop := ∀ I1 H1 n, Ex I I1 → Ex I1 H1 → I1 l = none → BoxAt H1 l n → n + k ≤ 1000000 → ∀ Q : VK, (∀ r v I2 H2, P r → Ex I1 I2 → ExL l H1 H2 → Ex I2 H2 → New I1 H1 I2 → I2 l = none → BoxAt H2 l (n + k) → Is I2 v (F r) → Q v H2) → te σ H1 Q
def EmA {ρ : Type} (l : Addr) (k : Nat) (ta : TA) (σ : L2.St) (I : Hp) (P : ρ → Prop) (F : ρ → List PyData) : Prop := ∀ I1 H1 n, Ex I I1 → Ex I1 H1 → I1 l = none → BoxAt H1 l n → n + k ≤ 1000000 → ∀ Q : List V → Hp → Prop, (∀ r vs I2 H2, P r → Ex I1 I2 → ExL l H1 H2 → Ex I2 H2 → New I1 H1 I2 → I2 l = none → BoxAt H2 l (n + k) → IsAll I2 vs (F r) → Q vs H2) → ta σ H1 Q
section
variable {ρ ρ1 ρ2 : Type} {l : Addr} {k k1 k2 : Nat} {te ta tb : TE} {tr : TA} {σ : L2.St} {I : Hp} {P : ρ → Prop} {F : ρ → PyData} {P1 : ρ1 → Prop} {P2 : ρ2 → Prop} {G1 : ρ1 → List PyData} {G2 : ρ2 → List PyData} {F1 : ρ1 → PyData}
theorem newL_trans {I1 H1 I2 H2 I3 : Hp} {l : Addr} (n : New I1 H1 I2) (m : New I2 H2 I3) (e : ExL l H1 H2) (h3 : I3 l = none) : New I1 H1 I3 := fun a o h => by
  rcases m a o h with z | z
  · exact n a o z
  · right
    cases q : H1 a with
    | none => rfl
    | some u =>
      by_cases al : a = l
      · subst al
        rw [h3] at h
        cases h
      · rw [e a u al q] at z
        cases z
theorem em_ed {d : PyData} (h : Ed te σ I I d) : Em (ρ := Unit) l 0 te σ I (fun _ => True) (fun _ => d) := fun I1 H1 n a b c bx hn Q q =>
  (h.more a) H1 (a.trans b) b Q fun v I2 H2 a1 a2 a3 nw kv => q () v I2 H2 trivial a1 a2.l a3 nw (by
    obtain ⟨o, ho⟩ := bx.some
    exact nw.none ho c) (bx.ex a2) kv
theorem ema_nil : EmA (ρ := Unit) l 0 tNil σ I (fun _ => True) (fun _ => []) := fun I1 H1 n a b c bx hn Q q => q () [] I1 H1 trivial (Ex.refl _) (ExL.refl _ _) b (New.refl _ _) c bx .nil
theorem ema_cons (h1 : Em l k1 te σ I P1 F1) (h2 : EmA l k2 tr σ I P2 G2) : EmA (ρ := ρ1 × ρ2) l (k1 + k2) (tCons te tr) σ I (fun r => P1 r.1 ∧ P2 r.2) (fun r => F1 r.1 :: G2 r.2) := fun I1 H1 n a b c bx hn Q q =>
  h1 I1 H1 n a b c bx (by omega) _ fun r1 v I2 H2 p1 a1 a2 a3 nw c2 bx2 kv => h2 I2 H2 (n + k1) (a.trans a1) a3 c2 bx2 (by omega) _ fun r2 vs I3 H3 p2 b1 b2 b3 nw2 c3 bx3 kvs =>
    q (r1, r2) (v :: vs) I3 H3 ⟨p1, p2⟩ (a1.trans b1) (a2.trans b2) b3 (newL_trans nw nw2 a2 c3) c3 (by rw [← Nat.add_assoc]; exact bx3) (.cons (kv.mono b1) kvs)
theorem em_imp {P' : ρ1 → Prop} {F' : ρ1 → PyData} (h : Em l k te σ I P F) (hi : ∀ r, P r → ∃ r', P' r' ∧ F r = F' r') : Em l k te σ I P' F' := fun I1 H1 n a b c bx hn Q q =>
  h I1 H1 n a b c bx hn Q fun r v I2 H2 p a1 a2 a3 nw c2 bx2 kv => by
    obtain ⟨r', p', e⟩ := hi r p
    rw [e] at kv
    exact q r' v I2 H2 p' a1 a2 a3 nw c2 bx2 kv
theorem em_new {H1 H2 I2 : Hp} {p l : Addr} {o : HO} {n : Nat} (a3 : Ex I2 H2) (c2 : I2 l = none) (bx2 : BoxAt H2 l n) (hp : H2 p = none) : l ≠ p ∧ (upd I2 p o) l = none ∧ BoxAt (upd H2 p o) l n := by
  obtain ⟨u, hu⟩ := bx2.some
  have ne : l ≠ p := ne_of_none hu hp
  exact ⟨ne, by rw [upd_ne ne]; exact c2, bx2.ne ne⟩
theorem newL_lay {I1 H1 I2 H2 : Hp} {l p : Addr} {o : HO} (nw : New I1 H1 I2) (e : ExL l H1 H2) (hp : H2 p = none) (ne : l ≠ p) : New I1 H1 (upd I2 p o) := fun a u z => by
  by_cases q : a = p
  · subst q
    right
    cases q : H1 a with
    | none => rfl
    | some u =>
      rw [e a u ne.symm q] at hp
      cases hp
  · rw [upd_ne q] at z
    exact nw a u z
theorem em_lst {G : ρ → List PyData} (h : EmA l k tr σ I P G) (hl : ∀ r, (G r).length ≤ 100000) : Em l k (tLst tr) σ I P (fun r => .list (G r)) := fun I1 H1 n a b c bx hn Q q =>
  h I1 H1 n a b c bx hn _ fun r vs I2 H2 p a1 a2 a3 nw c2 bx2 kv => ⟨sz_of (by rw [kv.length]; exact hl r), fun x hx => by
    obtain ⟨ne, c3, bx3⟩ := em_new (H1 := H1) (o := .lst vs) a3 c2 bx2 hx
    exact q r _ (upd I2 x (.lst vs)) _ p (a1.trans (Ex.new (a3.free hx))) (a2.trans (Ex.new hx).l) a3.both (newL_lay nw a2 hx ne) c3 bx3 (.lst upd_same (kv.mono (Ex.new (a3.free hx))))⟩
theorem em_tup {G : ρ → List PyData} (h : EmA l k tr σ I P G) (hl : ∀ r, (G r).length ≤ 100000) : Em l k (tTup tr) σ I P (fun r => .tuple (G r)) := fun I1 H1 n a b c bx hn Q q =>
  h I1 H1 n a b c bx hn _ fun r vs I2 H2 p a1 a2 a3 nw c2 bx2 kv => ⟨sz_of (by rw [kv.length]; exact hl r), fun x hx => by
    obtain ⟨ne, c3, bx3⟩ := em_new (H1 := H1) (o := .tup vs) a3 c2 bx2 hx
    exact q r _ (upd I2 x (.tup vs)) _ p (a1.trans (Ex.new (a3.free hx))) (a2.trans (Ex.new hx).l) a3.both (newL_lay nw a2 hx ne) c3 bx3 (.tup upd_same (kv.mono (Ex.new (a3.free hx))))⟩
theorem em_cat (h1 : Em l k1 ta σ I P1 (fun r => .list (G1 r))) (h2 : Em l k2 tb σ I P2 (fun r => .list (G2 r))) (hl : ∀ r1 r2, P1 r1 → P2 r2 → (G1 r1).length + (G2 r2).length ≤ 100000) : Em (ρ := ρ1 × ρ2) l (k1 + k2) (tOp rCat ta tb) σ I (fun r => P1 r.1 ∧ P2 r.2) (fun r => .list (G1 r.1 ++ G2 r.2)) := fun I1 H1 n a b c bx hn Q q =>
  h1 I1 H1 n a b c bx (by omega) _ fun r1 v I2 H2 p1 a1 a2 a3 nw c2 bx2 kv => h2 I2 H2 (n + k1) (a.trans a1) a3 c2 bx2 (by omega) _ fun r2 v2 I3 H3 p2 b1 b2 b3 nw2 c3 bx3 kv2 => by
    cases kv with
    | @lst x xs _ ka kb =>
      cases kv2 with
      | @lst y ys _ kc kd =>
        refine ⟨x, y, xs, ys, rfl, rfl, b3 _ _ (b1 _ _ ka), b3 _ _ kc, by rw [kb.length, kd.length]; exact sz_of (hl r1 r2 p1 p2), fun p hp => ?_⟩
        obtain ⟨ne, c4, bx4⟩ := em_new (H1 := H1) (o := .lst (xs ++ ys)) b3 c3 bx3 hp
        have fr := b3.free hp
        exact q (r1, r2) _ (upd I3 p (.lst (xs ++ ys))) _ ⟨p1, p2⟩ ((a1.trans b1).trans (Ex.new fr)) ((a2.trans b2).trans (Ex.new hp).l) b3.both (newL_lay (newL_trans nw nw2 a2 c3) (a2.trans b2) hp ne) c4 (by rw [← Nat.add_assoc]; exact bx4) (.lst upd_same (((kb.mono b1).append kd).mono (Ex.new fr)))
/-- the state of one that takes from the box -/
structure Gb (l : Addr) (I0 H0 I H : Hp) (n : Nat) : Prop where
  g : Go I0 (cutH H0 l) I H
  il : I l = none
  b : BoxAt H l n
theorem Gb.start {H : Hp} {n : Nat} (e : Ex I H) (hl : I l = none) (b : BoxAt H l n) : Gb l I H I H n := ⟨⟨Ex.refl _, New.refl _ _, cutH_ex H l, e⟩, hl, b⟩
theorem Gb.go {I0 H0 H I2 H2 : Hp} {n : Nat} (x : Gb l I0 H0 I H n) (g : Go I0 (cutH H0 l) I2 H2) (g' : Go I H I2 H2) : Gb l I0 H0 I2 H2 n := ⟨g, by
  obtain ⟨o, ho⟩ := x.b.some
  exact g'.n.none ho x.il, x.b.ex g'.h⟩
theorem q_em {I0 H0 H : Hp} {n i : Nat} {tz : TS} {D : Ends} (x : Gb l I0 H0 I H n) (h : Em l k te σ I P F) (hn : n + k ≤ 1000000) (kk : ∀ r v I2 H2, P r → Gb l I0 H0 I2 H2 (n + k) → Ex I I2 → ExL l H H2 → Is I2 v (F r) → tz D (σ.set i (some v)) H2) : tSeq (tAsg te (gName i)) tz D σ H :=
  h I H n (Ex.refl _) x.g.o x.il x.b hn _ fun r v I2 H2 p a1 a2 a3 nw c2 bx2 kv => kk r v I2 H2 p ⟨⟨x.g.i.trans a1, fun a o z => by
    rcases nw a o z with y | y
    · exact x.g.n a o y
    · exact .inr (x.g.h.free y), fun a o z => by
      have hal : a ≠ l := by
        intro q
        unfold cutH at z
        rw [if_pos q] at z
        cases z
      exact a2 a o hal (x.g.h a o z), a3⟩, c2, bx2⟩ a1 a2 kv
end
end KD
namespace K84
open PySem PySem.Spec PyProof.Rows L2 KD
local macro_rules
  | `(tactic| walk_at "ed") => `(tactic| first
    | with_reducible assumption
    | with_reducible exact Ex.refl _
    | (with_reducible apply Go.o; with_reducible assumption)
    | with_reducible exact ed_int
    | with_reducible exact ed_bl
    | with_reducible exact ed_str
    | with_reducible exact ed_non
    | ((with_reducible apply ed_var) <;> (first | (exact rfl) | exact Is.int _ | exact Is.bl _ | exact Is.str _ | exact Is.non | with_reducible assumption))
    | ((with_reducible apply ad_add) <;> walk_at "ed")
    | ((with_reducible apply ad_sub) <;> walk_at "ed")
    | ((with_reducible apply ad_lt) <;> walk_at "ed")
    | ((with_reducible apply ad_le) <;> walk_at "ed")
    | ((with_reducible apply ad_gt) <;> walk_at "ed")
    | ((with_reducible apply ad_ge) <;> walk_at "ed")
    | ((with_reducible apply ad_eqI) <;> walk_at "ed")
    | ((with_reducible apply ad_neI) <;> walk_at "ed")
    | ((with_reducible apply ad_eqS) <;> walk_at "ed")
    | ((with_reducible apply ad_neS) <;> walk_at "ed")
    | ((with_reducible apply ad_notV) <;> walk_at "ed")
    | ((with_reducible apply ad_neg) <;> walk_at "ed")
    | ((with_reducible apply ad_lenL) <;> walk_at "ed")
    | ((with_reducible refine ad_tup ?_ ?_) <;> (first | walk_at "ed" | (simp only [List.length_cons, List.length_nil]; decide)))
    | ((with_reducible refine ad_lst ?_ ?_) <;> (first | walk_at "ed" | (simp only [List.length_cons, List.length_nil]; decide)))
    | ((with_reducible apply ea_cons) <;> walk_at "ed")
    | with_reducible exact ea_nil)

section
variable {σ : L2.St} {I : Hp} {l : Addr} {tm : TE} {i : Nat} {m : Int}
theorem em_take (hs : σ[i]? = some (some (.ref l))) (hm : Ed tm σ I I (.int m)) (h0 : 0 < m) (h1 : m < 1073741824) : Em (ρ := Int) l 1 (tCall sp__law_take [] E0 (tCons (tVar i) (tCons tm tNil))) σ I (fun r => 0 ≤ r ∧ r < m) (fun r => .int r) := fun I1 H1 n a b c bx hn Q q =>
  ⟨_, hs, ((hm.more a).mono (a.trans b)).int b H1 (Ex.refl _) _ fun H2 e2 => ⟨l, m, n, rfl, bx.ex e2, by omega, h0, h1, fun r H3 r0 r1 e3 b3 => q r (.int r) I1 H3 ⟨r0, r1⟩ (Ex.refl _) (e2.l.trans e3) (fun x o z => e3 x o (fun y => by subst y; rw [c] at z; cases z) (e2 _ _ (b _ _ z))) (New.refl _ _) c b3 (.int r)⟩⟩
end
section
variable {σ : L2.St} {H I : Hp} {te ta tb : TE} {K : PySem.W.Frag}
theorem ec_lst1 {a : Cm} (h : Ed te σ H I (cmD a)) : Ed (tLst (tCons te tNil)) σ H I (csD [a]) := ad_lst (ds := [cmD a]) (ea_cons h ea_nil) (by show 1 ≤ 100000; decide)
theorem ec_lst2 {a b : Cm} (h : Ed ta σ H I (cmD a)) (h2 : Ed tb σ H I (cmD b)) : Ed (tLst (tCons ta (tCons tb tNil))) σ H I (csD [a, b]) := ad_lst (ds := [cmD a, cmD b]) (ea_cons h (ea_cons h2 ea_nil)) (by show 2 ≤ 100000; decide)
theorem ec_cat {a b : List Cm} (ha : Ed ta σ H I (csD a)) (hb : Ed tb σ H I (csD b)) (ei : Ex I H) (hz : a.length + b.length ≤ 100000) : Ed (tOp rCat ta tb) σ H I (csD (a ++ b)) := by
  have h := ed_cat ha hb ei (by rw [List.length_map, List.length_map]; exact hz)
  rw [← List.map_append] at h
  exact h
theorem ec_sl {a : List Cm} {lo hi : Option Int} {tl th : TO} (ha : Ed ta σ H I (csD a)) (h1 : Eo tl σ H lo) (h2 : Eo th σ H hi) : Ed (tSl (rSlL K) ta tl th) σ H I (csD (cutA a lo hi)) := by
  have h := ed_sl (K := K) ha h1 h2
  rw [cutD_map] at h
  exact h
theorem ec_turn : Ed (tTup (tCons (tC (.str "turn")) tNil)) σ H I (cmD .turn) := ad_tup (ds := [.str "turn"]) (ea_cons ed_str ea_nil) (by show 1 ≤ 100000; decide)
theorem ec_mv {w : Str} {n : Int} (h : Ed te σ H I (.int n)) : Ed (tTup (tCons (tC (.str w)) (tCons te tNil))) σ H I (cmD (.mv w n)) := ad_tup (ds := [.str w, .int n]) (ea_cons ed_str (ea_cons h ea_nil)) (by show 2 ≤ 100000; decide)
theorem ec_bl {w : Str} {b : Bool} : Ed (tTup (tCons (tC (.str w)) (tCons (tC (.bl b)) tNil))) σ H I (cmD (.bl w b)) := ad_tup (ds := [.str w, .bool b]) (ea_cons ed_str (ea_cons ed_bl ea_nil)) (by show 2 ≤ 100000; decide)
end
def cmItems : Cm → List PyData
  | .turn => [.str "turn"]
  | .mv w n => [.str w, .int n]
  | .bl w b => [.str w, .bool b]
  | _ => []
def near1 (n : Nat) (b : List Cm) : List Val := [.ls b, .tp b, .ls (cutA b (some 1) none), .ls (cutA b none (some (-1))), .ls (b ++ [.turn]), .ls ([cUndo 1] ++ b), .ls ([cRun n] ++ b), .ls b.reverse]
def near2 (b : List Cm) (at_ : Int) : List Val := [.oth .none, .oth (.int 7), .oth (.dict []), .oth (.str "undo"), .ls ([.non] ++ b), .ls (b.map fun c => .ls (cmItems c)), .ls (b ++ [cUndo 0]), .ls (cutA b none (some at_) ++ [cUndo 1] ++ cutA b (some at_) none)]
def near3 (b : List Cm) (at_ x y : Int) : List Val := [.ls (cutA b none (some at_) ++ [cKeep x] ++ cutA b (some at_) none), .ls (cutA b none (some at_) ++ [cTake y] ++ cutA b (some at_) none)]
def near4 (b : List Cm) (at_ : Int) : List Val := [.ls (cutA b none (some at_) ++ [.bl "undo" true] ++ cutA b (some at_) none), .ls (cutA b none (some at_) ++ [cUndo 1, cRun 1] ++ cutA b (some at_) none), .ls (cutA b none (some at_) ++ [cRun 1, cUndo 1] ++ cutA b (some at_) none)]
def near5 (n : Nat) : List Val := [.ls (slowC n), .ls ([cRun n] ++ List.replicate n .turn)]
def nearV (n : Nat) (b : List Cm) (at_ x y : Int) : List Val := near1 n b ++ near2 b at_ ++ near3 b at_ x y ++ near4 b at_ ++ near5 n
section
variable {P : Program} {w : World} {K : PySem.W.Frag} {mg : Str → Option Value} {base : Heap} {C : Addr}
abbrev N__law_near : List Str := ["box", "kinds", "c", "best", "at", "found", "command"]
theorem sc__law_near : FnScope N__law_near ["box", "kinds", "c", "best"] (defScope s__law_near) := ⟨rfl, rfl, rfl, by decide +kernel, rfl, by decide +kernel, by decide +kernel⟩
abbrev sp__law_near : Sp := fun vs H Q _ => ∃ l n I ks c best v2 v4, vs = [.ref l, v2, .int c, v4] ∧ Ex I H ∧ I l = none ∧ BoxAt H l n ∧ n ≤ 900000 ∧ Is I v2 (kD ks) ∧ Is I v4 (csD best) ∧ 1 ≤ best.length ∧ best.length ≤ 1000 ∧ (∀ cm ∈ best, CmM cm) ∧ ks.length ≤ 60 ∧ 1 ≤ c ∧ c ≤ 40 ∧
  ∀ (at_ x y : Int) v I2 H2, 0 ≤ at_ → at_ < (best.length : Int) → 0 ≤ x → x ≤ c → 0 ≤ y → y < c → Ex I I2 → ExL l H H2 → Ex I2 H2 → New I (cutH H l) I2 → I2 l = none → BoxAt H2 l (n + 3) → Is I2 v (.list ((nearV ks.length best at_ x y).map valD)) → Q v H2
theorem ok__law_near (T : Txt K mg C) (F : Fn K mg "_law_near" s__law_near) (c__law_take : Cal P w K mg base 1 "_law_take" ["box", "many"] s__law_take sp__law_take) (c__law_slow : Cal P w K mg base 1 "_law_slow" ["l"] s__law_slow sp__law_slow) : Cal P w K mg base 2 "_law_near" ["box", "kinds", "c", "best"] s__law_near sp__law_near := by
  refine cal_mk F sc__law_near (fun _ _ _ _ _ _ us hl => match us, hl with | [_, _, _, _], _ => rfl) (fun vs H Q E h => ?_) (fun f cdv A outer s H vs Q E hr h => ?_)
  · obtain ⟨l, n, I, ks, c, best, v2, v4, rfl, _⟩ := h
    rfl
  obtain ⟨l, n, I, ks, c, best, v2, v4, rfl, e, hil, hbx, hn, hk2, hk4, hb1, hb2, hbm, hkl, hc1, hc2, q⟩ := h
  refine ⟨_, (pss_cons (ps_set (i := 4) sc__law_near.nd rfl (Or.inl rfl) (pe_cal c__law_take hr (by first | decide | exact Nat.le_refl _) rfl (pa_cons (pv 0) (pa_cons (pe_callB call_len_seq (by rfl) T.b_len (by decide +kernel) (pa_cons (pv 3) pa_nil)) pa_nil)))) (pss_cons (ps_set (i := 5) sc__law_near.nd rfl (Or.inl rfl) (pe_lst (pa_cons (pv 3) (pa_cons (pe_callTy call_tuple_of (by rfl) T.b_tuple (by decide +kernel) (pa_cons (pv 3) pa_nil)) (pa_cons (pe_slice sl_list (pv 3) (po_some pe_int) po_none) (pa_cons (pe_slice sl_list (pv 3) po_none (po_some (pe_un un_neg pe_int))) (pa_cons (pe_op op_cat (pv 3) (pe_lst (pa_cons (pe_tup (pa_cons pe_str pa_nil)) pa_nil))) (pa_cons (pe_op op_cat (pe_lst (pa_cons (pe_tup (pa_cons pe_str (pa_cons pe_int pa_nil))) pa_nil)) (pv 3)) (pa_cons (pe_op op_cat (pe_lst (pa_cons (pe_tup (pa_cons pe_str (pa_cons (pe_callB call_len_seq (by rfl) T.b_len (by decide +kernel) (pa_cons (pv 1) pa_nil)) pa_nil))) pa_nil)) (pv 3)) (pa_cons (pe_callTy call_list_of (by rfl) T.b_list (by decide +kernel) (pa_cons (pe_revL (pv 3)) pa_nil)) pa_nil)))))))))) (pss_cons (ps_set (i := 5) sc__law_near.nd rfl (Or.inl rfl) (pe_op op_cat (pv 5) (pe_lst (pa_cons pe_non (pa_cons pe_int (pa_cons pe_dnewK (pa_cons pe_str (pa_cons (pe_op op_cat (pe_lst (pa_cons pe_non pa_nil)) (pv 3)) (pa_cons (pe_lc (own := [("command", 6)]) (by rfl) sc__law_near.nd (pi_list (pv 3)) (blkOk_by (N := N__law_near) (own := [("command", 6)]) (sc := defScope s__law_near) (by decide +kernel)) (fun _ _ _ _ _ => (pg_name (i := 6) sc__law_near.nd rfl (Or.inl rfl))) (fun _ _ _ _ _ => pts_nil) (fun _ _ _ _ _ => (pe_callTy (show CallR _ _ (rListOf K) from call_list_of) (by rfl) T.b_list (by decide +kernel) (pa_cons (pv 6) pa_nil)))) (pa_cons (pe_op op_cat (pv 3) (pe_lst (pa_cons (pe_tup (pa_cons pe_str (pa_cons pe_int pa_nil))) pa_nil))) (pa_cons (pe_op op_cat (pe_op op_cat (pe_slice sl_list (pv 3) po_none (po_some (pv 4))) (pe_lst (pa_cons (pe_tup (pa_cons pe_str (pa_cons pe_int pa_nil))) pa_nil))) (pe_slice sl_list (pv 3) (po_some (pv 4)) po_none)) pa_nil))))))))))) (pss_cons (ps_set (i := 5) sc__law_near.nd rfl (Or.inl rfl) (pe_op op_cat (pv 5) (pe_lst (pa_cons (pe_op op_cat (pe_op op_cat (pe_slice sl_list (pv 3) po_none (po_some (pv 4))) (pe_lst (pa_cons (pe_tup (pa_cons pe_str (pa_cons (pe_cal c__law_take hr (by first | decide | exact Nat.le_refl _) rfl (pa_cons (pv 0) (pa_cons (pe_op op_add (pv 2) pe_int) pa_nil))) pa_nil))) pa_nil))) (pe_slice sl_list (pv 3) (po_some (pv 4)) po_none)) (pa_cons (pe_op op_cat (pe_op op_cat (pe_slice sl_list (pv 3) po_none (po_some (pv 4))) (pe_lst (pa_cons (pe_tup (pa_cons pe_str (pa_cons (pe_cal c__law_take hr (by first | decide | exact Nat.le_refl _) rfl (pa_cons (pv 0) (pa_cons (pv 2) pa_nil))) pa_nil))) pa_nil))) (pe_slice sl_list (pv 3) (po_some (pv 4)) po_none)) pa_nil))))) (pss_cons (ps_set (i := 5) sc__law_near.nd rfl (Or.inl rfl) (pe_op op_cat (pv 5) (pe_lst (pa_cons (pe_op op_cat (pe_op op_cat (pe_slice sl_list (pv 3) po_none (po_some (pv 4))) (pe_lst (pa_cons (pe_tup (pa_cons pe_str (pa_cons pe_bl pa_nil))) pa_nil))) (pe_slice sl_list (pv 3) (po_some (pv 4)) po_none)) (pa_cons (pe_op op_cat (pe_op op_cat (pe_slice sl_list (pv 3) po_none (po_some (pv 4))) (pe_lst (pa_cons (pe_tup (pa_cons pe_str (pa_cons pe_int pa_nil))) (pa_cons (pe_tup (pa_cons pe_str (pa_cons pe_int pa_nil))) pa_nil)))) (pe_slice sl_list (pv 3) (po_some (pv 4)) po_none)) (pa_cons (pe_op op_cat (pe_op op_cat (pe_slice sl_list (pv 3) po_none (po_some (pv 4))) (pe_lst (pa_cons (pe_tup (pa_cons pe_str (pa_cons pe_int pa_nil))) (pa_cons (pe_tup (pa_cons pe_str (pa_cons pe_int pa_nil))) pa_nil)))) (pe_slice sl_list (pv 3) (po_some (pv 4)) po_none)) pa_nil)))))) (pss_one (ps_ret (pe_op op_cat (pv 5) (pe_lst (pa_cons (pe_cal c__law_slow hr (by first | decide | exact Nat.le_refl _) rfl (pa_cons (pe_callB call_len_seq (by rfl) T.b_len (by decide +kernel) (pa_cons (pv 1) pa_nil)) pa_nil)) (pa_cons (pe_op op_cat (pe_lst (pa_cons (pe_tup (pa_cons pe_str (pa_cons (pe_callB call_len_seq (by rfl) T.b_len (by decide +kernel) (pa_cons (pv 1) pa_nil)) pa_nil))) pa_nil)) (pe_op op_rep (pe_lst (pa_cons (pe_tup (pa_cons pe_str pa_nil)) pa_nil)) (pe_callB call_len_seq (by rfl) T.b_len (by decide +kernel) (pa_cons (pv 1) pa_nil)))) pa_nil))))))))))), ?_⟩
  have x0 := Gb.start e hil hbx
  refine q_em x0 (em_take rfl (ed_lenL (J := I) (ed_var rfl hk4) (Ex.refl _)) (by rw [List.length_map]; omega) (by rw [List.length_map]; omega)) (by omega) fun at_ v0 I1 H1 hat x1 a1 b1 kv0 => ?_
  cases kv0
  rw [List.length_map] at hat
  obtain ⟨hat1, hat2⟩ := hat
  have k2 := hk2.mono a1
  have k4 := hk4.mono a1
  have l1 := cutA_len best (some 1) none
  have l2 := cutA_len best none (some (-1))
  have l3 := cutA_len best none (some at_)
  have l4 := cutA_len best (some at_) none
  have g1 := x1.g
  have hlen : ∀ {σ : L2.St} {H2 I2 : Hp}, Ex I1 I2 → Ex I2 H2 → σ[1]? = some (some v2) → Ed (tCB (rLenSq K) (tCons (tVar 1) tNil)) σ H2 I2 (.int ks.length) := fun a b hs => Ed.is (ed_lenL (ed_var hs (k2.mono a)) b) (by rw [List.length_map])
  refine q_set (d := .list ((near1 ks.length best).map valD)) g1 (ad_lst (ds := (near1 ks.length best).map valD) (ea_cons (ed_var rfl k4) (ea_cons (ed_tupL (ed_var rfl k4)) (ea_cons (ec_sl (ed_var rfl k4) (eo_some (J := I1) ed_int g1.o) eo_none) (ea_cons (ec_sl (ed_var rfl k4) eo_none (eo_some (J := I1) (ad_neg ed_int g1.o) g1.o)) (ea_cons (ec_cat (ed_var rfl k4) (ec_lst1 ec_turn) g1.o (by simp only [List.length_append, List.length_cons, List.length_nil]; omega)) (ea_cons (ec_cat (ec_lst1 (ec_mv ed_int)) (ed_var rfl k4) g1.o (by simp only [List.length_append, List.length_cons, List.length_nil]; omega)) (ea_cons (ec_cat (ec_lst1 (ec_mv (hlen (Ex.refl _) g1.o rfl))) (ed_var rfl k4) g1.o (by simp only [List.length_append, List.length_cons, List.length_nil]; omega)) (ea_cons (Ed.is (ed_listL (ed_revL (ed_var rfl k4))) (by rw [← List.map_reverse]; rfl)) ea_nil)))))))) (by show 8 ≤ 100000; decide)) fun vf2 I2 H2 g2 g2' kf2 => ?_
  have x2 := x1.go g2 g2'
  have k42 := k4.mono g2'.i
  have hcutA : ∀ {σ : L2.St} {H3 I3 : Hp}, Ex I1 I3 → Ex I3 H3 → σ[3]? = some (some v4) → σ[4]? = some (some (.int at_)) → Ed (tSl (rSlL K) (tVar 3) tNoPart (tPart (tVar 4))) σ H3 I3 (csD (cutA best none (some at_))) := fun {σ H3 I3} a b h3 h4 => ec_sl (ed_var h3 (k4.mono a)) eo_none (eo_some (J := I3) (ed_var h4 (.int _)) b)
  have hcutB : ∀ {σ : L2.St} {H3 I3 : Hp}, Ex I1 I3 → Ex I3 H3 → σ[3]? = some (some v4) → σ[4]? = some (some (.int at_)) → Ed (tSl (rSlL K) (tVar 3) (tPart (tVar 4)) tNoPart) σ H3 I3 (csD (cutA best (some at_) none)) := fun {σ H3 I3} a b h3 h4 => ec_sl (ed_var h3 (k4.mono a)) (eo_some (J := I3) (ed_var h4 (.int _)) b) eo_none
  have hmid : ∀ {σ : L2.St} {H3 I3 : Hp} {te : TE} {cs : List Cm}, Ex I1 I3 → Ex I3 H3 → σ[3]? = some (some v4) → σ[4]? = some (some (.int at_)) → cs.length ≤ 2 → Ed te σ H3 I3 (csD cs) → Ed (tOp rCat (tOp rCat (tSl (rSlL K) (tVar 3) tNoPart (tPart (tVar 4))) te) (tSl (rSlL K) (tVar 3) (tPart (tVar 4)) tNoPart)) σ H3 I3 (csD (cutA best none (some at_) ++ cs ++ cutA best (some at_) none)) := fun a b h3 h4 hcs h => ec_cat (ec_cat (hcutA a b h3 h4) h b (by omega)) (hcutB a b h3 h4) b (by rw [List.length_append]; omega)
  refine q_set (d := .list ((near1 ks.length best ++ near2 best at_).map valD)) g2 (Ed.is (ed_cat (es := (near2 best at_).map valD) (ed_var rfl kf2) (ad_lst (ds := (near2 best at_).map valD) (ea_cons ed_non (ea_cons ed_int (ea_cons ed_dct (ea_cons ed_str (ea_cons (ec_cat (ec_lst1 (a := .non) ed_non) (ed_var rfl k42) g2.o (by simp only [List.length_append, List.length_cons, List.length_nil]; omega)) (ea_cons (Ed.is (ed_lcA best cmD (fun c => .list (cmItems c)) (ed_var rfl k42) (by omega) (fun _ => rfl) fun i a x I' H' ha b1 b2 b3 kx => ?_) (by show _ = PyData.list ((best.map _).map cmD); rw [List.map_map]; rfl)) (ea_cons (ec_cat (ed_var rfl k42) (ec_lst1 (ec_mv ed_int)) g2.o (by simp only [List.length_append, List.length_cons, List.length_nil]; omega)) (ea_cons (hmid g2'.i g2.o rfl rfl (by show 1 ≤ 2; decide) (ec_lst1 (ec_mv ed_int))) ea_nil)))))))) (by show 8 ≤ 100000; decide)) g2.o (by show 8 + 8 ≤ 100000; decide)) (by rw [← List.map_append])) fun vf3 I3 H3 g3 g3' kf3 => ?_
  · rcases hbm a (List.mem_of_getElem? ha) with rfl | ⟨wd, m, rfl, _⟩
    · exact ed_listT (ds := [.str "turn"]) (ed_var rfl kx)
    · exact ed_listT (ds := [.str wd, .int m]) (ed_var rfl kx)
  have x3 := x2.go g3 g3'
  have i13 := g2'.i.trans g3'.i
  have e33 : Ex I3 I3 := Ex.refl _
  have hAB : ∀ {m : Int} {wd : Str} {tm : TE} {σ : L2.St}, σ[0]? = some (some (.ref l)) → σ[3]? = some (some v4) → σ[4]? = some (some (.int at_)) → Ed tm σ I3 I3 (.int m) → 0 < m → m < 1073741824 → Em (ρ := Int) l 1 (tOp rCat (tOp rCat (tSl (rSlL K) (tVar 3) tNoPart (tPart (tVar 4))) (tLst (tCons (tTup (tCons (tC (.str wd)) (tCons (tCall sp__law_take [] E0 (tCons (tVar 0) (tCons tm tNil))) tNil))) tNil))) (tSl (rSlL K) (tVar 3) (tPart (tVar 4)) tNoPart)) σ I3 (fun r => 0 ≤ r ∧ r < m) (fun r => csD (cutA best none (some at_) ++ [.mv wd r] ++ cutA best (some at_) none)) := fun {m wd tm σ} h0 h3 h4 hm hm0 hm1 => by
    refine em_imp (em_cat (em_cat (em_ed (hcutA i13 e33 h3 h4)) (em_lst (ema_cons (em_tup (ema_cons (em_ed ed_str) (ema_cons (em_take h0 hm hm0 hm1) ema_nil)) (fun _ => by show 2 ≤ 100000; decide)) ema_nil) (fun _ => by show 1 ≤ 100000; decide)) (fun _ _ _ _ => by rw [List.length_map]; show _ + 1 ≤ 100000; omega)) (em_ed (hcutB i13 e33 h3 h4)) (fun _ _ _ _ => by rw [List.length_append, List.length_map, List.length_map]; show _ + 1 + _ ≤ 100000; omega)) ?_
    rintro ⟨⟨_, ⟨⟨_, ⟨r, _⟩⟩, _⟩⟩, _⟩ hp
    exact ⟨r, hp.1.2.1.2.1, by
      show _ = PyData.list ((cutA best none (some at_) ++ [Cm.mv wd r] ++ cutA best (some at_) none).map cmD)
      rw [List.map_append, List.map_append]
      rfl⟩
  refine q_em (k := 2) (ρ := Int × Int) (P := fun r => (0 ≤ r.1 ∧ r.1 < c + 1) ∧ (0 ≤ r.2 ∧ r.2 < c)) (F := fun r => .list ((near1 ks.length best ++ near2 best at_ ++ near3 best at_ r.1 r.2).map valD)) x3 (em_imp (em_cat (em_ed (ed_var rfl kf3)) (em_lst (ema_cons (hAB (m := c + 1) (wd := "keep") rfl rfl rfl (ad_add (ed_var rfl (.int _)) ed_int e33) (by omega) (by omega)) (ema_cons (hAB (m := c) (wd := "take") rfl rfl rfl (ed_var rfl (.int _)) (by omega) (by omega)) ema_nil)) (fun _ => by show 2 ≤ 100000; decide)) (fun _ _ _ _ => by show 16 + 2 ≤ 100000; decide)) ?_) (by omega) fun r v5 I4 H4 hr x4 a4 b4 kv5 => ?_
  · rintro ⟨_, ⟨x, ⟨y, _⟩⟩⟩ hp
    refine ⟨(x, y), ⟨hp.2.1, hp.2.2.1⟩, ?_⟩
    rw [List.map_append (l₁ := near1 ks.length best ++ near2 best at_)]
    rfl
  obtain ⟨x, y⟩ := r
  obtain ⟨⟨hx1, hx2⟩, hy1, hy2⟩ := hr
  dsimp only at hx1 hx2 hy1 hy2
  have g4 := x4.g
  have i14 := i13.trans a4
  refine q_set (d := .list ((near1 ks.length best ++ near2 best at_ ++ near3 best at_ x y ++ near4 best at_).map valD)) g4 (Ed.is (ed_cat (es := (near4 best at_).map valD) (ed_var rfl kv5) (ad_lst (ds := (near4 best at_).map valD) (ea_cons (hmid i14 g4.o rfl rfl (by show 1 ≤ 2; decide) (ec_lst1 ec_bl)) (ea_cons (hmid i14 g4.o rfl rfl (by show 2 ≤ 2; decide) (ec_lst2 (ec_mv ed_int) (ec_mv ed_int))) (ea_cons (hmid i14 g4.o rfl rfl (by show 2 ≤ 2; decide) (ec_lst2 (ec_mv ed_int) (ec_mv ed_int))) ea_nil))) (by show 3 ≤ 100000; decide)) g4.o (by show 18 + 3 ≤ 100000; decide)) (by rw [← List.map_append])) fun vf6 I5 H5 g5 g5' kf6 => ?_
  have x5 := x4.go g5 g5'
  have i15 := i14.trans g5'.i
  refine (Ed.is (d' := .list ((nearV ks.length best at_ x y).map valD)) (ed_cat (es := (near5 ks.length).map valD) (ed_var rfl kf6) (ad_lst (ds := (near5 ks.length).map valD) (ea_cons (ed_callD (I := I5) ks.length (by show ks.length ≤ 100; omega) (ea_cons (hlen i15 g5.o rfl) ea_nil)) (ea_cons (ec_cat (ec_lst1 (ec_mv (hlen i15 g5.o rfl))) (b := List.replicate ks.length .turn) (Ed.is (ed_rep1 (d := cmD .turn) (ec_lst1 ec_turn) (hlen i15 g5.o rfl) g5.o (by omega)) (by show _ = PyData.list ((List.replicate ks.length Cm.turn).map cmD); rw [List.map_replicate]; rfl)) g5.o (by rw [List.length_replicate]; show 1 + _ ≤ 100000; omega)) ea_nil)) (by show 2 ≤ 100000; decide)) g5.o (by show 21 + 2 ≤ 100000; decide)) (by rw [← List.map_append]; rfl)) H5 (Ex.refl _) g5.o _ fun v I6 H6 a6 b6 c6 nw6 kv6 => ?_
  have g6 := g5.trans ⟨a6, nw6, b6, c6⟩
  have x6 := x5.go g6 ⟨a6, nw6, b6, c6⟩
  exact q at_ x y v I6 H6 hat1 hat2 hx1 (by omega) hy1 hy2 g6.i (cutH_l g6.h) g6.o g6.n x6.il x6.b kv6
end
end K84
namespace K84
open PySem PySem.Spec PyProof.Rows L2 KD
section
variable {K : PySem.W.Frag} {x : Str} {st : Stmt} {f : Addr} {fd : FuncData} {ps ks : List Str}
/-- g orders the keywords' values as the parameters stand -/
theorem kbn_of (F : FunD K x x (defArgs st) (defBody st) (defScope st) [] [] f fd) (g : {α : Type} → List α → List α → List α)
    (h : ∀ (kV doc pm : Value) (an : Option Addr) (cdv ct : Value) (us ws : List Value), us.length = 0 → ws.length = ks.length → bindArgs (PySem.W.fnOf x x (defArgs st) (defBody st) (defScope st) .none kV doc pm an cdv ct) ⟨us, ks.zip ws⟩ = pure (ps.zip (g us ws)))
    (hrel : ∀ {vs zs : List V} {us ws : List Value}, Vals vs us → Vals zs ws → Vals (g vs zs) (g us ws)) : KBn K fd ps 0 ks g g := by
  obtain ⟨oc, od, dV, kV, doc, pm, an, cdv, ct, osl, rfl, lk, hcd, hD, hK⟩ := F.ex
  rcases hD with ⟨_, rfl⟩ | ⟨e, _⟩
  · exact ⟨fun s us ws X l1 l2 => .of_eq (h kV doc pm an cdv ct us ws l1 l2), fun r1 r2 => hrel r1 r2⟩
  · exact absurd rfl e
end
def flip2 {α : Type} (us ws : List α) : List α := match ws with | [a, b] => [b, a] | l => l
def flip3 {α : Type} (us ws : List α) : List α := match ws with | [a, b, c] => [c, b, a] | l => l
theorem flip2_rel {vs zs : List V} {us ws : List Value} (h1 : Vals vs us) (h2 : Vals zs ws) : Vals (flip2 vs zs) (flip2 us ws) := by
  cases h2 with
  | nil => exact .nil
  | cons a b =>
    cases b with
    | nil => exact .cons a .nil
    | cons b c =>
      cases c with
      | nil => exact .cons b (.cons a .nil)
      | cons c d => exact .cons a (.cons b (.cons c d))
theorem flip3_rel {vs zs : List V} {us ws : List Value} (h1 : Vals vs us) (h2 : Vals zs ws) : Vals (flip3 vs zs) (flip3 us ws) := by
  cases h2 with
  | nil => exact .nil
  | cons a b =>
    cases b with
    | nil => exact .cons a .nil
    | cons b c =>
      cases c with
      | nil => exact .cons a (.cons b .nil)
      | cons c d =>
        cases d with
        | nil => exact .cons c (.cons b (.cons a .nil))
        | cons d e => exact .cons a (.cons b (.cons c (.cons d e)))
section
variable {X : Cx} {k j : Nat} {x : Str} {ps : List Str} {st : Stmt} {sp : Sp} {p pos : Pos} {tk : TA} {kws : List Keyword}
theorem pe_kw2 {a b : Str} (c : Cal X.prog X.w X.K X.mg X.base k x ps st sp) (hr : Room j X.A) (hk : k ≤ j) (hg : Gl X x)
    (h : ∀ (kV doc pm : Value) (an : Option Addr) (cdv ct : Value) (us ws : List Value), us.length = 0 → ws.length = [a, b].length → bindArgs (PySem.W.fnOf x x (defArgs st) (defBody st) (defScope st) .none kV doc pm an cdv ct) ⟨us, [a, b].zip ws⟩ = pure (ps.zip (flip2 us ws)))
    (hkw : PK X kws tk) (hall : (backToKw pos (keywordEach kws X.env)).all (·.1.isSome) = true := by rfl) (hks : (backToKw pos (keywordEach kws X.env)).filterMap (·.1) = [a, b] := by rfl)
    (hdb : (x == ("__debug__" : Str)) = false := by decide) (hpl : ((backTo pos (starEach [] X.env)).any (·.1) || (backToKw pos (keywordEach kws X.env)).any (·.1.isNone)) = false := by rfl) :
    PE X (.Call (.Name x p) [] kws pos) (tCallN 0 2 sp flip2 E0 tNil tk) := by
  obtain ⟨f, fd, F, hm, kp, _, FD⟩ := c.ex
  exact pe_kw (F.mono hk) hr hg hm kp (kbn_of (ks := [a, b]) FD flip2 h flip2_rel) hkw hall hks hdb hpl
theorem pe_kw3 {a b d : Str} (c : Cal X.prog X.w X.K X.mg X.base k x ps st sp) (hr : Room j X.A) (hk : k ≤ j) (hg : Gl X x)
    (h : ∀ (kV doc pm : Value) (an : Option Addr) (cdv ct : Value) (us ws : List Value), us.length = 0 → ws.length = [a, b, d].length → bindArgs (PySem.W.fnOf x x (defArgs st) (defBody st) (defScope st) .none kV doc pm an cdv ct) ⟨us, [a, b, d].zip ws⟩ = pure (ps.zip (flip3 us ws)))
    (hkw : PK X kws tk) (hall : (backToKw pos (keywordEach kws X.env)).all (·.1.isSome) = true := by rfl) (hks : (backToKw pos (keywordEach kws X.env)).filterMap (·.1) = [a, b, d] := by rfl)
    (hdb : (x == ("__debug__" : Str)) = false := by decide) (hpl : ((backTo pos (starEach [] X.env)).any (·.1) || (backToKw pos (keywordEach kws X.env)).any (·.1.isNone)) = false := by rfl) :
    PE X (.Call (.Name x p) [] kws pos) (tCallN 0 3 sp flip3 E0 tNil tk) := by
  obtain ⟨f, fd, F, hm, kp, _, FD⟩ := c.ex
  exact pe_kw (F.mono hk) hr hg hm kp (kbn_of (ks := [a, b, d]) FD flip3 h flip3_rel) hkw hall hks hdb hpl
end
section
variable {σ : L2.St} {H I J : Hp} {ta : TA}
theorem ed_kwI {α : Type} {args : α → List PyData} {pre : α → Prop} {res : α → PyData} {n : Int} {ds : List PyData} {m : Nat} {g : List V → List V → List V} (a : α) (hs : res a = .int n) (hp : pre a) (h : Ea ta σ H J ds) (hm : ds.length = m) (hg : ∀ {I2 zs}, IsAll I2 zs ds → IsAll I2 (g [] zs) (args a)) (ej : Ex J H) : Ed (tCallN 0 m (spOf args pre res) g E0 tNil ta) σ H I (.int n) := fun H1 e1 b Q q => by
  refine h H1 e1 (ej.trans e1) _ fun vs I2 H2 a1 a2 a3 nw k => ⟨rfl, by rw [k.length, hm], a, I2, a3, hg k, hp, fun v I3 H3 b1 b2 b3 n2 k2 => ?_⟩
  rw [hs] at k2
  cases k2
  exact q _ I H3 (Ex.refl _) (a2.trans b2) (b.trans (a2.trans b2)) (New.refl _ _) (.int _)
theorem ed_kwB {α : Type} {args : α → List PyData} {pre : α → Prop} {res : α → PyData} {n : Bool} {ds : List PyData} {m : Nat} {g : List V → List V → List V} (a : α) (hs : res a = .bool n) (hp : pre a) (h : Ea ta σ H J ds) (hm : ds.length = m) (hg : ∀ {I2 zs}, IsAll I2 zs ds → IsAll I2 (g [] zs) (args a)) (ej : Ex J H) : Ed (tCallN 0 m (spOf args pre res) g E0 tNil ta) σ H I (.bool n) := fun H1 e1 b Q q => by
  refine h H1 e1 (ej.trans e1) _ fun vs I2 H2 a1 a2 a3 nw k => ⟨rfl, by rw [k.length, hm], a, I2, a3, hg k, hp, fun v I3 H3 b1 b2 b3 n2 k2 => ?_⟩
  rw [hs] at k2
  cases k2
  exact q _ I H3 (Ex.refl _) (a2.trans b2) (b.trans (a2.trans b2)) (New.refl _ _) (.bl _)
theorem ed_kwD {α : Type} {args : α → List PyData} {pre : α → Prop} {res : α → PyData} {ds : List PyData} {m : Nat} {g : List V → List V → List V} (a : α) (hp : pre a) (h : Ea ta σ H I ds) (hm : ds.length = m) (hg : ∀ {I2 zs}, IsAll I2 zs ds → IsAll I2 (g [] zs) (args a)) : Ed (tCallN 0 m (spOf args pre res) g E0 tNil ta) σ H I (res a) := fun H1 e1 b Q q => by
  refine h H1 e1 b _ fun vs I2 H2 a1 a2 a3 nw k => ⟨rfl, by rw [k.length, hm], a, I2, a3, hg k, hp, fun v I3 H3 b1 b2 b3 n2 k2 => ?_⟩
  exact q v I3 H3 (a1.trans b1) (a2.trans b2) b3 (nw.trans n2 a2) k2
theorem flip2_all {I : Hp} {zs : List V} {d1 d2 : PyData} (h : IsAll I zs [d1, d2]) : IsAll I (flip2 [] zs) [d2, d1] := by
  obtain ⟨v1, v2, rfl, k1, k2⟩ := isAll2 h
  exact .cons k2 (.cons k1 .nil)
theorem flip3_all {I : Hp} {zs : List V} {d1 d2 d3 : PyData} (h : IsAll I zs [d1, d2, d3]) : IsAll I (flip3 [] zs) [d3, d2, d1] := by
  obtain ⟨v1, v2, v3, rfl, k1, k2, k3⟩ := isAll3 h
  exact .cons k3 (.cons k2 (.cons k1 .nil))
end
end K84
namespace KD
open PySem PySem.Spec PyProof.Rows L2
theorem loop_v {K : PySem.W.Frag} {g : TG} {tu : TS} {D : Ends} {σ : L2.St} {I2 H2 : Hp} {v : V} {ds : List PyData} (kv : Is I2 v (.list ds)) (e : Ex I2 H2) (Pv : Nat → L2.St → Hp → Prop) (hI : ∀ i σ' H', Pv i σ' H' → Ex I2 H') (h0 : Pv 0 σ H2)
    (hs : ∀ i d v σ' H', ds[i]? = some d → Is I2 v d → Pv i σ' H' → g v σ' H' fun σ2 H2 => tu { D with nx := Pv (i + 1), ct := Pv (i + 1), bk := D.nx } σ2 H2) (hd : ∀ σ' H', Pv ds.length σ' H' → D.nx σ' H') :
    ∃ a, v = .ref a ∧ (∃ xs, SqL K H2 a xs) ∧ ∃ W : Nat → Nat → L2.St → Hp → Prop, (∃ m, W 0 m σ H2) ∧ ∀ i m σ H, W i m σ H →
      ((Itl K a).stop i H ∧ D.nx σ H) ∨ ((Itl K a).go i H ∧ ∃ N : L2.St → Hp → Prop, (∀ σ' H', N σ' H' → ∃ m', m' < m ∧ W (i + 1) m' σ' H') ∧ ∀ x H', (Itl K a).yld i H x H' → g x σ H' fun σ2 H2 => tu { D with nx := N, ct := N, bk := D.nx } σ2 H2) := by
  cases kv with
  | @lst a xs _ ka kb =>
    refine ⟨a, rfl, ⟨xs, SqL.of (e _ _ ka)⟩, for_list (xs := xs) Pv h0 (fun i σ' H' _ p => SqL.of (hI _ _ _ p _ _ ka)) (fun i x σ' H' hx p => ?_) (fun σ' H' p => hd σ' H' (by rw [← kb.length]; exact p))⟩
    obtain ⟨d, hd', kd⟩ := kb.get' hx
    exact hs i d x σ' H' hd' kd p
theorem ed_ownAt {K : PySem.W.Frag} {σ : L2.St} {H I : Hp} {l : Addr} {xs : List V} {ds : List PyData} {d : PyData} {tb : TE} {i : Nat} {k : Int} (a : Own I H l xs) (b : IsAll I xs ds) (ei : Ex I H) (hs : σ[i]? = some (some (.ref l))) (hb : Ed tb σ H I (.int k)) (h : atI ds k = some d) : Ed (tOp (rIxL K) (tVar i) tb) σ H I d := fun H1 e1 bb Q q =>
  ⟨_, hs, hb.int ei H1 e1 _ fun H2 e2 => by
    obtain ⟨w, hw, kw⟩ := b.at_ h
    exact ⟨_, _, k, w, rfl, rfl, SqL.of (e2 _ _ (e1 _ _ a.h)), hw, q w I H2 (Ex.refl _) e2 (bb.trans e2) (New.refl _ _) kw⟩⟩
theorem Gb.stepL {l : Addr} {I0 H0 I H I2 H2 : Hp} {n m : Nat} (x : Gb l I0 H0 I H n) (a : Ex I I2) (b : ExL l H H2) (c : Ex I2 H2) (nw : New I (cutH H l) I2) (il : I2 l = none) (bx : BoxAt H2 l m) : Gb l I0 H0 I2 H2 m := by
  have hne : ∀ {a o}, cutH H0 l a = some o → a ≠ l := fun {a o} z q => by
    unfold cutH at z
    rw [if_pos q] at z
    cases z
  refine ⟨⟨x.g.i.trans a, fun y o h => ?_, fun y o z => b y o (hne z) (x.g.h y o z), c⟩, il, bx⟩
  rcases nw y o h with z | z
  · exact x.g.n y o z
  · right
    cases q : cutH H0 l y with
    | none => rfl
    | some u =>
      have h1 := x.g.h y u q
      unfold cutH at z
      rw [if_neg (hne q), h1] at z
      cases z
theorem ints_lay : ∀ ns : List Int, PyData.canLayAll0 (ns.map PyData.int) = true ∧ PyData.depthAll (ns.map PyData.int) = 0 ∧ noDs (ns.map PyData.int) = true ∧ PyData.eqvAll (ns.map PyData.int) (ns.map PyData.int) = true
  | [] => ⟨rfl, by simp [PyData.depthAll], rfl, by simp [PyData.eqvAll]⟩
  | n :: ns => by
    obtain ⟨h1, h2, h3, h4⟩ := ints_lay ns
    refine ⟨?_, ?_, ?_, ?_⟩
    · simp [PyData.canLayAll0, PyData.canLay0, h1]
    · simp [PyData.depthAll, PyData.depth, h2]
    · simp [noDs, noD, h3]
    · simp [PyData.eqvAll, PyData.eqv, h4]
theorem ints_shaped (ns : List Int) : SeqAt.shaped (.list (ns.map PyData.int)) = true := by
  obtain ⟨h1, h2, _⟩ := ints_lay ns
  unfold SeqAt.shaped
  simp [PyData.canLay0, PyData.depth, h1, h2]
/-- a, b, c = a call that gives a tuple of scalars -/
theorem q_tri {I0 H0 I H : Hp} {σ : L2.St} {D : Ends} {te : TE} {tz : TS} {i1 i2 i3 : Nat} {K : PySem.W.Frag} {b : Bool} {m n : Int} (g : Go I0 H0 I H) (h : Ed te σ H I (.tuple [.bool b, .int m, .int n])) (k : ∀ H2, Go I0 H0 I H2 → Ex H H2 → tz D (((σ.set i1 (some (.bl b))).set i2 (some (.int m))).set i3 (some (.int n))) H2) : tSeq (tAsg te (gTup K 3 (gCons (gName i1) (gCons (gName i2) (gCons (gName i3) gNil))))) tz D σ H :=
  h H (Ex.refl _) g.o _ fun v I2 H2 a1 a2 a3 nw kv => by
    cases kv with
    | @tup p xs _ kp kx =>
      obtain ⟨v1, v2, v3, rfl, k1, k2, k3⟩ := isAll3 kx
      cases k1
      cases k2
      cases k3
      exact ⟨p, _, rfl, SqT.of (a3 _ _ kp), rfl, _, _, rfl, _, _, rfl, _, _, rfl, rfl, k H2 (g.step a2) a2⟩
end KD
namespace K84
open PySem PySem.Spec PyProof.Rows L2 KD
local macro_rules
  | `(tactic| walk_at "ed") => `(tactic| first
    | with_reducible assumption
    | with_reducible exact Ex.refl _
    | (with_reducible apply Go.o; with_reducible assumption)
    | with_reducible exact ed_int
    | with_reducible exact ed_bl
    | with_reducible exact ed_str
    | with_reducible exact ed_non
    | ((with_reducible apply ed_var) <;> (first | (exact rfl) | exact Is.int _ | exact Is.bl _ | exact Is.str _ | exact Is.non | with_reducible assumption))
    | ((with_reducible apply ad_add) <;> walk_at "ed")
    | ((with_reducible apply ad_sub) <;> walk_at "ed")
    | ((with_reducible apply ad_lt) <;> walk_at "ed")
    | ((with_reducible apply ad_le) <;> walk_at "ed")
    | ((with_reducible apply ad_gt) <;> walk_at "ed")
    | ((with_reducible apply ad_ge) <;> walk_at "ed")
    | ((with_reducible apply ad_eqI) <;> walk_at "ed")
    | ((with_reducible apply ad_neI) <;> walk_at "ed")
    | ((with_reducible apply ad_eqS) <;> walk_at "ed")
    | ((with_reducible apply ad_neS) <;> walk_at "ed")
    | ((with_reducible apply ad_notV) <;> walk_at "ed")
    | ((with_reducible apply ad_neg) <;> walk_at "ed")
    | ((with_reducible apply ad_lenL) <;> walk_at "ed")
    | ((with_reducible refine ad_tup ?_ ?_) <;> (first | walk_at "ed" | (simp only [List.length_cons, List.length_nil]; decide)))
    | ((with_reducible refine ad_lst ?_ ?_) <;> (first | walk_at "ed" | (simp only [List.length_cons, List.length_nil]; decide)))
    | ((with_reducible apply ea_cons) <;> walk_at "ed")
    | with_reducible exact ea_nil)

def leastI (ks : List Int) (c : Int) : Int := lrI (placesF ks).length c * (placesF ks).length - chI (c + lrI (placesF ks).length c) (c + 1)
def pRuns (ks costs : List Int) (c : Int) (ws : List Str) (v : Val) : Int := (pWalk ks c ws v).elim 0 fun s => runSum costs s.runs
structure Agree (ks : List Int) (c : Int) (due : Int) (v : Val) : Prop where
  ok : valOk v
  nice : valNice v
  und : (pWalk ks c W5 v).isSome = (lWalk ks c v true).1
  low : (lWalk ks c v true).1 = true → due ≤ (lWalk ks c v true).2.1
  cnt : (lWalk ks c v true).1 = true → pRuns ks ks c W5 v = (lWalk ks c v true).2.1
  pl : (pWalk (onesL ks.length) c W4 v).isSome = (lWalk ks c v false).1
  plu : (lWalk ks c v false).1 = true → (pWalk ks c W5 v).isSome = true
  plc : (lWalk ks c v false).1 = true → pRuns (onesL ks.length) (onesL ks.length) c W4 v = (lWalk ks c v false).2.2
  plk : (lWalk ks c v false).1 = true → pRuns ks ks c W5 v = (lWalk ks c v false).2.1
structure Facts (S : List Int → Nat → Int → Prop) (ks : List Int) (c : Nat) (plain res : List Cm) : Prop where
  good : GoodKinds ks
  c1 : 1 ≤ c
  c2 : c ≤ 40
  m1 : 0 ≤ manyF ks
  m2 : manyF ks ≤ 100
  due : leastI ks c = dueF ks c
  und : (1 ≤ ks.length ∧ ks.length ≤ 60 ∧ 1 ≤ (placesF ks).length ∧ (placesF ks).length ≤ 60 ∧ (∀ x ∈ placesF ks, 0 ≤ x ∧ x ≤ 100) ∧ 1 ≤ c ∧ c ≤ 40) ∧ plain.length ≤ 1000 ∧ schO (placesF ks).length c = some plain ∧ undoO ks plain = some res
  r1 : 1 ≤ res.length
  r2 : res.length ≤ 1000
  rm : ∀ cm ∈ res, CmM cm ∧ cmNice cm
  smp : Smp 2 (csD res)
  walk : (lWalk ks c (.ls res) true).1 = true ∧ (lWalk ks c (.ls res) true).2.1 = dueF ks c
  near : ∀ at_ x y : Int, 0 ≤ at_ → at_ < (res.length : Int) → 0 ≤ x → x ≤ c → 0 ≤ y → y < c → ∀ v ∈ nearV ks.length res at_ x y, Agree ks c (dueF ks c) v
  sea : ks.length < 5 → c < 3 → S ks c (dueF ks c)
section
variable {P : Program} {w : World} {K : PySem.W.Frag} {mg : Str → Option Value} {base : Heap} {C : Addr}
abbrev sp_sea (S : List Int → Nat → Int → Prop) : Sp := spOf (fun a : List Int × Nat × Int => [kD a.1, .int a.2.1]) (fun a => S a.1 a.2.1 a.2.2) fun a => .int a.2.2
abbrev CSEA (P : Program) (w : World) (K : PySem.W.Frag) (mg : Str → Option Value) (base : Heap) (S : List Int → Nat → Int → Prop) : Prop := Cal P w K mg base 2 "_law_searched" ["kinds", "c"] s__law_searched (sp_sea S)
abbrev N__law_kinds_right : List Str := ["box", "kinds", "c", "by_name", "due", "given", "found", "best", "value", "is_one", "count", "runs", "told", "plain", "cost", "all_runs", "ones"]
theorem sc__law_kinds_right : FnScope N__law_kinds_right ["box", "kinds", "c", "by_name"] (defScope s__law_kinds_right) := ⟨rfl, rfl, rfl, by decide +kernel, rfl, by decide +kernel, by decide +kernel⟩
abbrev sp__law_kinds_right (S : List Int → Nat → Int → Prop) : Sp := fun vs H Q _ => ∃ l n I ks c plain res v2 b, vs = [.ref l, v2, .int (Nat.cast c), .bl b] ∧ Ex I H ∧ I l = none ∧ BoxAt H l n ∧ n ≤ 900000 ∧ Is I v2 (kD ks) ∧ Facts S ks c plain res ∧ ∀ H2, ExL l H H2 → BoxAt H2 l (n + 3) → Q (.bl true) H2
theorem smp_int (n : Int) : Smp 2 (.int n) := trivial
theorem smp_bl (n : Bool) : Smp 2 (.bool n) := trivial
theorem ok__law_kinds_right {S : List Int → Nat → Int → Prop} (T : Txt K mg C) (F : Fn K mg "_law_kinds_right" s__law_kinds_right) (c__law_due : Cal P w K mg base 2 "_law_due" ["kinds", "c"] s__law_due sp__law_due) (c__law_searched : CSEA P w K mg base S) (c_least_count : Cal P w K mg base 4 "least_count" ["kinds", "c"] s_least_count sp_least_count) (c_best_undoing : Cal P w K mg base 5 "best_undoing" ["kinds", "c"] s_best_undoing sp_best_undoing) (c__law_same : CLS P w K mg base 2) (c__law_walked : Cal P w K mg base 1 "_law_walked" ["kinds", "c", "schedule", "undoes"] s__law_walked sp__law_walked) (c__law_near : Cal P w K mg base 2 "_law_near" ["box", "kinds", "c", "best"] s__law_near sp__law_near)
    (c_is_undo_schedule : Cal P w K mg base 6 "is_undo_schedule" ["kinds", "c", "value"] s_is_undo_schedule sp_is_undo_schedule) (c_undo_count : Cal P w K mg base 6 "undo_count" ["kinds", "c", "schedule"] s_undo_count sp_undo_count) (c_is_schedule : Cal P w K mg base 6 "is_schedule" ["costs", "c", "value"] s_is_schedule sp_is_schedule) (c_schedule_cost : Cal P w K mg base 6 "schedule_cost" ["costs", "c", "schedule"] s_schedule_cost sp_schedule_cost) : Cal P w K mg base 7 "_law_kinds_right" ["box", "kinds", "c", "by_name"] s__law_kinds_right (sp__law_kinds_right S) := by
  refine cal_mk F sc__law_kinds_right (fun _ _ _ _ _ _ us hl => match us, hl with | [_, _, _, _], _ => rfl) (fun vs H Q E h => ?_) (fun f cdv A outer s H vs Q E hr h => ?_)
  · obtain ⟨l, n, I, ks, c, plain, res, v2, b, rfl, _⟩ := h
    rfl
  obtain ⟨l, n, I, ks, c, plain, res, v2, b, rfl, e, hil, hbx, hn, hk2, FF, q⟩ := h
  have hu64 : (A.deeper (envOfC "_law_kinds_right" (defScope s__law_kinds_right) s.heap.objs.size f cdv)).units + 64 < cLine := by
    have := hr.un
    omega
  refine ⟨_, (pss_cons (ps_set (i := 4) sc__law_kinds_right.nd rfl (Or.inl rfl) (pe_cal c__law_due hr (by first | decide | exact Nat.le_refl _) rfl (pa_cons (pv 1) (pa_cons (pv 2) pa_nil)))) (pss_cons (ps_if (PW.pt (pw_and (pt_cmpR op_lt (pe_callB call_len_seq (by rfl) T.b_len (by decide +kernel) (pa_cons (pv 1) pa_nil)) pe_int (nomark _)) (pw_and (pt_cmpR op_lt (pv 2) pe_int (nomark _)) (pw_and1 (pt_cmpR op_ne (pe_cal c__law_searched hr (by first | decide | exact Nat.le_refl _) rfl (pa_cons (pv 1) (pa_cons (pv 2) pa_nil))) (pv 4) (nomark _)))))) (pss_one (ps_ret pe_bl)) pss_nil) (pss_cons (ps_set (i := 5) sc__law_kinds_right.nd rfl (Or.inl rfl) (pe_callTy call_list_of (by rfl) T.b_list (by decide +kernel) (pa_cons (pv 1) pa_nil))) (pss_cons (ps_set (i := 6) sc__law_kinds_right.nd rfl (Or.inl rfl) (pe_ifExp (pt_val (pv 3)) (pe_lst (pa_cons (pe_kw2 (a := "c") (b := "kinds") c_least_count hr (by decide) rfl (fun _ _ _ _ _ _ us ws h1 h2 => match us, ws, h1, h2 with | [], [_, _], _, _ => rfl) (pk_cons (pv 2) (pk_cons (pv 5) pk_nil))) (pa_cons (pe_kw2 (a := "c") (b := "kinds") c_best_undoing hr (by decide) rfl (fun _ _ _ _ _ _ us ws h1 h2 => match us, ws, h1, h2 with | [], [_, _], _, _ => rfl) (pk_cons (pv 2) (pk_cons (pv 1) pk_nil))) pa_nil))) (pe_lst (pa_cons (pe_cal c_least_count hr (by first | decide | exact Nat.le_refl _) rfl (pa_cons (pv 5) (pa_cons (pv 2) pa_nil))) (pa_cons (pe_cal c_best_undoing hr (by first | decide | exact Nat.le_refl _) rfl (pa_cons (pv 1) (pa_cons (pv 2) pa_nil))) pa_nil))))) (pss_cons (ps_if (PW.pt (pw_or (pt_not (pt_val (pe_cal c__law_same hr (by first | decide | exact Nat.le_refl _) rfl (pa_cons (pe_ix ix_list (pv 6) pe_int (fun _ _ => rfl)) (pa_cons (pv 4) pa_nil))))) (pw_or (pt_cmpR (op_neD hu64) (pv 5) (pv 1) (nomark _)) (pw_or (pt_not (pt_val (pe_callB call_isi (by rfl) T.b_isinstance (by decide +kernel) (pa_cons (pe_ix ix_list (pv 6) pe_int (fun _ _ => rfl)) (pa_cons (pe_bltn (v := .ty "list") (by rfl) T.b_list (by decide +kernel) rfl) pa_nil))))) (pw_or1 (pt_cmpR (op_neD hu64) (pe_slice sl_tupA (pe_cal c__law_walked hr (by first | decide | exact Nat.le_refl _) rfl (pa_cons (pv 1) (pa_cons (pv 2) (pa_cons (pe_ix ix_list (pv 6) pe_int (fun _ _ => rfl)) (pa_cons pe_bl pa_nil))))) po_none (po_some pe_int)) (pe_tup (pa_cons pe_bl (pa_cons (pv 4) pa_nil))) (nomark _))))))) (pss_one (ps_ret pe_bl)) pss_nil) (pss_cons (ps_set (i := 7) sc__law_kinds_right.nd rfl (Or.inl rfl) (pe_callTy call_list_of (by rfl) T.b_list (by decide +kernel) (pa_cons (pe_ix ix_list (pv 6) pe_int (fun _ _ => rfl)) pa_nil))) (pss_cons (ps_for PassesOwn.never rfl (pi_list (pe_cal c__law_near hr (by first | decide | exact Nat.le_refl _) rfl (pa_cons (pv 0) (pa_cons (pv 1) (pa_cons (pv 2) (pa_cons (pv 7) pa_nil)))))) (pg_name (i := 8) sc__law_kinds_right.nd rfl (Or.inl rfl)) (pss_cons (ps_asg (pe_cal c__law_walked hr (by first | decide | exact Nat.le_refl _) rfl (pa_cons (pv 1) (pa_cons (pv 2) (pa_cons (pv 8) (pa_cons pe_bl pa_nil))))) (pg_tup (by rfl) (pgs_cons (pg_name (i := 9) sc__law_kinds_right.nd rfl (Or.inl rfl)) (pgs_cons (pg_name (i := 10) sc__law_kinds_right.nd rfl (Or.inl rfl)) (pgs_cons (pg_name (i := 11) sc__law_kinds_right.nd rfl (Or.inl rfl)) pgs_nil))))) (pss_cons (ps_set (i := 12) sc__law_kinds_right.nd rfl (Or.inl rfl) (pe_ifExp (pt_val (pv 3)) (pe_kw3 (a := "value") (b := "c") (d := "kinds") c_is_undo_schedule hr (by decide) rfl (fun _ _ _ _ _ _ us ws h1 h2 => match us, ws, h1, h2 with | [], [_, _, _], _, _ => rfl) (pk_cons (pv 8) (pk_cons (pv 2) (pk_cons (pv 1) pk_nil)))) (pe_cal c_is_undo_schedule hr (by first | decide | exact Nat.le_refl _) rfl (pa_cons (pv 1) (pa_cons (pv 2) (pa_cons (pv 8) pa_nil)))))) (pss_cons (ps_if (PW.pt (pw_or (pt_not (pt_val (pe_cal c__law_same hr (by first | decide | exact Nat.le_refl _) rfl (pa_cons (pv 12) (pa_cons (pv 9) pa_nil))))) (pw_or1 (PW.pt (pw_and (pt_val (pv 9)) (pw_and1 (pt_cmpR op_lt (pv 10) (pv 4) (nomark _)))))))) (pss_one (ps_ret pe_bl)) pss_nil) (pss_cons (ps_if (PW.pt (pw_and (pt_val (pv 9)) (pw_and1 (pt_not (pt_val (pe_cal c__law_same hr (by first | decide | exact Nat.le_refl _) rfl (pa_cons (pe_ifExp (pt_val (pv 3)) (pe_kw3 (a := "schedule") (b := "c") (d := "kinds") c_undo_count hr (by decide) rfl (fun _ _ _ _ _ _ us ws h1 h2 => match us, ws, h1, h2 with | [], [_, _, _], _, _ => rfl) (pk_cons (pv 8) (pk_cons (pv 2) (pk_cons (pv 1) pk_nil)))) (pe_cal c_undo_count hr (by first | decide | exact Nat.le_refl _) rfl (pa_cons (pv 1) (pa_cons (pv 2) (pa_cons (pv 8) pa_nil))))) (pa_cons (pv 10) pa_nil)))))))) (pss_one (ps_ret pe_bl)) pss_nil) (pss_cons (ps_asg (pe_cal c__law_walked hr (by first | decide | exact Nat.le_refl _) rfl (pa_cons (pv 1) (pa_cons (pv 2) (pa_cons (pv 8) (pa_cons pe_bl pa_nil))))) (pg_tup (by rfl) (pgs_cons (pg_name (i := 13) sc__law_kinds_right.nd rfl (Or.inl rfl)) (pgs_cons (pg_name (i := 14) sc__law_kinds_right.nd rfl (Or.inl rfl)) (pgs_cons (pg_name (i := 15) sc__law_kinds_right.nd rfl (Or.inl rfl)) pgs_nil))))) (pss_cons (ps_set (i := 16) sc__law_kinds_right.nd rfl (Or.inl rfl) (pe_op op_rep (pe_lst (pa_cons pe_int pa_nil)) (pe_callB call_len_seq (by rfl) T.b_len (by decide +kernel) (pa_cons (pv 1) pa_nil)))) (pss_cons (ps_if (pt_not (pt_val (pe_cal c__law_same hr (by first | decide | exact Nat.le_refl _) rfl (pa_cons (pe_ifExp (pt_val (pv 3)) (pe_cal c_is_schedule hr (by first | decide | exact Nat.le_refl _) rfl (pa_cons (pv 16) (pa_cons (pv 2) (pa_cons (pv 8) pa_nil)))) (pe_kw3 (a := "value") (b := "c") (d := "costs") c_is_schedule hr (by decide) rfl (fun _ _ _ _ _ _ us ws h1 h2 => match us, ws, h1, h2 with | [], [_, _, _], _, _ => rfl) (pk_cons (pv 8) (pk_cons (pv 2) (pk_cons (pv 16) pk_nil))))) (pa_cons (pv 13) pa_nil))))) (pss_one (ps_ret pe_bl)) pss_nil) (pss_cons (ps_if (PW.pt (pw_and (pt_val (pv 13)) (pw_and1 (pt_not (pt_val (pe_cal c__law_same hr (by first | decide | exact Nat.le_refl _) rfl (pa_cons (pe_lst (pa_cons (pe_cal c_schedule_cost hr (by first | decide | exact Nat.le_refl _) rfl (pa_cons (pv 16) (pa_cons (pv 2) (pa_cons (pv 8) pa_nil)))) (pa_cons (pe_cal c_undo_count hr (by first | decide | exact Nat.le_refl _) rfl (pa_cons (pv 1) (pa_cons (pv 2) (pa_cons (pv 8) pa_nil)))) pa_nil))) (pa_cons (pe_lst (pa_cons (pv 15) (pa_cons (pv 14) pa_nil))) pa_nil)))))))) (pss_one (ps_ret pe_bl)) pss_nil) (pss_one (ps_set (i := 3) sc__law_kinds_right.nd rfl (Or.inl rfl) (pe_not (pv 3))))))))))))) (pss_cons (ps_expr (pe_bm PySem.F.plainAttrs_list PySem.F.slot_list_append PySem.F.type_list_append mt_append (pv 6) (pa_cons pe_str pa_nil))) (pss_one (ps_ret (pe_cal c__law_same hr (by first | decide | exact Nat.le_refl _) rfl (pa_cons (pe_cal c_best_undoing hr (by first | decide | exact Nat.le_refl _) rfl (pa_cons (pv 1) (pa_cons (pv 2) pa_nil))) (pa_cons (pv 7) pa_nil))))))))))))), ?_⟩
  have hc1 := FF.c1
  have hc2 := FF.c2
  obtain ⟨hg1, hg2, hg3⟩ := FF.good
  have hund := FF.und
  have x0 := Gb.start e hil hbx
  have g0 : Go I (cutH H l) I H := x0.g
  refine q_int g0 (n := dueF ks c) (ed_callI (J := I) (ks, (c : Int)) (by rfl) (by exact ⟨hg1, FF.m1, FF.m2, by omega, by omega⟩) (ea_cons (ed_var rfl hk2) (ea_cons (ed_var rfl (.int _)) ea_nil)) e) fun H1 g1 e1 => ?_
  refine q_when g1 (b := decide ((ks.length : Int) < 5) && (decide ((c : Int) < 3) && false)) (et_and (Et.is (et_test (J := I) (ad_lt (ed_lenL (J := I) (ed_var rfl hk2) g1.o) ed_int g1.o) g1.o) (by rw [List.length_map])) fun h5 => et_and (et_test (J := I) (ad_lt (ed_var rfl (.int _)) ed_int g1.o) g1.o) fun h3 => Et.is (et_test (J := I) (ad_neI (ed_callI (J := I) (ks, c, dueF ks c) (by rfl) (by exact FF.sea (by have := of_decide_eq_true h5; omega) (by have := of_decide_eq_true h3; omega)) (ea_cons (ed_var rfl hk2) (ea_cons (ed_var rfl (.int _)) ea_nil)) g1.o) (ed_var rfl (.int _)) g1.o) g1.o) (by simp)) (fun z => by simp at z) fun _ H2 g2 e2 => ?_
  refine q_set (d := kD ks) g2 (ed_listL (ed_var rfl hk2)) fun vg I3 H3 g3 g3' kg => ?_
  have k23 := hk2.mono g3'.i
  have hdl : ∀ {H4 : Hp} {σ : L2.St}, Go I (cutH H l) I3 H4 → σ[1]? = some (some v2) → σ[2]? = some (some (.int c)) → σ[5]? = some (some vg) → Ea (tCons (tCallN 0 2 sp_least_count flip2 E0 tNil (tCons (tVar 2) (tCons (tVar 5) tNil))) (tCons (tCallN 0 2 sp_best_undoing flip2 E0 tNil (tCons (tVar 2) (tCons (tVar 1) tNil))) tNil)) σ H4 I3 [.int (leastI ks c), csD res] := fun g s1 s2 s5 => ea_cons (ed_kwI (J := I3) (ks, (c : Int)) (by rfl) (by exact ⟨⟨hg1, hg2, hg3⟩, by omega, by omega⟩) (ea_cons (ed_var s2 (.int _)) (ea_cons (ed_var s5 kg) ea_nil)) rfl flip2_all g.o) (ea_cons (ed_kwD (ks, c, plain, res) (by exact ⟨⟨hg1, hg2, hg3⟩, hund⟩) (ea_cons (ed_var s2 (.int _)) (ea_cons (ed_var s1 k23) ea_nil)) rfl flip2_all) ea_nil)
  have hdl2 : ∀ {H4 : Hp} {σ : L2.St}, Go I (cutH H l) I3 H4 → σ[1]? = some (some v2) → σ[2]? = some (some (.int c)) → σ[5]? = some (some vg) → Ea (tCons (tCall sp_least_count [] E0 (tCons (tVar 5) (tCons (tVar 2) tNil))) (tCons (tCall sp_best_undoing [] E0 (tCons (tVar 1) (tCons (tVar 2) tNil))) tNil)) σ H4 I3 [.int (leastI ks c), csD res] := fun g s1 s2 s5 => ea_cons (ed_callI (J := I3) (ks, (c : Int)) (by rfl) (by exact ⟨⟨hg1, hg2, hg3⟩, by omega, by omega⟩) (ea_cons (ed_var s5 kg) (ea_cons (ed_var s2 (.int _)) ea_nil)) g.o) (ea_cons (ed_callD (ks, c, plain, res) (by exact ⟨⟨hg1, hg2, hg3⟩, hund⟩) (ea_cons (ed_var s1 k23) (ea_cons (ed_var s2 (.int _)) ea_nil))) ea_nil)
  refine q_newIf (ds := [.int (leastI ks c), csD res]) g3 (et_test (J := I3) (ed_var rfl (.bl b)) g3.o) (fun _ H4 g4 => hdl g4 rfl rfl rfl) (fun _ H4 g4 => hdl2 g4 rfl rfl rfl) (by show 2 ≤ 100000; decide) fun pf vf I4 H4 g4 g4' of4 kf4 hpf => ?_
  have hpf0 : (cutH H l) pf = none := g3.h.free hpf
  have x4 : Gb l I H I4 H4 n := by
    have y1 := (x0.go g1 ((Go.refl e).step e1)).go g2 ((Go.refl g1.o).step e2)
    exact (y1.go g3 g3').go g4 g4'
  have k24 := k23.mono g4'.i
  have kg4 := kg.mono g4'.i
  have hf0 : ∀ {σ : L2.St} {H5 : Hp}, Ex H4 H5 → σ[6]? = some (some (.ref pf)) → Ed (tOp (rIxL K) (tVar 6) (tC (.int 0))) σ H5 I4 (.int (leastI ks c)) := fun e h => ed_ownAt (of4.step e) kf4 (g4.o.trans e) h ed_int rfl
  have hf1 : ∀ {σ : L2.St} {H5 : Hp}, Ex H4 H5 → σ[6]? = some (some (.ref pf)) → Ed (tOp (rIxL K) (tVar 6) (tC (.int 1))) σ H5 I4 (csD res) := fun e h => ed_ownAt (of4.step e) kf4 (g4.o.trans e) h ed_int rfl
  have hlay : ∀ cm ∈ res, cmNice cm := fun cm h => (FF.rm cm h).2
  have hwalk : lWalk ks c (.ls res) true = (true, dueF ks c, (lWalk ks c (.ls res) true).2.2) := by
    obtain ⟨w1, w2⟩ := FF.walk
    exact Prod.ext w1 (Prod.ext w2 rfl)
  have hk100 : ks.length ≤ 100 := by omega
  refine q_when g4 (b := !true || (!true || (!true || !true))) (et_or (et_not (et_test (J := I4) (ed_callB (J := I4) (.int (leastI ks c)) (by rfl) (smp_int _) (ea_cons (hf0 (Ex.refl _) rfl) (ea_cons (ed_var rfl (by rw [FF.due]; exact .int _)) ea_nil)) g4.o) g4.o)) fun _ => et_or (Et.is (et_test (J := I4) (ed_neD (I := I4) (J := I4) (d1 := kD ks) (d2 := kD ks) (ints_lay ks).2.2.1 (ints_lay ks).2.2.1 (ints_shaped ks) (ints_shaped ks) (ed_var rfl kg4) (ed_var rfl k24) g4.o g4.o) g4.o) (by simp [PyData.eqv, (ints_lay ks).2.2.2])) fun _ => et_or (et_not (et_test (J := I4) (ed_isi (kit_list (csD res)) (hf1 (Ex.refl _) rfl) g4.o) g4.o)) fun _ => Et.is (et_test (J := I4) (ed_neD (I := I4) (J := I4) (d1 := .tuple [.bool true, .int (dueF ks c)]) (d2 := .tuple [.bool true, .int (dueF ks c)]) rfl rfl (by simp [SeqAt.shaped, PyData.canLay0, PyData.canLayAll0, PyData.depth, PyData.depthAll]) (by simp [SeqAt.shaped, PyData.canLay0, PyData.canLayAll0, PyData.depth, PyData.depthAll]) (ed_slT (ds := [.bool true, .int (dueF ks c), .int (lWalk ks c (.ls res) true).2.2]) (lo := none) (hi := some 2) (Ed.is (ed_callD (ks, (c : Int), Val.ls res, true) (by exact ⟨hk100, by show res.length ≤ 90000; have := FF.r2; omega, hlay⟩) (ea_cons (ed_var rfl (k24)) (ea_cons (ed_var rfl (.int _)) (ea_cons (hf1 (Ex.refl _) rfl) (ea_cons ed_bl ea_nil))))) (by show lrD (lWalk ks c (.ls res) true) = _; rw [hwalk]; rfl)) eo_none (eo_some (J := I4) ed_int g4.o)) (ad_tup (ds := [.bool true, .int (dueF ks c)]) (ea_cons ed_bl (ea_cons (ed_var rfl (.int _)) ea_nil)) (by show 2 ≤ 100000; decide)) g4.o g4.o) g4.o) (by simp [PyData.eqv, PyData.eqvAll])) (fun z => by cases z) fun _ H5 g5 e45 => ?_
  have of5 := of4.step e45
  refine q_set (d := csD res) g5 (ed_listL (hf1 e45 rfl)) fun vb I6 H6 g6 g6' kb => ?_
  have of6 := of5.go g6'
  have x6 : Gb l I H I6 H6 n := (x4.go g5 ((Go.refl g4.o).step e45)).go g6 g6'
  have k26 := k24.mono g6'.i
  have hnpl : pf ≠ l := by
    intro z
    obtain ⟨b0, b1, b2, b3, hh, _⟩ := x4.b
    have h4 := of4.h
    rw [z, hh] at h4
    have hl2 := kf4.length
    cases h4
    cases hl2
  -- the loop over the near values
  refine ⟨_, rfl, _, rfl, _, rfl, _, rfl, l, n, I6, ks, c, res, v2, vb, rfl, g6.o, x6.il, x6.b, hn, k26, kb, FF.r1, FF.r2, fun cm h => (FF.rm cm h).1, hg2, by omega, by omega, fun at_ x y v I7 H7 h1 h2 h3 h4 h5 h6 a7 b7 c7 nw7 il7 bx7 kv7 => ?_⟩
  have x7 := x6.stepL a7 b7 c7 nw7 il7 bx7
  have ip7 : I7 pf = none := by
    cases q : I7 pf with
    | none => rfl
    | some u =>
      rcases nw7 pf u q with z | z
      · rw [of6.i] at z; cases z
      · unfold cutH at z
        rw [if_neg hnpl, of6.h] at z
        cases z
  have of7 : Own I7 H7 pf vf := ⟨ip7, b7 pf _ hnpl of6.h⟩
  have k27 := k26.mono a7
  have kb7 := kb.mono a7
  refine loop_v kv7 c7 (fun i σ' H' => ∃ b' x8 x9 x10 x11 x12 x13 x14 x15 x16, σ' = [some (V.ref l), some v2, some (.int c), some (.bl b'), some (.int (dueF ks c)), some vg, some (.ref pf), some vb, x8, x9, x10, x11, x12, x13, x14, x15, x16] ∧ Go I (cutH H l) I7 H' ∧ Own I7 H' pf vf ∧ BoxAt H' l (n + 3)) ?_ ?_ ?_ ?_
  · rintro i σ' H' ⟨b', x8, x9, x10, x11, x12, x13, x14, x15, x16, _, g, _⟩
    exact g.o
  · exact ⟨b, none, none, none, none, none, none, none, none, none, rfl, x7.g, of7, bx7⟩
  · rintro i d v8 σ' H' hd kx ⟨b', x8, x9, x10, x11, x12, x13, x14, x15, x16, rfl, g, of8, bx8⟩
    obtain ⟨val, hval, rfl⟩ := map_get hd
    have AG := FF.near at_ x y h1 h2 h3 h4 h5 h6 val (List.mem_of_getElem? hval)
    have hlw : ∀ {H8 : Hp} {σ : L2.St} {u : Bool}, Go I (cutH H l) I7 H8 → σ[1]? = some (some v2) → σ[2]? = some (some (.int c)) → σ[8]? = some (some v8) → Ed (tCall sp__law_walked [] E0 (tCons (tVar 1) (tCons (tVar 2) (tCons (tVar 8) (tCons (tC (.bl u)) tNil))))) σ H8 I7 (lrD (lWalk ks c val u)) := fun {H8 σ u} g s1 s2 s8 => ed_callD (ks, (c : Int), val, u) (by exact ⟨hk100, AG.nice⟩) (ea_cons (ed_var s1 k27) (ea_cons (ed_var s2 (.int _)) (ea_cons (ed_var s8 kx) (ea_cons ed_bl ea_nil))))
    have hkg : GoodKinds ks := ⟨hg1, hg2, hg3⟩
    have hcc : (1 : Int) ≤ c ∧ (c : Int) ≤ 40 := by omega
    have hua : ∀ {H8 : Hp} {σ : L2.St}, σ[1]? = some (some v2) → σ[2]? = some (some (.int c)) → σ[8]? = some (some v8) → Ea (tCons (tVar 1) (tCons (tVar 2) (tCons (tVar 8) tNil))) σ H8 I7 [kD ks, .int c, valD val] := fun s1 s2 s8 => ea_cons (ed_var s1 k27) (ea_cons (ed_var s2 (.int _)) (ea_cons (ed_var s8 kx) ea_nil))
    have huk : ∀ {H8 : Hp} {σ : L2.St}, σ[1]? = some (some v2) → σ[2]? = some (some (.int c)) → σ[8]? = some (some v8) → Ea (tCons (tVar 8) (tCons (tVar 2) (tCons (tVar 1) tNil))) σ H8 I7 [valD val, .int c, kD ks] := fun s1 s2 s8 => ea_cons (ed_var s8 kx) (ea_cons (ed_var s2 (.int _)) (ea_cons (ed_var s1 k27) ea_nil))
    have huc : ∀ {H8 : Hp} {σ : L2.St}, (pWalk ks c W5 val).isSome = true → Go I (cutH H l) I7 H8 → σ[1]? = some (some v2) → σ[2]? = some (some (.int c)) → σ[8]? = some (some v8) → Ed (tCall sp_undo_count [] E0 (tCons (tVar 1) (tCons (tVar 2) (tCons (tVar 8) tNil)))) σ H8 I7 (.int (pRuns ks ks c W5 val)) := fun hs g s1 s2 s8 => ed_callI (J := I7) (ks, (c : Int), val) (by rfl) (by exact ⟨hkg, hcc, AG.ok, hs⟩) (hua s1 s2 s8) g.o
    generalize hr1 : lWalk ks c val true = r1
    generalize hr2 : lWalk ks c val false = r2
    obtain ⟨o1, n1, m1⟩ := r1
    obtain ⟨o2, n2, m2⟩ := r2
    have A1 := AG.und; have A2 := AG.low; have A3 := AG.cnt; have A4 := AG.pl; have A5 := AG.plu; have A6 := AG.plc; have A7 := AG.plk
    rw [hr1] at A1 A2 A3
    rw [hr2] at A4 A5 A6 A7
    dsimp only at A1 A2 A3 A4 A5 A6 A7
    refine q_tri g (b := o1) (m := n1) (n := m1) (Ed.is (hlw g rfl rfl rfl) (by rw [hr1]; rfl)) fun H8 g8 e8 => ?_
    refine q_bl g8 (n := o1) (ed_if (et_test (J := I7) (ed_var rfl (.bl b')) g8.o) (fun _ => Ed.is (ed_kwB (J := I7) (ks, (c : Int), val) (by rfl) (by exact ⟨hkg, hcc, AG.ok⟩) (huk rfl rfl rfl) rfl flip3_all g8.o) (by rw [A1])) fun _ => Ed.is (ed_callB (J := I7) (ks, (c : Int), val) (by rfl) (by exact ⟨hkg, hcc, AG.ok⟩) (hua rfl rfl rfl) g8.o) (by rw [A1])) fun H9 g9 e9 => ?_
    refine q_when g9 (b := !true || (o1 && decide (n1 < dueF ks c))) (et_or (et_not (et_test (J := I7) (ed_callB (J := I7) (.bool o1) (by rfl) (smp_bl _) (ea_cons (ed_var rfl (.bl _)) (ea_cons (ed_var rfl (.bl _)) ea_nil)) g9.o) g9.o)) fun _ => et_and (et_test (J := I7) (ed_var rfl (.bl _)) g9.o) fun _ => et_test (J := I7) (ad_lt (ed_var rfl (.int _)) (ed_var rfl (.int _)) g9.o) g9.o) (fun z => by
      exfalso
      rw [Bool.not_true, Bool.false_or, Bool.and_eq_true, decide_eq_true_eq] at z
      have := A2 z.1
      omega) fun _ H10 g10 e10 => ?_
    refine q_when g10 (b := o1 && !true) (et_and (et_test (J := I7) (ed_var rfl (.bl _)) g10.o) fun ho => et_not (et_test (J := I7) (ed_callB (J := I7) (.int n1) (by rfl) (smp_int _) (ea_cons (ed_if (et_test (J := I7) (ed_var rfl (.bl b')) g10.o) (fun _ => Ed.is (ed_kwI (J := I7) (ks, (c : Int), val) (by rfl) (by exact ⟨hkg, hcc, AG.ok, by rw [A1]; exact ho⟩) (huk rfl rfl rfl) rfl flip3_all g10.o) (by rw [← A3 ho]; rfl)) fun _ => Ed.is (huc (by rw [A1]; exact ho) g10 rfl rfl rfl) (by rw [← A3 ho])) (ea_cons (ed_var rfl (.int _)) ea_nil)) g10.o) g10.o)) (fun z => by simp at z) fun _ H11 g11 e11 => ?_
    refine q_tri g11 (b := o2) (m := n2) (n := m2) (Ed.is (hlw g11 rfl rfl rfl) (by rw [hr2]; rfl)) fun H12 g12 e12 => ?_
    refine q_set (d := kD (onesL ks.length)) g12 (Ed.is (ed_rep1 (d := .int 1) (ad_lst (ds := [.int 1]) (ea_cons ed_int ea_nil) (by show 1 ≤ 100000; decide)) (ed_lenL (ed_var rfl k27) g12.o) g12.o (by rw [List.length_map]; omega)) (by
      show _ = PyData.list ((List.replicate ks.length (1 : Int)).map PyData.int)
      rw [List.map_replicate, List.length_map]
      rfl)) fun vo I13 H13 g13 g13' ko => ?_
    have kx13 := kx.mono g13'.i
    have k213 := k27.mono g13'.i
    have hcost : GoodCosts (onesL ks.length) := goodCosts_ones hg1 hg2
    have hol : (onesL ks.length).length = ks.length := by unfold onesL; rw [List.length_replicate]
    have hpo : (pWalk (onesL (onesL ks.length).length) c W4 val).isSome = o2 := by rw [hol]; exact A4
    have oa : ∀ {H8 : Hp} {σ : L2.St}, σ[16]? = some (some vo) → σ[2]? = some (some (.int c)) → σ[8]? = some (some v8) → Ea (tCons (tVar 16) (tCons (tVar 2) (tCons (tVar 8) tNil))) σ H8 I13 [kD (onesL ks.length), .int c, valD val] := fun s1 s2 s8 => ea_cons (ed_var s1 ko) (ea_cons (ed_var s2 (.int _)) (ea_cons (ed_var s8 kx13) ea_nil))
    refine q_when g13 (b := !true) (et_not (et_test (J := I13) (ed_callB (J := I13) (.bool o2) (by rfl) (smp_bl _) (ea_cons (ed_if (et_test (J := I13) (ed_var rfl (.bl b')) g13.o) (fun _ => Ed.is (ed_callB (J := I13) (onesL ks.length, (c : Int), val) (by rfl) (by exact ⟨hcost, hcc, AG.ok⟩) (oa rfl rfl rfl) g13.o) (by rw [hpo])) fun _ => Ed.is (ed_kwB (J := I13) (onesL ks.length, (c : Int), val) (by rfl) (by exact ⟨hcost, hcc, AG.ok⟩) (ea_cons (ed_var rfl kx13) (ea_cons (ed_var rfl (.int _)) (ea_cons (ed_var rfl ko) ea_nil))) rfl flip3_all g13.o) (by rw [hpo])) (ea_cons (ed_var rfl (.bl _)) ea_nil)) g13.o) g13.o)) (fun z => by cases z) fun _ H14 g14 e14 => ?_
    refine q_when g14 (b := o2 && !true) (et_and (et_test (J := I13) (ed_var rfl (.bl _)) g14.o) fun ho => et_not (et_test (J := I13) (ed_callB (J := I13) (.list [.int m2, .int n2]) (by rfl) (by
      refine ⟨by show 2 ≤ 90000; decide, fun d hd => ?_⟩
      simp only [List.mem_cons, List.mem_nil_iff, or_false] at hd
      rcases hd with rfl | rfl <;> trivial) (ea_cons (ad_lst (ds := [.int m2, .int n2]) (ea_cons (Ed.is (ed_callI (J := I13) (onesL ks.length, (c : Int), val) (by rfl) (by exact ⟨hcost, hcc, AG.ok, by rw [hpo]; exact ho⟩) (oa rfl rfl rfl) g14.o) (by rw [← A6 ho]; unfold pRuns; rw [hol])) (ea_cons (Ed.is (ed_callI (J := I13) (ks, (c : Int), val) (by rfl) (by exact ⟨hkg, hcc, AG.ok, A5 ho⟩) (ea_cons (ed_var rfl k213) (ea_cons (ed_var rfl (.int _)) (ea_cons (ed_var rfl kx13) ea_nil))) g14.o) (by rw [← A7 ho]; rfl)) ea_nil)) (by show 2 ≤ 100000; decide)) (ea_cons (ad_lst (ds := [.int m2, .int n2]) (ea_cons (ed_var rfl (.int _)) (ea_cons (ed_var rfl (.int _)) ea_nil)) (by show 2 ≤ 100000; decide)) ea_nil)) g14.o) g14.o)) (fun z => by simp at z) fun _ H15 g15 e15 => ?_
    refine g_bl g15 (n := !b') (ad_notV (ed_var rfl (.bl b')) g15.o) fun H16 g16 e16 => ?_
    have eAll : Ex H' H16 := ((((((((e8.trans e9).trans e10).trans e11).trans e12).trans g13'.h).trans e14).trans e15).trans e16)
    refine ⟨!b', _, _, _, _, _, _, _, _, _, rfl, ?_, of8.step eAll, bx8.ex eAll⟩
    exact ⟨g.i, g.n, g.h.trans eAll, g.o.trans eAll⟩
  · rintro σ' H' ⟨b', x8, x9, x10, x11, x12, x13, x14, x15, x16, rfl, g, of8, bx8⟩
    refine q_app g rfl of8 hpf0 ed_str (by have := kf4.length; rw [this]; show 2 < 100000; decide) fun v9 I9 H9 g9 g9' of9 k9 => ?_
    have hbl : BoxAt H9 l (n + 3) := bx8.ex g9'.h
    have hb9 : BoxAt (upd H9 pf (.lst (vf ++ [v9]))) l (n + 3) := hbl.ne (fun z => hnpl z.symm)
    refine (ed_callB (J := I9) (I := I9) (csD res) (by rfl) FF.smp (ea_cons (ed_callD (ks, c, plain, res) (by exact ⟨⟨hg1, hg2, hg3⟩, hund⟩) (ea_cons (ed_var rfl (k27.mono g9'.i)) (ea_cons (ed_var rfl (.int _)) ea_nil))) (ea_cons (ed_var rfl (kb7.mono g9'.i)) ea_nil)) g9.o) _ (Ex.refl _) g9.o _ fun v10 I10 H10 a10 b10 c10 nw10 kv10 => ?_
    cases kv10
    exact q H10 (cutH_l (g9.h.trans b10)) (hb9.ex b10)
end
end K84
namespace K84
open PySem PySem.Spec PyProof.Rows L2 KD
local macro_rules
  | `(tactic| walk_at "ed") => `(tactic| first
    | with_reducible assumption
    | with_reducible exact Ex.refl _
    | (with_reducible apply Go.o; with_reducible assumption)
    | with_reducible exact ed_int
    | with_reducible exact ed_bl
    | with_reducible exact ed_str
    | with_reducible exact ed_non
    | ((with_reducible apply ed_var) <;> (first | (exact rfl) | exact Is.int _ | exact Is.bl _ | exact Is.str _ | exact Is.non | with_reducible assumption))
    | ((with_reducible apply ad_add) <;> walk_at "ed")
    | ((with_reducible apply ad_sub) <;> walk_at "ed")
    | ((with_reducible apply ad_lt) <;> walk_at "ed")
    | ((with_reducible apply ad_le) <;> walk_at "ed")
    | ((with_reducible apply ad_gt) <;> walk_at "ed")
    | ((with_reducible apply ad_ge) <;> walk_at "ed")
    | ((with_reducible apply ad_eqI) <;> walk_at "ed")
    | ((with_reducible apply ad_neI) <;> walk_at "ed")
    | ((with_reducible apply ad_eqS) <;> walk_at "ed")
    | ((with_reducible apply ad_neS) <;> walk_at "ed")
    | ((with_reducible apply ad_notV) <;> walk_at "ed")
    | ((with_reducible apply ad_neg) <;> walk_at "ed")
    | ((with_reducible apply ad_lenL) <;> walk_at "ed")
    | ((with_reducible refine ad_tup ?_ ?_) <;> (first | walk_at "ed" | (simp only [List.length_cons, List.length_nil]; decide)))
    | ((with_reducible refine ad_lst ?_ ?_) <;> (first | walk_at "ed" | (simp only [List.length_cons, List.length_nil]; decide)))
    | ((with_reducible apply ea_cons) <;> walk_at "ed")
    | with_reducible exact ea_nil)

structure PFacts (ks : List Int) (c : Nat) (pl : List Cm) (cnt : Int) : Prop where
  good : GoodKinds ks
  c1 : 1 ≤ c
  c2 : c ≤ 40
  m1 : 0 ≤ manyF ks
  m2 : manyF ks ≤ 100
  leastO : leastI (onesL ks.length) c = alikeC ks.length c
  leastT : leastF ks.length c = alikeC ks.length c
  dueK : leastI ks c = dueF ks c
  sch : schO ks.length c = some pl
  pl2 : pl.length ≤ 1000
  nice : ∀ cm ∈ pl, cmNice cm
  walk : lWalk ks c (.ls pl) false = (true, cnt, alikeC ks.length c)
  low : dueF ks c ≤ cnt
  u1 : (pWalk ks c W5 (.ls pl)).isSome = true
  u2 : pRuns ks ks c W5 (.ls pl) = cnt
  u3 : (pWalk (onesL ks.length) c W5 (.ls pl)).isSome = true
  u4 : pRuns (onesL ks.length) (onesL ks.length) c W5 (.ls pl) = alikeC ks.length c
theorem goodKinds_ones {n : Nat} (h1 : 1 ≤ n) (h2 : n ≤ 60) : GoodKinds (onesL n) := by
  unfold onesL
  refine ⟨by rw [List.length_replicate]; exact h1, by rw [List.length_replicate]; exact h2, fun x hx => ?_⟩
  rw [List.eq_of_mem_replicate hx]
  omega
section
variable {X : Cx} {k j : Nat} {x : Str} {ps : List Str} {st : Stmt} {sp : Sp} {p pos : Pos} {tk : TA} {kws : List Keyword}
def same2 {α : Type} (us ws : List α) : List α := ws
theorem pe_kwS {a b : Str} (c : Cal X.prog X.w X.K X.mg X.base k x ps st sp) (hr : Room j X.A) (hk : k ≤ j) (hg : Gl X x)
    (h : ∀ (kV doc pm : Value) (an : Option Addr) (cdv ct : Value) (us ws : List Value), us.length = 0 → ws.length = [a, b].length → bindArgs (PySem.W.fnOf x x (defArgs st) (defBody st) (defScope st) .none kV doc pm an cdv ct) ⟨us, [a, b].zip ws⟩ = pure (ps.zip (same2 us ws)))
    (hkw : PK X kws tk) (hall : (backToKw pos (keywordEach kws X.env)).all (·.1.isSome) = true := by rfl) (hks : (backToKw pos (keywordEach kws X.env)).filterMap (·.1) = [a, b] := by rfl)
    (hdb : (x == ("__debug__" : Str)) = false := by decide) (hpl : ((backTo pos (starEach [] X.env)).any (·.1) || (backToKw pos (keywordEach kws X.env)).any (·.1.isNone)) = false := by rfl) :
    PE X (.Call (.Name x p) [] kws pos) (tCallN 0 2 sp same2 E0 tNil tk) := by
  obtain ⟨f, fd, F, hm, kp, _, FD⟩ := c.ex
  exact pe_kw (F.mono hk) hr hg hm kp (kbn_of (ks := [a, b]) FD same2 h fun h1 h2 => h2) hkw hall hks hdb hpl
end
theorem q_eif {I0 H0 I H : Hp} {σ : L2.St} {D : Ends} {t : TT} {ta tb : TE} {tz : TS} {i : Nat} {d : PyData} {b : Bool} (g : Go I0 H0 I H) (ht : Et t σ H b) (h1 : ∀ H1, Go I0 H0 I H1 → Ed ta σ H1 I d) (h2 : ∀ H1, Go I0 H0 I H1 → Ed tb σ H1 I d) (k : ∀ v I2 H2, Go I0 H0 I2 H2 → Go I H I2 H2 → Is I2 v d → tz D (σ.set i (some v)) H2) : tSeq (tAsg (tIf t ta tb) (gName i)) tz D σ H :=
  q_set g (ed_if ht (fun _ => h1 H g) fun _ => h2 H g) k
section
variable {P : Program} {w : World} {K : PySem.W.Frag} {mg : Str → Option Value} {base : Heap} {C : Addr}
abbrev N__law_plain_right : List Str := ["kinds", "c", "by_name", "ones", "found", "due", "plain", "is_one", "count", "runs"]
theorem sc__law_plain_right : FnScope N__law_plain_right ["kinds", "c", "by_name"] (defScope s__law_plain_right) := ⟨rfl, rfl, rfl, by decide +kernel, rfl, by decide +kernel, by decide +kernel⟩
abbrev sp__law_plain_right : Sp := fun vs H Q _ => ∃ I ks c pl cnt v1 b, vs = [v1, .int (Nat.cast c), .bl b] ∧ Ex I H ∧ Is I v1 (kD ks) ∧ PFacts ks c pl cnt ∧ ∀ H2, Ex H H2 → Q (.bl true) H2
theorem ok__law_plain_right (T : Txt K mg C) (F : Fn K mg "_law_plain_right" s__law_plain_right) (c_least_count : Cal P w K mg base 4 "least_count" ["kinds", "c"] s_least_count sp_least_count) (c_least_cost : Cal P w K mg base 5 "least_cost" ["costs", "c"] s_least_cost sp_least_cost) (c__law_alike_cost : Cal P w K mg base 1 "_law_alike_cost" ["l", "c"] s__law_alike_cost sp__law_alike_cost) (c__law_same : CLS P w K mg base 2) (c__law_due : Cal P w K mg base 2 "_law_due" ["kinds", "c"] s__law_due sp__law_due) (c_best_schedule : Cal P w K mg base 5 "best_schedule" ["costs", "c"] s_best_schedule sp_best_schedule) (c__law_walked : Cal P w K mg base 1 "_law_walked" ["kinds", "c", "schedule", "undoes"] s__law_walked sp__law_walked)
    (c_is_undo_schedule : Cal P w K mg base 6 "is_undo_schedule" ["kinds", "c", "value"] s_is_undo_schedule sp_is_undo_schedule) (c_undo_count : Cal P w K mg base 6 "undo_count" ["kinds", "c", "schedule"] s_undo_count sp_undo_count) : Cal P w K mg base 7 "_law_plain_right" ["kinds", "c", "by_name"] s__law_plain_right sp__law_plain_right := by
  refine cal_mk F sc__law_plain_right (fun _ _ _ _ _ _ us hl => match us, hl with | [_, _, _], _ => rfl) (fun vs H Q E h => ?_) (fun f cdv A outer s H vs Q E hr h => ?_)
  · obtain ⟨I, ks, c, pl, cnt, v1, b, rfl, _⟩ := h
    rfl
  obtain ⟨I, ks, c, pl, cnt, v1, b, rfl, e, hk, FF, q⟩ := h
  refine ⟨_, (pss_cons (ps_set (i := 3) sc__law_plain_right.nd rfl (Or.inl rfl) (pe_op op_rep (pe_lst (pa_cons pe_int pa_nil)) (pe_callB call_len_seq (by rfl) T.b_len (by decide +kernel) (pa_cons (pv 0) pa_nil)))) (pss_cons (ps_set (i := 4) sc__law_plain_right.nd rfl (Or.inl rfl) (pe_ifExp (pt_val (pv 2)) (pe_lst (pa_cons (pe_cal c_least_count hr (by first | decide | exact Nat.le_refl _) rfl (pa_cons (pv 3) (pa_cons (pv 1) pa_nil))) (pa_cons (pe_cal c_least_cost hr (by first | decide | exact Nat.le_refl _) rfl (pa_cons (pv 3) (pa_cons (pv 1) pa_nil))) pa_nil))) (pe_lst (pa_cons (pe_kw2 (a := "c") (b := "kinds") c_least_count hr (by decide) rfl (fun _ _ _ _ _ _ us ws h1 h2 => match us, ws, h1, h2 with | [], [_, _], _, _ => rfl) (pk_cons (pv 1) (pk_cons (pv 3) pk_nil))) (pa_cons (pe_kw2 (a := "c") (b := "costs") c_least_cost hr (by decide) rfl (fun _ _ _ _ _ _ us ws h1 h2 => match us, ws, h1, h2 with | [], [_, _], _, _ => rfl) (pk_cons (pv 1) (pk_cons (pv 3) pk_nil))) pa_nil))))) (pss_cons (ps_set (i := 5) sc__law_plain_right.nd rfl (Or.inl rfl) (pe_cal c__law_alike_cost hr (by first | decide | exact Nat.le_refl _) rfl (pa_cons (pe_callB call_len_seq (by rfl) T.b_len (by decide +kernel) (pa_cons (pv 0) pa_nil)) (pa_cons (pv 1) pa_nil)))) (pss_cons (ps_if (PW.pt (pw_or (pt_not (pt_val (pe_cal c__law_same hr (by first | decide | exact Nat.le_refl _) rfl (pa_cons (pv 4) (pa_cons (pe_lst (pa_cons (pv 5) (pa_cons (pv 5) pa_nil))) pa_nil))))) (pw_or1 (pt_not (pt_val (pe_cal c__law_same hr (by first | decide | exact Nat.le_refl _) rfl (pa_cons (pe_cal c_least_count hr (by first | decide | exact Nat.le_refl _) rfl (pa_cons (pv 0) (pa_cons (pv 1) pa_nil))) (pa_cons (pe_cal c__law_due hr (by first | decide | exact Nat.le_refl _) rfl (pa_cons (pv 0) (pa_cons (pv 1) pa_nil))) pa_nil)))))))) (pss_one (ps_ret pe_bl)) pss_nil) (pss_cons (ps_set (i := 6) sc__law_plain_right.nd rfl (Or.inl rfl) (pe_ifExp (pt_val (pv 2)) (pe_kwS (a := "costs") (b := "c") c_best_schedule hr (by decide) rfl (fun _ _ _ _ _ _ us ws h1 h2 => match us, ws, h1, h2 with | [], [_, _], _, _ => rfl) (pk_cons (pv 3) (pk_cons (pv 1) pk_nil))) (pe_cal c_best_schedule hr (by first | decide | exact Nat.le_refl _) rfl (pa_cons (pv 3) (pa_cons (pv 1) pa_nil))))) (pss_cons (ps_asg (pe_cal c__law_walked hr (by first | decide | exact Nat.le_refl _) rfl (pa_cons (pv 0) (pa_cons (pv 1) (pa_cons (pv 6) (pa_cons pe_bl pa_nil))))) (pg_tup (by rfl) (pgs_cons (pg_name (i := 7) sc__law_plain_right.nd rfl (Or.inl rfl)) (pgs_cons (pg_name (i := 8) sc__law_plain_right.nd rfl (Or.inl rfl)) (pgs_cons (pg_name (i := 9) sc__law_plain_right.nd rfl (Or.inl rfl)) pgs_nil))))) (pss_cons (ps_if (PW.pt (pw_or (pt_not (pt_val (pv 7))) (pw_or (pt_cmpR op_ne (pv 9) (pv 5) (nomark _)) (pw_or1 (pt_cmpR op_lt (pv 8) (pe_cal c__law_due hr (by first | decide | exact Nat.le_refl _) rfl (pa_cons (pv 0) (pa_cons (pv 1) pa_nil))) (nomark _)))))) (pss_one (ps_ret pe_bl)) pss_nil) (pss_cons (ps_set (i := 4) sc__law_plain_right.nd rfl (Or.inl rfl) (pe_lst (pa_cons (pe_cal c_is_undo_schedule hr (by first | decide | exact Nat.le_refl _) rfl (pa_cons (pv 0) (pa_cons (pv 1) (pa_cons (pv 6) pa_nil)))) (pa_cons (pe_cal c_undo_count hr (by first | decide | exact Nat.le_refl _) rfl (pa_cons (pv 0) (pa_cons (pv 1) (pa_cons (pv 6) pa_nil)))) (pa_cons (pe_cal c_is_undo_schedule hr (by first | decide | exact Nat.le_refl _) rfl (pa_cons (pv 3) (pa_cons (pv 1) (pa_cons (pv 6) pa_nil)))) (pa_cons (pe_kw3 (a := "schedule") (b := "c") (d := "kinds") c_undo_count hr (by decide) rfl (fun _ _ _ _ _ _ us ws h1 h2 => match us, ws, h1, h2 with | [], [_, _, _], _, _ => rfl) (pk_cons (pv 6) (pk_cons (pv 1) (pk_cons (pv 3) pk_nil)))) pa_nil)))))) (pss_one (ps_ret (pe_cal c__law_same hr (by first | decide | exact Nat.le_refl _) rfl (pa_cons (pv 4) (pa_cons (pe_lst (pa_cons pe_bl (pa_cons (pv 8) (pa_cons pe_bl (pa_cons (pv 5) pa_nil))))) pa_nil))))))))))))), ?_⟩
  have hc1 := FF.c1
  have hc2 := FF.c2
  have hgood := FF.good
  obtain ⟨hg1, hg2, hg3⟩ := FF.good
  have hol : (onesL ks.length).length = ks.length := by unfold onesL; rw [List.length_replicate]
  refine q_set (d := kD (onesL ks.length)) (Go.refl e) (Ed.is (ed_rep1 (d := .int 1) (ad_lst (ds := [.int 1]) (ea_cons ed_int ea_nil) (by show 1 ≤ 100000; decide)) (ed_lenL (ed_var rfl hk) e) e (by rw [List.length_map]; omega)) (by
    show _ = PyData.list ((List.replicate ks.length (1 : Int)).map PyData.int)
    rw [List.map_replicate, List.length_map]
    rfl)) fun vo I1 H1 g1 g1' ko => ?_
  have hk1 := hk.mono g1'.i
  have hgo : GoodKinds (onesL ks.length) := goodKinds_ones hg1 hg2
  have hcc : (1 : Int) ≤ c ∧ (c : Int) ≤ 40 := by omega
  have hc4 : 1 ≤ ks.length ∧ ks.length ≤ 60 ∧ 1 ≤ c ∧ c ≤ 40 := ⟨hg1, hg2, hc1, hc2⟩
  generalize hdue : alikeC ks.length c = due
  have L1 := FF.leastO
  have L2' := FF.leastT
  have L3 := FF.walk
  have L4 := FF.u4
  rw [hdue] at L1 L2' L3 L4
  refine q_eif (d := .list [.int due, .int due]) g1 (et_test (J := I1) (ed_var rfl (.bl b)) g1.o) (fun H2 g2 => ad_lst (ds := [.int due, .int due]) (ea_cons (Ed.is (ed_callI (J := I1) (onesL ks.length, (c : Int)) (by rfl) (by exact ⟨hgo, hcc.1, hcc.2⟩) (ea_cons (ed_var rfl ko) (ea_cons (ed_var rfl (.int _)) ea_nil)) g2.o) (by rw [← L1]; rfl)) (ea_cons (Ed.is (ed_callI (J := I1) (ks.length, c) (by rfl) (by exact hc4) (ea_cons (ed_var rfl ko) (ea_cons (ed_var rfl (.int _)) ea_nil)) g2.o) (by rw [← L2'])) ea_nil)) (by show 2 ≤ 100000; decide))
    (fun H2 g2 => ad_lst (ds := [.int due, .int due]) (ea_cons (Ed.is (ed_kwI (J := I1) (onesL ks.length, (c : Int)) (by rfl) (by exact ⟨hgo, hcc.1, hcc.2⟩) (ea_cons (ed_var rfl (.int _)) (ea_cons (ed_var rfl ko) ea_nil)) rfl flip2_all g2.o) (by rw [← L1]; rfl)) (ea_cons (Ed.is (ed_kwI (J := I1) (ks.length, c) (by rfl) (by exact hc4) (ea_cons (ed_var rfl (.int _)) (ea_cons (ed_var rfl ko) ea_nil)) rfl flip2_all g2.o) (by rw [← L2'])) ea_nil)) (by show 2 ≤ 100000; decide)) fun vf I2 H2 g2 g2' kf => ?_
  have ko2 := ko.mono g2'.i
  have hk2 := hk1.mono g2'.i
  refine q_int g2 (n := due) (Ed.is (ed_callI (J := I2) ((ks.length : Int), (c : Int)) (by rfl) (by exact ⟨by omega, by show (ks.length : Int) ≤ 100; omega, hcc.1, hcc.2⟩) (ea_cons (Ed.is (ed_lenL (ed_var rfl hk2) g2.o) (by rw [List.length_map])) (ea_cons (ed_var rfl (.int _)) ea_nil)) g2.o) (by rw [← hdue])) fun H3 g3 e3 => ?_
  have hsm : Smp 2 (.list [.int due, .int due]) := by
    refine ⟨by show 2 ≤ 90000; decide, fun d hd => ?_⟩
    simp only [List.mem_cons, List.mem_nil_iff, or_false] at hd
    rcases hd with rfl | rfl <;> trivial
  have hdk : ∀ {H4 : Hp} {σ : L2.St}, Ex I2 H4 → σ[0]? = some (some v1) → σ[1]? = some (some (.int c)) → Ed (tCall sp__law_due [] E0 (tCons (tVar 0) (tCons (tVar 1) tNil))) σ H4 I2 (.int (dueF ks c)) := fun e s0 s1 => ed_callI (J := I2) (ks, (c : Int)) (by rfl) (by exact ⟨hg1, FF.m1, FF.m2, hcc.1, hcc.2⟩) (ea_cons (ed_var s0 hk2) (ea_cons (ed_var s1 (.int _)) ea_nil)) e
  refine q_when g3 (b := !true || !true) (et_or (et_not (et_test (J := I2) (ed_callB (J := I2) (.list [.int due, .int due]) (by rfl) hsm (ea_cons (ed_var rfl kf) (ea_cons (ad_lst (ds := [.int due, .int due]) (ea_cons (ed_var rfl (.int _)) (ea_cons (ed_var rfl (.int _)) ea_nil)) (by show 2 ≤ 100000; decide)) ea_nil)) g3.o) g3.o)) fun _ => et_not (et_test (J := I2) (ed_callB (J := I2) (.int (dueF ks c)) (by rfl) (smp_int _) (ea_cons (Ed.is (ed_callI (J := I2) (ks, (c : Int)) (by rfl) (by exact ⟨hgood, hcc.1, hcc.2⟩) (ea_cons (ed_var rfl hk2) (ea_cons (ed_var rfl (.int _)) ea_nil)) g3.o) (by rw [← FF.dueK]; rfl)) (ea_cons (hdk g3.o rfl rfl) ea_nil)) g3.o) g3.o)) (fun z => by cases z) fun _ H4 g4 e4 => ?_
  refine q_eif (d := csD pl) g4 (et_test (J := I2) (ed_var rfl (.bl b)) g4.o) (fun H5 g5 => ed_kwD (ks.length, c, pl) (by exact ⟨hg1, hg2, hc1, hc2, FF.sch⟩) (ea_cons (ed_var rfl ko2) (ea_cons (ed_var rfl (.int _)) ea_nil)) rfl (fun h => h)) (fun H5 g5 => ed_callD (ks.length, c, pl) (by exact ⟨hg1, hg2, hc1, hc2, FF.sch⟩) (ea_cons (ed_var rfl ko2) (ea_cons (ed_var rfl (.int _)) ea_nil))) fun vp I5 H5 g5 g5' kp => ?_
  have ko5 := ko2.mono g5'.i
  have hk5 := hk2.mono g5'.i
  have hpl2 := FF.pl2
  have hvok : valOk (.ls pl) := by show pl.length ≤ 90000; omega
  refine q_tri g5 (b := true) (m := cnt) (n := due) (Ed.is (ed_callD (ks, (c : Int), Val.ls pl, false) (by exact ⟨by show ks.length ≤ 100; omega, by show pl.length ≤ 90000; omega, FF.nice⟩) (ea_cons (ed_var rfl hk5) (ea_cons (ed_var rfl (.int _)) (ea_cons (ed_var rfl kp) (ea_cons ed_bl ea_nil))))) (by rw [L3]; rfl)) fun H6 g6 e6 => ?_
  have hdk5 : ∀ {H4 : Hp} {σ : L2.St}, Ex I5 H4 → σ[0]? = some (some v1) → σ[1]? = some (some (.int c)) → Ed (tCall sp__law_due [] E0 (tCons (tVar 0) (tCons (tVar 1) tNil))) σ H4 I5 (.int (dueF ks c)) := fun e s0 s1 => ed_callI (J := I5) (ks, (c : Int)) (by rfl) (by exact ⟨hg1, FF.m1, FF.m2, hcc.1, hcc.2⟩) (ea_cons (ed_var s0 hk5) (ea_cons (ed_var s1 (.int _)) ea_nil)) e
  refine q_when g6 (b := !true || (!decide (due = due) || decide (cnt < dueF ks c))) (et_or (et_not (et_test (J := I5) (ed_var rfl (.bl _)) g6.o)) fun _ => et_or (et_test (J := I5) (ad_neI (ed_var rfl (.int _)) (ed_var rfl (.int _)) g6.o) g6.o) fun _ => et_test (J := I5) (ad_lt (ed_var rfl (.int _)) (hdk5 g6.o rfl rfl) g6.o) g6.o) (fun z => by
    exfalso
    have := FF.low
    simp at z
    omega) fun _ H7 g7 e7 => ?_
  refine q_set (d := .list [.bool true, .int cnt, .bool true, .int due]) g7 (ad_lst (ds := [.bool true, .int cnt, .bool true, .int due]) (ea_cons (Ed.is (ed_callB (J := I5) (ks, (c : Int), Val.ls pl) (by rfl) (by exact ⟨hgood, hcc, hvok⟩) (ea_cons (ed_var rfl hk5) (ea_cons (ed_var rfl (.int _)) (ea_cons (ed_var rfl kp) ea_nil))) g7.o) (by rw [FF.u1])) (ea_cons (Ed.is (ed_callI (J := I5) (ks, (c : Int), Val.ls pl) (by rfl) (by exact ⟨hgood, hcc, hvok, FF.u1⟩) (ea_cons (ed_var rfl hk5) (ea_cons (ed_var rfl (.int _)) (ea_cons (ed_var rfl kp) ea_nil))) g7.o) (by rw [← FF.u2]; rfl)) (ea_cons (Ed.is (ed_callB (J := I5) (onesL ks.length, (c : Int), Val.ls pl) (by rfl) (by exact ⟨hgo, hcc, hvok⟩) (ea_cons (ed_var rfl ko5) (ea_cons (ed_var rfl (.int _)) (ea_cons (ed_var rfl kp) ea_nil))) g7.o) (by rw [FF.u3])) (ea_cons (Ed.is (ed_kwI (J := I5) (onesL ks.length, (c : Int), Val.ls pl) (by rfl) (by exact ⟨hgo, hcc, hvok, FF.u3⟩) (ea_cons (ed_var rfl kp) (ea_cons (ed_var rfl (.int _)) (ea_cons (ed_var rfl ko5) ea_nil))) rfl flip3_all g7.o) (by rw [← L4]; rfl)) ea_nil)))) (by show 4 ≤ 100000; decide)) fun vf2 I8 H8 g8 g8' kf8 => ?_
  have hsm2 : Smp 2 (.list [.bool true, .int cnt, .bool true, .int due]) := by
    refine ⟨by show 4 ≤ 90000; decide, fun d hd => ?_⟩
    simp only [List.mem_cons, List.mem_nil_iff, or_false] at hd
    rcases hd with rfl | rfl | rfl | rfl <;> trivial
  refine (ed_callB (J := I8) (I := I8) (PyData.list [.bool true, .int cnt, .bool true, .int due]) (by rfl) hsm2 (ea_cons (ed_var rfl kf8) (ea_cons (ad_lst (ds := [.bool true, .int cnt, .bool true, .int due]) (ea_cons ed_bl (ea_cons (ed_var rfl (.int _)) (ea_cons ed_bl (ea_cons (ed_var rfl (.int _)) ea_nil)))) (by show 4 ≤ 100000; decide)) ea_nil)) g8.o) H8 (Ex.refl _) g8.o _ fun v9 I9 H9 a9 b9 c9 nw9 kv9 => ?_
  cases kv9
  exact q H9 (g8.h.trans b9)
end
end K84
namespace KD
open PySem PySem.Spec PyProof.Rows L2
theorem BoxAt.more {H : Hp} {l : Addr} {n m : Nat} (b : BoxAt H l n) (h : n ≤ m) : BoxAt H l m := by
  obtain ⟨b0, b1, b2, b3, hh, r1, r2, r3, r4⟩ := b
  exact ⟨b0, b1, b2, b3, hh, r1, r2, r3, by omega⟩
section
variable {ρ ρ1 ρ2 : Type} {l : Addr} {k : Nat} {te ta : TE} {σ : L2.St} {I : Hp} {P : ρ → Prop} {P1 : ρ1 → Prop} {P2 : ρ2 → Prop} {f : ρ → Int} {f1 : ρ1 → Int} {f2 : ρ2 → Int} {m : Int} {K : PySem.W.Frag}
theorem em_eqC (h : Em l k te σ I P (fun r => .int (f r))) : Em l k (tOp rEq te (tC (.int m))) σ I P (fun r => .bool (decide (f r = m))) := fun I1 H1 n a b c bx hn Q q =>
  h I1 H1 n a b c bx hn _ fun r v I2 H2 p a1 a2 a3 nw c2 bx2 kv => by
    cases kv
    refine ⟨rfl, ?_⟩
    rw [show decide (V.int (f r) = V.int m) = decide (f r = m) by simp]
    exact q r _ I2 H2 p a1 a2 a3 nw c2 bx2 (.bl _)
theorem em_addC (h : Em l k te σ I P (fun r => .int (f r))) : Em l k (tOp (rI0 fun i j => .int (i + j)) (tC (.int m)) te) σ I P (fun r => .int (m + f r)) := fun I1 H1 n a b c bx hn Q q =>
  h I1 H1 n a b c bx hn _ fun r v I2 H2 p a1 a2 a3 nw c2 bx2 kv => by
    cases kv
    exact ⟨m, f r, rfl, rfl, q r _ I2 H2 p a1 a2 a3 nw c2 bx2 (.int _)⟩
theorem em_intB {g : ρ → Bool} (h : Em l k te σ I P (fun r => .bool (g r))) : Em l k (tCB (fun xs H Q => (∃ i, xs = [.int i] ∧ Q (.int i) H) ∨ ∃ k, xs = [.bl k] ∧ Q (.int (if k then 1 else 0)) H) (tCons te tNil)) σ I P (fun r => .int (if g r = true then 1 else 0)) := fun I1 H1 n a b c bx hn Q q =>
  h I1 H1 n a b c bx hn _ fun r v I2 H2 p a1 a2 a3 nw c2 bx2 kv => by
    cases kv
    exact .inr ⟨g r, rfl, q r _ I2 H2 p a1 a2 a3 nw c2 bx2 (.int _)⟩
theorem em_slTo {ds : List PyData} (ha : Ed ta σ I I (.list ds)) (h : Em l k te σ I P (fun r => .int (f r))) : Em l k (tSl (rSlL K) ta tNoPart (tPart te)) σ I P (fun r => .list (cutD ds none (some (f r)))) := fun I1 H1 n a b c bx hn Q q =>
  (ha.more a) H1 (a.trans b) b _ fun v I2 H2 a1 a2 a3 nw kv => h I2 H2 n (a.trans a1) a3 (by
    obtain ⟨o, ho⟩ := bx.some
    exact nw.none ho c) (bx.ex a2) hn _ fun r v2 I3 H3 p b1 b2 b3 nw2 c3 bx3 kv2 => by
    cases kv2
    refine ⟨f r, rfl, ?_⟩
    cases kv with
    | @lst x xs _ ka kb =>
      refine ⟨x, xs, rfl, SqL.of (b3 _ _ (b1 _ _ ka)), fun p2 hp => ?_⟩
      obtain ⟨ne, c4, bx4⟩ := em_new (H1 := H1) (o := .lst (cutV xs none (some (f r)))) b3 c3 bx3 hp
      exact q r _ (upd I3 p2 (.lst (cutV xs none (some (f r))))) _ p ((a1.trans b1).trans (Ex.new (b3.free hp))) ((a2.l.trans b2).trans (Ex.new hp).l) b3.both (newL_lay (newL_trans nw nw2 a2.l c3) (a2.l.trans b2) hp ne) c4 bx4 (.lst upd_same ((kb.mono b1).cut.mono (Ex.new (b3.free hp))))
/-- [e for t in range(n)], both taking -/
theorem em_lcR {te1 : TE} {j : Nat} {vs : List Nat} (h1 : Em l 1 te1 σ I P1 (fun r => .int (f1 r))) (hn : ∀ r, P1 r → 1 ≤ f1 r ∧ f1 r ≤ 12) (he : ∀ i : Nat, Em l 1 te ((wipe σ vs).set j (some (.int i))) I P2 (fun r => .int (f2 r))) (hg : ∀ r, P2 r → f2 r = 0 ∨ f2 r = 1) (hw : ∀ x, wipe ((wipe σ vs).set j (some x)) vs = wipe σ vs) :
    Em (ρ := List Int) l 13 (tLc (iRng1 (tCons te1 tNil)) (gName j) tYes te vs) σ I (fun ks => 1 ≤ ks.length ∧ ks.length ≤ 12 ∧ ∀ x ∈ ks, x = 0 ∨ x = 1) (fun ks => .list (ks.map PyData.int)) := fun I1 H1 n a b c bx hn2 Q q =>
  h1 I1 H1 n a b c bx (by omega) _ fun r v I2 H2 p a1 a2 a3 nw c2 bx2 kv => by
    cases kv
    obtain ⟨n1, n2⟩ := hn r p
    refine ⟨f1 r, rfl, by omega, by omega, fun Dl hD => ?_⟩
    obtain ⟨o, ho⟩ := bx2.some
    have nDl : l ≠ Dl := ne_of_none ho hD
    refine lc_range (lo := 0) (n := (f1 r).toNat) (fun i H' => ∃ ks : List Int, ks.length = i ∧ (∀ x ∈ ks, x = 0 ∨ x = 1) ∧ H' Dl = some (.lst (ks.map V.int)) ∧ (∀ x u, x ≠ l → x ≠ Dl → H2 x = some u → H' x = some u) ∧ BoxAt H' l (n + 1 + i)) ⟨[], rfl, (fun x hx => by cases hx), upd_same, (fun x u _ hx h => by rw [upd_ne hx]; exact h), bx2.ne nDl⟩ (fun i H' hi p => ⟨hw _, ?_⟩) fun H' p => ?_
    · have e0 : (0 : Int) + (i : Int) = (i : Int) := Int.zero_add _
      rw [e0]
      obtain ⟨ks, k1, k2, k3, k4, k5⟩ := p
      have eI : Ex I2 H' := fun x u h => k4 x u (fun z => by subst z; rw [c2] at h; cases h) (fun z => by subst z; rw [a3 _ _ h] at hD; cases hD) (a3 _ _ h)
      show te _ H' fun y H4 => _
      refine he i I2 H' (n + 1 + i) (a.trans a1) eI c2 k5 (by omega) _ fun r2 v2 I3 H3 p2 b1 b2 b3 nw2 c3 bx3 kv2 => ?_
      cases kv2
      refine ⟨_, b2 _ _ nDl.symm k3, sz_lt (by rw [List.length_map, k1]; omega), ks ++ [f2 r2], by rw [List.length_append, k1]; rfl, fun x hx => ?_, ?_, fun x u hx1 hx2 h => ?_, bx3.ne nDl⟩
      · rcases List.mem_append.mp hx with z | z
        · exact k2 x z
        · rw [List.mem_singleton] at z
          subst z
          exact hg r2 p2
      · rw [upd_same, List.map_append]
        rfl
      · rw [upd_ne hx2]
        exact b2 _ _ hx1 (k4 x u hx1 hx2 h)
    · obtain ⟨ks, k1, k2, k3, k4, k5⟩ := p
      have eI : Ex I2 H' := fun x u h => k4 x u (fun z => by subst z; rw [c2] at h; cases h) (fun z => by subst z; rw [a3 _ _ h] at hD; cases hD) (a3 _ _ h)
      have iD : I2 Dl = none := a3.free hD
      refine q ks (.ref Dl) (upd I2 Dl (.lst (ks.map V.int))) H' ⟨by omega, by omega, k2⟩ (a1.trans (Ex.new iD)) ?_ (eI.lay k3) ?_ (by rw [upd_ne nDl]; exact c2) (k5.more (by omega)) (.lst upd_same (isAll_ints ks))
      · intro x u hx h
        have h2 := a2 x u hx h
        exact k4 x u hx (fun z => by subst z; rw [hD] at h2; cases h2) h2
      · exact newL_lay nw a2 hD nDl
end
end KD
namespace K84
open PySem PySem.Spec PyProof.Rows L2 KD
local macro_rules
  | `(tactic| walk_at "ed") => `(tactic| first
    | with_reducible assumption
    | with_reducible exact Ex.refl _
    | (with_reducible apply Go.o; with_reducible assumption)
    | with_reducible exact ed_int
    | with_reducible exact ed_bl
    | with_reducible exact ed_str
    | with_reducible exact ed_non
    | ((with_reducible apply ed_var) <;> (first | (exact rfl) | exact Is.int _ | exact Is.bl _ | exact Is.str _ | exact Is.non | with_reducible assumption))
    | ((with_reducible apply ad_add) <;> walk_at "ed")
    | ((with_reducible apply ad_sub) <;> walk_at "ed")
    | ((with_reducible apply ad_lt) <;> walk_at "ed")
    | ((with_reducible apply ad_le) <;> walk_at "ed")
    | ((with_reducible apply ad_gt) <;> walk_at "ed")
    | ((with_reducible apply ad_ge) <;> walk_at "ed")
    | ((with_reducible apply ad_eqI) <;> walk_at "ed")
    | ((with_reducible apply ad_neI) <;> walk_at "ed")
    | ((with_reducible apply ad_eqS) <;> walk_at "ed")
    | ((with_reducible apply ad_neS) <;> walk_at "ed")
    | ((with_reducible apply ad_notV) <;> walk_at "ed")
    | ((with_reducible apply ad_neg) <;> walk_at "ed")
    | ((with_reducible apply ad_lenL) <;> walk_at "ed")
    | ((with_reducible refine ad_tup ?_ ?_) <;> (first | walk_at "ed" | (simp only [List.length_cons, List.length_nil]; decide)))
    | ((with_reducible refine ad_lst ?_ ?_) <;> (first | walk_at "ed" | (simp only [List.length_cons, List.length_nil]; decide)))
    | ((with_reducible apply ea_cons) <;> walk_at "ed")
    | with_reducible exact ea_nil)

theorem q_box {K : PySem.W.Frag} {σ : L2.St} {H : Hp} {D : Ends} {tz : TS} {a : Addr} {i : Nat} {ns : List Int} (h0 : σ[0]? = some (some (.ref a))) (h1 : σ[1]? = some (some (.int i))) (hS : SqL K H a (ns.map V.int)) (hi : i ≤ 100) (k : ∀ p H3, H p = none → Ex H H3 → BoxAt H3 p 0 → tz D (σ.set 2 (some (.ref p))) H3) : tSeq (tAsg (tCall sp__law_box [] E0 (tCons (tCall (sp__law_cell K) [] E0 (tCons (tVar 0) (tCons (tVar 1) tNil))) tNil)) (gName 2)) tz D σ H :=
  ⟨_, h0, _, h1, a, i, ns, rfl, hS, hi, fun z H2 e2 => ⟨z, rfl, fun p H3 hp e3 bx => k p H3 (e2.free hp) (e2.trans e3) bx⟩⟩
theorem q_pair {ρ : Type} {K : PySem.W.Frag} {l : Addr} {σ : L2.St} {I0 H0 I H : Hp} {D : Ends} {tz : TS} {te : TE} {i j n k : Nat} {P : ρ → Prop} {fb : ρ → Bool} {fi : ρ → Int} (x : Gb l I0 H0 I H n) (h : Em l k te σ I P (fun r => .tuple [.bool (fb r), .int (fi r)])) (hn : n + k ≤ 1000000) (kk : ∀ r I2 H2, P r → Gb l I0 H0 I2 H2 (n + k) → Ex I I2 → ExL l H H2 → tz D ((σ.set i (some (.bl (fb r)))).set j (some (.int (fi r)))) H2) : tSeq (tAsg te (gTup K 2 (gCons (gName i) (gCons (gName j) gNil)))) tz D σ H :=
  h I H n (Ex.refl _) x.g.o x.il x.b hn _ fun r v I4 H4 hr a4 b4 c4 nw4 il4 bx4 kv4 => by
    have x4 : Gb l I0 H0 I4 H4 (n + k) := x.stepL a4 b4 c4 (fun y o h => (nw4 y o h).imp id fun z => (cutH_ex H l).free z) il4 bx4
    cases kv4 with
    | @tup tp xs _ kp kx =>
      obtain ⟨w1, w2, rfl, q1, q2⟩ := isAll2 kx
      cases q1
      cases q2
      exact ⟨tp, _, rfl, SqT.of (c4 _ _ kp), rfl, _, _, rfl, _, _, rfl, rfl, kk r I4 H4 hr x4 a4 b4⟩
theorem ed_max2 {σ : L2.St} {H I J : Hp} {ta tb : TE} {i j : Int} (ha : Ed ta σ H J (.int i)) (hb : Ed tb σ H J (.int j)) (ej : Ex J H) : Ed (tCB (fun xs H Q => ∃ i j, xs = [.int i, .int j] ∧ Q (.int (if j > i then j else i)) H) (tCons ta (tCons tb tNil))) σ H I (.int (if j > i then j else i)) :=
  ed_cb (.int _) (ea_cons ha (ea_cons hb ea_nil)) ej fun vs I2 H2 _ _ k Q q => by
    obtain ⟨v1, v2, rfl, k1, k2⟩ := isAll2 k
    cases k1
    cases k2
    exact ⟨_, _, rfl, q⟩
theorem ed_min2 {σ : L2.St} {H I J : Hp} {ta tb : TE} {i j : Int} (ha : Ed ta σ H J (.int i)) (hb : Ed tb σ H J (.int j)) (ej : Ex J H) : Ed (tCB (fun xs H Q => ∃ i j, xs = [.int i, .int j] ∧ Q (.int (if j < i then j else i)) H) (tCons ta (tCons tb tNil))) σ H I (.int (if j < i then j else i)) :=
  ed_cb (.int _) (ea_cons ha (ea_cons hb ea_nil)) ej fun vs I2 H2 _ _ k Q q => by
    obtain ⟨v1, v2, rfl, k1, k2⟩ := isAll2 k
    cases k1
    cases k2
    exact ⟨_, _, rfl, q⟩
theorem Gb.em {l : Addr} {I0 H0 I H I2 H2 : Hp} {n m : Nat} (x : Gb l I0 H0 I H n) (a : Ex I I2) (b : ExL l H H2) (c : Ex I2 H2) (nw : New I H I2) (il : I2 l = none) (bx : BoxAt H2 l m) : Gb l I0 H0 I2 H2 m :=
  x.stepL a b c (fun y o h => (nw y o h).imp id fun z => (cutH_ex H l).free z) il bx
section
variable {P : Program} {w : World} {K : PySem.W.Frag} {mg : Str → Option Value} {base : Heap} {C : Addr}
def KsOk (ks : List Int) : Prop := 1 ≤ ks.length ∧ ks.length ≤ 12 ∧ ∀ x ∈ ks, x = 0 ∨ x = 1
theorem ksOk_short {ks : List Int} {m : Int} (h : KsOk ks) (hm : 1 ≤ m ∧ m ≤ 4) : KsOk (cutA ks none (some m)) := by
  obtain ⟨h1, h2, h3⟩ := h
  obtain ⟨mN, rfl⟩ : ∃ mN : Nat, m = (mN : Int) := ⟨m.toNat, by omega⟩
  have e : cutA ks none (some (mN : Int)) = ks.take (min mN ks.length) := by
    unfold cutA
    rw [HT.sIx_nat, HT.sIx_none, List.drop_zero, Nat.sub_zero]
  rw [e]
  refine ⟨?_, ?_, fun x hx => h3 x (List.mem_of_mem_take hx)⟩
  · rw [List.length_take]
    omega
  · rw [List.length_take]
    omega
/-- the plain law, as the walk wants it -/
def Plain (S : List Int → Nat → Int → Prop) : Prop := ∀ (ks : List Int) (c : Nat), KsOk ks → 1 ≤ c → c ≤ 4 → (∃ plain res, Facts S ks c plain res) ∧ ∃ pl cnt, PFacts ks c pl cnt
abbrev N_law : List Str := ["script", "k", "box", "by_name", "odds", "kinds", "c", "short", "turn"]
theorem sc_law : FnScope N_law ["script"] (defScope s_law) := ⟨rfl, rfl, rfl, by decide +kernel, rfl, by decide +kernel, by decide +kernel⟩
abbrev spLaw (K : PySem.W.Frag) : Sp := fun vs H Q _ => ∃ (a : Addr) (ns : List Int), vs = [.ref a] ∧ SqL K H a (ns.map V.int) ∧ ∀ H', Q (.bl true) H'
theorem ok_law {S : List Int → Nat → Int → Prop} (pl : Plain S) (T : Txt K mg C) (F : Fn K mg "law" s_law) (c__law_box : Cal P w K mg base 1 "_law_box" ["great"] s__law_box sp__law_box) (c__law_cell : CLC P w K mg base) (c__law_take : Cal P w K mg base 1 "_law_take" ["box", "many"] s__law_take sp__law_take) (c__law_kinds_right : Cal P w K mg base 7 "_law_kinds_right" ["box", "kinds", "c", "by_name"] s__law_kinds_right (sp__law_kinds_right S)) (c__law_plain_right : Cal P w K mg base 7 "_law_plain_right" ["kinds", "c", "by_name"] s__law_plain_right sp__law_plain_right) : Cal P w K mg base 8 "law" ["script"] s_law (spLaw K) := by
  refine cal_mk F sc_law (fun _ _ _ _ _ _ us hl => match us, hl with | [_], _ => rfl) (fun vs H Q E h => ?_) (fun f cdv A outer s H vs Q E hr h => ?_)
  · obtain ⟨a, ns, rfl, _⟩ := h
    rfl
  obtain ⟨a, ns, rfl, hS, q⟩ := h
  refine ⟨_, (pss_cons (ps_for PassesOwn.never rfl (pi_range1 (by rfl) T.b_range (pa_cons (pe_callB (call_max2 rfl) (by rfl) T.b_max (by decide +kernel) (pa_cons pe_int (pa_cons (pe_callB (call_min2 rfl) (by rfl) T.b_min (by decide +kernel) (pa_cons pe_int (pa_cons (pe_callB call_len_seq (by rfl) T.b_len (by decide +kernel) (pa_cons (pv 0) pa_nil)) pa_nil))) pa_nil))) pa_nil)) (pg_name (i := 1) sc_law.nd rfl (Or.inl rfl)) (pss_cons (ps_set (i := 2) sc_law.nd rfl (Or.inr rfl) (pe_cal c__law_box hr (by first | decide | exact Nat.le_refl _) rfl (pa_cons (pe_cal c__law_cell hr (by first | decide | exact Nat.le_refl _) rfl (pa_cons (pv 0) (pa_cons (pv 1) pa_nil))) pa_nil))) (pss_cons (ps_asg (pe_tup (pa_cons (pe_cmpR op_eq (pe_cal c__law_take hr (by first | decide | exact Nat.le_refl _) rfl (pa_cons (pv 2) (pa_cons pe_int pa_nil))) pe_int (nomark _)) (pa_cons (pe_op op_add pe_int (pe_cal c__law_take hr (by first | decide | exact Nat.le_refl _) rfl (pa_cons (pv 2) (pa_cons pe_int pa_nil)))) pa_nil))) (pg_tup (by rfl) (pgs_cons (pg_name (i := 3) sc_law.nd rfl (Or.inl rfl)) (pgs_cons (pg_name (i := 4) sc_law.nd rfl (Or.inr rfl)) pgs_nil)))) (pss_cons (ps_setLc (i := 5) (own := [("turn", 8)]) rfl sc_law.nd rfl rfl (sw_true rfl rfl rfl (by decide +kernel)) (pi_range1 (by rfl) T.b_range (pa_cons (pe_op op_add pe_int (pe_cal c__law_take hr (by first | decide | exact Nat.le_refl _) rfl (pa_cons (pv 2) (pa_cons pe_int pa_nil)))) pa_nil)) (blkOk_by (N := N_law) (own := [("turn", 8)]) (sc := defScope s_law) (by decide +kernel)) (fun _ _ _ _ _ => (pg_name (i := 8) sc_law.nd rfl (Or.inl rfl))) (fun _ _ _ _ _ => pts_nil) (fun _ _ _ _ _ => (pe_callTy call_int1 (by rfl) T.b_int (by decide +kernel) (pa_cons (pe_cmpR op_eq (pe_cal c__law_take hr (by first | decide | exact Nat.le_refl _) rfl (pa_cons (pv 2) (pa_cons (pe_op op_add (pv 4) pe_int) pa_nil))) pe_int (nomark _)) pa_nil)))) (pss_cons (ps_set (i := 6) sc_law.nd rfl (Or.inl rfl) (pe_op op_add pe_int (pe_cal c__law_take hr (by first | decide | exact Nat.le_refl _) rfl (pa_cons (pv 2) (pa_cons pe_int pa_nil))))) (pss_cons (ps_if (PW.pt (pw_or (pt_not (pt_val (pe_cal c__law_kinds_right hr (by first | decide | exact Nat.le_refl _) rfl (pa_cons (pv 2) (pa_cons (pv 5) (pa_cons (pv 6) (pa_cons (pv 3) pa_nil))))))) (pw_or1 (pt_not (pt_val (pe_cal c__law_plain_right hr (by first | decide | exact Nat.le_refl _) rfl (pa_cons (pv 5) (pa_cons (pv 6) (pa_cons (pe_not (pv 3)) pa_nil))))))))) (pss_one (ps_ret pe_bl)) pss_nil) (pss_cons (ps_set (i := 7) sc_law.nd rfl (Or.inl rfl) (pe_slice sl_list (pv 5) po_none (po_some (pe_op op_add pe_int (pe_cal c__law_take hr (by first | decide | exact Nat.le_refl _) rfl (pa_cons (pv 2) (pa_cons pe_int pa_nil))))))) (pss_one (ps_if (pt_not (pt_val (pe_cal c__law_kinds_right hr (by first | decide | exact Nat.le_refl _) rfl (pa_cons (pv 2) (pa_cons (pv 7) (pa_cons (pe_op op_add pe_int (pe_cal c__law_take hr (by first | decide | exact Nat.le_refl _) rfl (pa_cons (pv 2) (pa_cons pe_int pa_nil)))) (pa_cons (pe_not (pv 3)) pa_nil))))))) (pss_one (ps_ret pe_bl)) pss_nil))))))))) (pss_one (ps_ret pe_bl))), ?_⟩
  generalize hI : (fun _ => none : Hp) = I
  have hIn : ∀ x, I x = none := fun x => by rw [← hI]
  have e : ∀ {H1 : Hp}, Ex I H1 := fun x o h => by rw [hIn x] at h; cases h
  have hlen : ∀ {σ : L2.St}, σ[0]? = some (some (V.ref a)) → Ed (tCB (rLenSq K) (tCons (tVar 0) tNil)) σ H I (.int (ns.length : Nat)) := fun {σ} hs H2 e2 b Q q => ⟨_, hs, a, _, rfl, .inl (sq_ex hS e2), by rw [List.length_map]; exact q _ I H2 (Ex.refl _) (Ex.refl _) b (New.refl _ _) (.int _)⟩
  refine q_forR1 (J := I) (n := if (if (ns.length : Int) < 3 then (ns.length : Int) else 3) > 1 then (if (ns.length : Int) < 3 then (ns.length : Int) else 3) else 1) (ea_cons ?_ ea_nil) e (by split <;> split <;> omega) (fun i σ' H' => ∃ x1 x2 x3 x4 x5 x6 x7 x8, σ' = [some (V.ref a), x1, x2, x3, x4, x5, x6, x7, x8] ∧ Ex H H') ?_ ?_ ?_
  · exact ed_max2 (J := I) ed_int (ed_min2 (J := I) ed_int (hlen rfl) e) e
  · intro H1 e1
    exact ⟨none, none, none, none, none, none, none, none, rfl, e1⟩
  · rintro i σ' H' hi ⟨x1, x2, x3, x4, x5, x6, x7, x8, rfl, e1⟩
    have hi3 : i ≤ 3 := by
      split at hi <;> split at hi <;> omega
    -- box = _law_box(_law_cell(script, k))
    refine q_box (ns := ns) rfl rfl (sq_ex hS e1) (by omega) fun p H3 hp e3 bx => ?_
    have hpH : H p = none := e1.free hp
    have x0 : Gb p I H3 I H3 0 := Gb.start e (hIn p) bx
    have eH3 : Ex H H3 := e1.trans e3
    have hout : ∀ {H4 : Hp}, ExL p H3 H4 → Ex H H4 := fun {H4} e4 y o h => e4 y o (fun z => by subst z; rw [hpH] at h; cases h) (eH3 y o h)
    have tk : ∀ {σ : L2.St} {I4 : Hp} {m : Int}, σ[2]? = some (some (.ref p)) → 0 < m → m < 100 → Em (ρ := Int) p 1 (tCall sp__law_take [] E0 (tCons (tVar 2) (tCons (tC (.int m)) tNil))) σ I4 (fun r => 0 ≤ r ∧ r < m) (fun r => .int r) := fun hs h0 h1 => em_take hs ed_int h0 (by omega)
    -- by_name, odds
    have hpair : ∀ {σ : L2.St} {I4 : Hp}, σ[2]? = some (some (.ref p)) → Em (ρ := Int × Int) p 2 (tTup (tCons (tOp rEq (tCall sp__law_take [] E0 (tCons (tVar 2) (tCons (tC (.int 2)) tNil))) (tC (.int 1))) (tCons (tOp (rI0 fun i j => V.int (i + j)) (tC (.int 1)) (tCall sp__law_take [] E0 (tCons (tVar 2) (tCons (tC (.int 4)) tNil)))) tNil))) σ I4 (fun r => 0 ≤ r.2 ∧ r.2 < 4) (fun r => .tuple [.bool (decide (r.1 = 1)), .int (1 + r.2)]) := fun {σ I4} hs => by
      refine em_imp (em_tup (ema_cons (em_eqC (tk hs (by decide) (by decide))) (ema_cons (em_addC (tk hs (by decide) (by decide))) ema_nil)) (fun _ => by show 2 ≤ 100000; decide)) ?_
      rintro ⟨r1, r2, _⟩ hp
      exact ⟨(r1, r2), hp.2.1, rfl⟩
    refine q_pair x0 (hpair rfl) (by decide) fun r I4 H4 hr x4 a4 b4 => ?_
    generalize decide (r.1 = 1) = b
    -- kinds
    refine q_em (k := 13) x4 (em_lcR (ρ1 := Int) (ρ2 := Int) (P1 := fun r => 0 ≤ r ∧ r < 12) (f1 := fun r => 1 + r) (P2 := fun _ => True) (f2 := fun r => if decide (r = 0) = true then 1 else 0) (em_addC (tk rfl (by decide) (by decide))) (fun r h => by omega) (fun i => em_imp (em_intB (em_eqC (em_take (m := 1 + r.2 + 1) rfl (ad_add (ed_var rfl (.int _)) ed_int (Ex.refl _)) (by omega) (by omega)))) fun r _ => ⟨r, trivial, rfl⟩) (fun r _ => by split <;> simp) (fun _ => rfl)) (by decide) fun ks vk I5 H5 hks x5 a5 b5 kk => ?_
    -- c
    refine q_em (k := 1) x5 (em_addC (tk rfl (by decide) (by decide))) (by decide) fun r2 vc I6 H6 hr2 x6 a6 b6 kc => ?_
    cases kc
    obtain ⟨cN, hcN⟩ : ∃ cN : Nat, (1 + r2 : Int) = (cN : Int) := ⟨(1 + r2).toNat, by omega⟩
    rw [hcN]
    obtain ⟨⟨pl1, res1, FA⟩, pl2, cnt2, FB⟩ := pl ks cN hks (by omega) (by omega)
    have kk6 := kk.mono a6
    refine ⟨_, rfl, _, rfl, _, rfl, _, rfl, p, _, I6, ks, cN, pl1, res1, vk, b, rfl, x6.g.o, x6.il, x6.b, by decide, kk6, FA, fun H7 e7 bx7 => ⟨true, rfl, ?_⟩⟩
    have x7 : Gb p I H3 I6 H7 _ := x6.stepL (Ex.refl _) e7 (fun y o h => e7 y o (fun z => by subst z; rw [x6.il] at h; cases h) (x6.g.o y o h)) (New.refl _ _) x6.il bx7
    dsimp only [Bool.not_true]
    rw [if_neg (by simp)]
    -- the plain schedules
    refine ⟨_, rfl, _, rfl, _, rfl, b, rfl, I6, ks, cN, pl2, cnt2, vk, !b, rfl, x7.g.o, kk6, FB, fun H8 e8 => ⟨true, rfl, ?_⟩⟩
    have x8 := x7.go (x7.g.step e8) ((Go.refl x7.g.o).step e8)
    dsimp only [Bool.not_true]
    rw [if_neg (by simp)]
    -- short
    refine q_em (k := 1) x8 (em_slTo (f := fun r => 1 + r) (ed_var rfl kk6) (em_addC (tk rfl (by decide) (by decide)))) (by decide) fun r3 vsh I9 H9 hr3 x9 a9 b9 ks9 => ?_
    rw [cutD_map] at ks9
    have hsh := ksOk_short hks (m := 1 + r3) ⟨by omega, by omega⟩
    generalize cutA ks none (some (1 + r3)) = sh at ks9 hsh
    refine ⟨_, rfl, _, rfl, (em_addC (tk rfl (by decide) (by decide))) I9 H9 _ (Ex.refl _) x9.g.o x9.il x9.b (by decide) _ fun r4 v4 I10 H10 hr4 a10 b10 c10 nw10 il10 bx10 kv10 => ?_⟩
    cases kv10
    obtain ⟨dN, hdN⟩ : ∃ dN : Nat, (1 + r4 : Int) = (dN : Int) := ⟨(1 + r4).toNat, by omega⟩
    rw [hdN]
    obtain ⟨⟨pl3, res3, FC⟩, _⟩ := pl sh dN hsh (by omega) (by omega)
    refine ⟨_, rfl, b, rfl, p, _, I10, sh, dN, pl3, res3, vsh, !b, rfl, c10, il10, bx10, by decide, ks9.mono a10, FC, fun H11 e11 bx11 => ⟨true, rfl, ?_⟩⟩
    dsimp only [Bool.not_true]
    rw [if_neg (by simp)]
    exact ⟨_, _, _, _, _, _, _, _, rfl, hout ((cutH_l x9.g.h).trans (b10.trans e11))⟩
  · rintro σ' H' ⟨x1, x2, x3, x4, x5, x6, x7, x8, rfl, e1⟩
    exact q H'
end
end K84
/-! Keys that are tuples of ints and of tuples of ints: their kind. -/
namespace NK
open PySem
open Sem (wp)
/-- an item of a key: an int, or a tuple of ints -/
abbrev Itm := Sum Int (List Int)
section
variable (prog : Program) (w : World)
def IsItm (h : Heap) : Itm → Value → Prop
  | .inl i, v => v.isInt i = true
  | .inr ks, v => ∃ a, v = .ref a ∧ IsTupleKey (intKind prog w) h ks a
inductive Itms (h : Heap) : List Itm → List Value → Prop
  | nil : Itms h [] []
  | cons {k : Itm} {v : Value} {ks : List Itm} {vs : List Value} : IsItm prog w h k v → Itms h ks vs → Itms h (k :: ks) (v :: vs)
def hashI : Itm → Int
  | .inl i => hashInt i
  | .inr ks => tupleKeyHash (intKind prog w) ks
def drawsI : Itm → Nat
  | .inl _ => 1
  | .inr ks => ks.length + 1
def drawsL (ks : List Itm) : Nat := (ks.map drawsI).sum
def IsKey (h : Heap) (ks : List Itm) (a : Addr) : Prop := ∃ o items n, h.get? a = some o ∧ o.cls = .type "tuple" ∧ o.data = .seq items n ∧ Itms prog w h ks items.toList
def hashK (ks : List Itm) : Int := reduceHash (Builtin.Tuple.tupleHashOf (ks.map (hashI prog w)))
end
section
variable {prog : Program} {w : World} {h h' : Heap}
theorem IsItm.inj : ∀ {x y : Itm} {v : Value}, IsItm prog w h x v → IsItm prog w h y v → x = y
  | .inl i, .inl j, v, hx, hy => by rw [Value.isInt_inj v i j hx hy]
  | .inl i, .inr ks, v, hx, hy => by
    obtain ⟨a, rfl, _⟩ := hy
    obtain ⟨t, e⟩ := Value.isInt_shape hx
    cases e
  | .inr ks, .inl i, v, hx, hy => by
    obtain ⟨a, rfl, _⟩ := hx
    obtain ⟨t, e⟩ := Value.isInt_shape hy
    cases e
  | .inr ks, .inr ls, v, hx, hy => by
    obtain ⟨a, rfl, ka⟩ := hx
    obtain ⟨b, e, kb⟩ := hy
    cases e
    rw [ka.inj kb]
theorem Itms.inj {x y : List Itm} {vs : List Value} (hx : Itms prog w h x vs) (hy : Itms prog w h y vs) : x = y := by
  induction hx generalizing y with
  | nil => cases hy; rfl
  | cons h1 _ ih =>
    cases hy with
    | cons h2 t2 => rw [h1.inj h2, ih t2]
theorem IsKey.typeIs {s : Shared} {ks : List Itm} {a : Addr} (x : IsKey prog w s.heap ks a) : s.TypeIs (.ref a) "tuple" := let ⟨o, _, _, ho, hc, _⟩ := x; ⟨o, ho, hc⟩
theorem IsKey.inj {a : Addr} {x y : List Itm} (hx : IsKey prog w h x a) (hy : IsKey prog w h y a) : x = y := by
  obtain ⟨o, items, n, ho, _, hd, hi⟩ := hx
  obtain ⟨o', items', n', ho', _, hd', hi'⟩ := hy
  obtain rfl : o = o' := Option.some.inj (ho.symm.trans ho')
  rw [hd] at hd'
  injection hd' with h1 _
  subst h1
  exact hi.inj hi'
theorem IsItm.keeps {k : Itm} {v : Value} {d : Addr} {o : Obj} {es ep} (x : IsItm prog w h k v) (ho : h.get? d = some o) (hd : o.data = .dict es ep) (hs : Heap.SameBut d h h') : IsItm prog w h' k v := by
  cases k with
  | inl i => exact x
  | inr ks =>
    obtain ⟨a, rfl, ka⟩ := x
    exact ⟨a, rfl, ka.keeps ho hd hs⟩
theorem Itms.keeps {ks : List Itm} {vs : List Value} {d : Addr} {o : Obj} {es ep} (x : Itms prog w h ks vs) (ho : h.get? d = some o) (hd : o.data = .dict es ep) (hs : Heap.SameBut d h h') : Itms prog w h' ks vs := by
  induction x with
  | nil => exact .nil
  | cons h1 _ ih => exact .cons (h1.keeps ho hd hs) ih
theorem IsKey.keeps {ks : List Itm} {a d : Addr} {o : Obj} {es ep} (x : IsKey prog w h ks a) (ho : h.get? d = some o) (hd : o.data = .dict es ep) (hs : Heap.SameBut d h h') : IsKey prog w h' ks a := by
  obtain ⟨o', items, n, ho', hc, hd', hi⟩ := x
  have hne : a ≠ d := by
    rintro rfl
    obtain rfl : o' = o := Option.some.inj (ho'.symm.trans ho)
    rw [hd] at hd'; exact nomatch hd'
  exact ⟨o', items, n, (hs.2 a hne).trans ho', hc, hd', hi.keeps ho hd hs⟩
variable {A : Around} {E : Value → Shared → Prop} {s : Shared}
theorem itm_hash {k : Itm} {v : Value} {Q : Int → Shared → Prop} (hu : A.units < cLine) (hk : IsItm prog w s.heap k v) (h : Q (hashI prog w k) { s with toks := s.toks + drawsI k }) : wpAny (model prog w) A (pyHash v) Q E s := by
  cases k with
  | inl i => exact (intKind prog w).pyHash (k := i) hk h
  | inr ks =>
    obtain ⟨a, rfl, ka⟩ := hk
    exact wpAny_pyHash_tuple hu ka h
theorem itm_eq {x y : Itm} {u v : Value} {Q : Bool → Shared → Prop} (hu : A.units < cLine) (hs : x.isLeft = y.isLeft) (hx : IsItm prog w s.heap x u) (hy : IsItm prog w s.heap y v) (h : Q (decide (x = y)) s) : wpAny (model prog w) A (eqBool u v) Q E s := by
  cases x with
  | inl i =>
    cases y with
    | inl j =>
      refine (intKind prog w).eqBool (a := i) (b := j) hx hy ?_
      simpa using h
    | inr ls => cases hs
  | inr ks =>
    cases y with
    | inl j => cases hs
    | inr ls =>
      obtain ⟨a, rfl, ka⟩ := hx
      obtain ⟨b, rfl, kb⟩ := hy
      refine wpAny_eqBool_tuple hu ka kb ?_
      simpa using h
theorem key_hash {ks : List Itm} {a : Addr} {Q : Int → Shared → Prop} (hu : A.units + 60 < cLine) (hk : IsKey prog w s.heap ks a) (h : Q (hashK prog w ks) { s with toks := s.toks + (drawsL ks + 1) }) :
    wpAny (model prog w) A (pyHash (.ref a)) Q E s := by
  have hT := hk.typeIs
  obtain ⟨o, items, n, ho, _, hd, hi⟩ := hk
  unfold pyHash
  first | unfold pyHashByItsType | skip
  first | refine wpAny_bind (wpAny_cRoomFor_or (.inr (by omega)) ?_) | skip
  refine wpAny_bind (wpAny_specialOf hT F.slot_tuple_hash.lookup ?_)
  show wpAny _ _ (if (some (Value.builtin "tuple.__hash__") == some Value.none) = true then _ else _) Q E s
  rw [if_neg (by rw [beq_builtin_none]; exact Bool.false_ne_true)]
  refine wpAny_bind (wpAny_specialOf hT F.slot_tuple_hash.lookup ?_)
  show wpAny _ _ (callSpecialIfBoundUnlessNone? (.ref a) "__hash__" _ >>= _) Q E s
  refine wpAny_bind (wpAny_callSpecialIfBoundUnlessNone?_slot hT F.slot_tuple_hash (wpAny_call_entry F.slot_tuple_hash hT F.entry_tuple_hash ?_ (F.args_tuple_hash_1 _)))
  show wpAny _ _ (Builtin.Tuple.tupleItemsOf (.ref a) >>= _) _ _ s
  refine wpAny_bind (wpAny_tupleItemsOf ho hd ?_)
  refine wpAny_bind ?_
  rw [← Array.forIn_toList]
  refine wpAny_forIn_list _
    (fun rest (b : Array Int) s' => ∃ done left, ks = done ++ left ∧ Itms prog w s.heap left rest ∧ b.toList = done.map (hashI prog w) ∧ s' = { s with toks := s.toks + drawsL done })
    _ ?_ ?_ _ _ ⟨[], ks, rfl, hi, rfl, rfl⟩
  · rintro x rest b s' ⟨done, left, rfl, hl, hb, rfl⟩
    cases hl with
    | @cons k _ ks' _ h1 hl' =>
      refine wpAny_bind (itm_hash (k := k) ?_ h1 ?_)
      · show A.units + 1 < cLine
        omega
      · have e : drawsL (done ++ [k]) = drawsL done + drawsI k := by unfold drawsL; simp
        first
          | exact wpAny_pure ⟨done ++ [k], ks', by simp, hl', by simp [hb], by simp [e, Nat.add_assoc]⟩
          | exact wpAny_bind (wpAny_pure (wpAny_pure ⟨done ++ [k], ks', by simp, hl', by simp [hb], by simp [e, Nat.add_assoc]⟩))
  · rintro b s' ⟨done, left, rfl, hl, hb, rfl⟩
    cases hl
    rw [List.append_nil] at h
    show wpAny _ _ (retInt (Builtin.Tuple.tupleHashOf b.toList)) _ _ _
    rw [hb]
    refine wpAny_ret_mkInt ?_
    show wpAny _ _ (if (decide (-(2 : Int) ^ 63 ≤ Builtin.Tuple.tupleHashOf (done.map (hashI prog w))) && decide (Builtin.Tuple.tupleHashOf (done.map (hashI prog w)) < 2 ^ 63)) = true then _ else _) Q E _
    unfold hashK reduceHash at h
    by_cases hr : (decide (-(2 : Int) ^ 63 ≤ Builtin.Tuple.tupleHashOf (done.map (hashI prog w))) && decide (Builtin.Tuple.tupleHashOf (done.map (hashI prog w)) < 2 ^ 63)) = true
    · rw [if_pos hr]
      rw [if_pos hr] at h
      exact wpAny_pure (by simpa [Nat.add_assoc] using h)
    · rw [if_neg hr]
      rw [if_neg hr] at h
      exact wpAny_bind (wpAny_rule (wpAny_pure (by simpa [Nat.add_assoc] using h)))
theorem key_eq_tree {x y : List Itm} {a b : Addr} {P : Fin → Shared → Prop} (hu : A.units < cLine) (hsh : x.map Sum.isLeft = y.map Sum.isLeft) (hx : IsKey prog w s.heap x a) (hy : IsKey prog w s.heap y b) (h : P (.done (.ret (.bool (decide (x = y))))) s) :
    wpAny (model prog w) A (Builtin.«tuple.__eq__» ⟨[.ref a, .ref b], []⟩) P E s := by
  have hTb := hy.typeIs
  obtain ⟨oa, xs, na, hoa, _, hda, hia⟩ := hx
  obtain ⟨ob, ys, nb, hob, _, hdb, hib⟩ := hy
  show wpAny _ _ (isInstance (.ref b) (.type "tuple") >>= _) _ _ s
  refine wpAny_bind (wpAny_isInstance hTb isSubtype_tuple_tuple ?_)
  simp only [Bool.not_true, Bool.false_eq_true, if_false]
  refine wpAny_bind (wpAny_tupleItemsOf hoa hda ?_)
  refine wpAny_bind (wpAny_tupleItemsOf hob hdb ?_)
  refine wpAny_bind ?_
  refine wpAny_forIn_list _
    (fun rest r s' => r.1 = none ∧ s' = s ∧ ∃ x' y' xs' ys', rest = List.zip xs' ys' ∧ Itms prog w s.heap x' xs' ∧ Itms prog w s.heap y' ys' ∧ x'.map Sum.isLeft = y'.map Sum.isLeft ∧ decide (x' = y') = decide (x = y) ∧ (xs'.length == ys'.length) = (xs.size == ys.size))
    _ ?_ ?_ _ _ ⟨rfl, rfl, x, y, xs.toList, ys.toList, rfl, hia, hib, hsh, rfl, by simp⟩
  · rintro ⟨u, v⟩ rest r s' ⟨hr, rfl, x', y', xs', ys', hz, hx', hy', hs2, hdec, hlen⟩
    cases hx' with
    | nil => simp at hz
    | @cons k1 u' x'' xs'' h1 hx'' =>
      cases hy' with
      | nil => simp at hz
      | @cons k2 v' y'' ys'' h2 hy'' =>
        simp only [List.zip_cons_cons, List.cons.injEq, Prod.mk.injEq] at hz
        obtain ⟨⟨rfl, rfl⟩, rfl⟩ := hz
        simp only [List.map_cons, List.cons.injEq] at hs2
        refine wpAny_bind (itm_eq (x := k1) (y := k2) hu hs2.1 h1 h2 ?_)
        by_cases hk : k1 = k2
        · subst hk
          rw [decide_eq_true rfl]
          simp only [Bool.not_true, Bool.false_eq_true, if_false]
          refine wpAny_pure ⟨rfl, rfl, x'', y'', xs'', ys'', rfl, hx'', hy'', hs2.2, ?_, by simpa using hlen⟩
          rw [← hdec]
          by_cases hxy : x'' = y''
          · simp [hxy]
          · simp [hxy]
        · rw [decide_eq_false hk]
          simp only [Bool.not_false, if_true]
          have hf : decide (x = y) = false := by rw [← hdec]; simp [hk]
          rw [hf] at h
          exact wpAny_bind (wpAny_pure (wpAny_pure (wpAny_pure h)))
  · rintro ⟨r1, r2⟩ s' ⟨hr, rfl, x', y', xs', ys', hz, hx', hy', hs2, hdec, hlen⟩
    simp only at hr
    subst hr
    refine wpAny_pure ?_
    have hfin : (xs.size == ys.size) = decide (x = y) := by
      rw [← hdec, ← hlen]
      cases hx' with
      | nil =>
        cases hy' with
        | nil => simp
        | cons _ _ => simp
      | cons _ _ =>
        cases hy' with
        | nil => simp
        | cons _ _ => simp at hz
    show P (.done (.ret (.bool (xs.size == ys.size)))) s'
    rw [hfin]; exact h
theorem key_eq {x y : List Itm} {a b : Addr} {Q : Bool → Shared → Prop} (hu : A.units + 60 < cLine) (hsh : x.map Sum.isLeft = y.map Sum.isLeft) (hx : IsKey prog w s.heap x a) (hy : IsKey prog w s.heap y b) (h : Q (decide (x = y)) s) :
    wpAny (model prog w) A (eqBool (.ref a) (.ref b)) Q E s := by
  unfold eqBool
  try with_reducible refine wpAny_holding ?_
  show wpAny _ _ (if (Value.ref a == Value.ref b) = true then _ else _) Q E s
  by_cases hab : (Value.ref a == Value.ref b) = true
  · rw [if_pos hab]
    have e : a = b := by have := eq_of_beq hab; injection this
    subst e
    obtain rfl := hx.inj hy
    exact wpAny_bind (wpAny_rule (wpAny_pure (by simpa using h)))
  · rw [if_neg hab]
    refine wpAny_bind (wpAny_richCompare_same_room (op := .Eq) hx.typeIs hy.typeIs F.slot_tuple_eq
      (wpAny_call_entry F.slot_tuple_eq hx.typeIs F.entry_tuple_eq (key_eq_tree ?_ hsh hx hy ⟨_, rfl, (fun e => nomatch e), wpAny_truthy_bool h⟩) (F.args_tuple_eq_2 _ _)) (by omega))
    show A.units + 1 < cLine
    omega
theorem flat_quiet {ks : List Int} {a : Addr} {Q : Bool → Shared → Prop} (hk : IsTupleKey (intKind prog w) s.heap ks a) (h : Q true s) : wpAny (model prog w) A (eqIsQuiet 7 (.ref a)) Q E s := by
  have hT := hk.typeIs
  obtain ⟨o, items, n, ho, _, hd, hi⟩ := hk
  unfold eqIsQuiet
  refine wpAny_bind (wpAny_specialOf hT F.slot_tuple_eq.lookup ?_)
  show wpAny _ _ (isInstance (.ref a) (.type "tuple") >>= _) _ _ s
  refine wpAny_bind (wpAny_isInstance hT isSubtype_tuple_tuple ?_)
  simp only [Bool.not_true, Bool.false_eq_true, if_false]
  refine wpAny_bind (wpAny_seqItems ho hd ?_)
  refine wpAny_bind ?_
  show wpAny _ _ (forIn items _ _) _ _ s
  rw [← Array.forIn_toList]
  refine wpAny_forIn_list _ (fun rest r s' => r.1 = none ∧ s' = s ∧ ∀ v ∈ rest, carriedByValue v = true) _ ?_ ?_ _ _ ⟨rfl, rfl, hi.byValue⟩
  · rintro v rest r s' ⟨hr, rfl, hall⟩
    rw [eqIsQuiet_byValue _ (hall v List.mem_cons_self)]
    refine wpAny_bind (wpAny_pure ?_)
    simp only [Bool.not_true, Bool.false_eq_true, if_false]
    exact wpAny_pure ⟨rfl, rfl, fun u hu' => hall u (List.mem_cons_of_mem _ hu')⟩
  · rintro ⟨r1, r2⟩ s' ⟨hr, rfl, _⟩
    simp only at hr
    subst hr
    exact wpAny_pure h
theorem itm_quiet {k : Itm} {v : Value} {Q : Bool → Shared → Prop} (hk : IsItm prog w s.heap k v) (h : Q true s) : wpAny (model prog w) A (eqIsQuiet 7 v) Q E s := by
  cases k with
  | inl i =>
    obtain ⟨t, rfl⟩ := Value.isInt_shape hk
    rw [eqIsQuiet_byValue _ rfl]
    exact wpAny_pure h
  | inr ks =>
    obtain ⟨a, rfl, ka⟩ := hk
    exact flat_quiet ka h
theorem key_quiet {ks : List Itm} {a : Addr} {Q : Bool → Shared → Prop} (hk : IsKey prog w s.heap ks a) (h : Q true s) : wpAny (model prog w) A (eqIsQuiet 8 (.ref a)) Q E s := by
  have hT := hk.typeIs
  obtain ⟨o, items, n, ho, _, hd, hi⟩ := hk
  unfold eqIsQuiet
  refine wpAny_bind (wpAny_specialOf hT F.slot_tuple_eq.lookup ?_)
  show wpAny _ _ (isInstance (.ref a) (.type "tuple") >>= _) _ _ s
  refine wpAny_bind (wpAny_isInstance hT isSubtype_tuple_tuple ?_)
  simp only [Bool.not_true, Bool.false_eq_true, if_false]
  refine wpAny_bind (wpAny_seqItems ho hd ?_)
  refine wpAny_bind ?_
  show wpAny _ _ (forIn items _ _) _ _ s
  rw [← Array.forIn_toList]
  refine wpAny_forIn_list _ (fun rest r s' => r.1 = none ∧ s' = s ∧ ∃ left, Itms prog w s.heap left rest) _ ?_ ?_ _ _ ⟨rfl, rfl, ks, hi⟩
  · rintro v rest r s' ⟨hr, rfl, left, hl⟩
    cases hl with
    | cons h1 hl' =>
      refine wpAny_bind (itm_quiet h1 ?_)
      simp only [Bool.not_true, Bool.false_eq_true, if_false]
      exact wpAny_pure ⟨rfl, rfl, _, hl'⟩
  · rintro ⟨r1, r2⟩ s' ⟨hr, rfl, _⟩
    simp only at hr
    subst hr
    exact wpAny_pure h
end
/-- the three of a key -/
abbrev K3 := Int × List Int × Int
def itms3 (k : K3) : List Itm := [.inl k.1, .inr k.2.1, .inl k.2.2]
theorem itms3_inj {x y : K3} : itms3 x = itms3 y ↔ x = y := by
  obtain ⟨a, b, c⟩ := x
  obtain ⟨d, e, f⟩ := y
  simp [itms3]
def nestKind (prog : Program) (w : World) : HeapKind prog w K3 where
  is := fun h k a => IsKey prog w h (itms3 k) a
  hash := fun k => hashK prog w (itms3 k)
  draws := fun k => drawsL (itms3 k) + 1
  room := fun A => A.units + 60 < cLine
  inj := fun hx hy => itms3_inj.mp (hx.inj hy)
  keeps := fun x ho hd hs => x.keeps ho hd hs
  pyHash := fun hu hk h => key_hash hu hk h
  eqBool := fun {A E s x y a b Q} hu hx hy h => key_eq (x := itms3 x) (y := itms3 y) hu rfl hx hy (by
    rw [show decide (itms3 x = itms3 y) = decide (x = y) by simp [itms3_inj]]
    exact h)
  quiet := fun hk h => key_quiet hk h
end NK
/-! A dict whose keys are (int, tuple of ints, int), its values whole numbers. -/
namespace ND
open PySem PySem.Spec PyProof.Rows L2 NK
abbrev KVN := List (K3 × Addr × V)
abbrev NR : K3 × Addr × V → K3 × Addr × Value → Prop := fun p q => p.1 = q.1 ∧ p.2.1 = q.2.1 ∧ RelV p.2.2 q.2.2
def NDo (P : Program) (w : World) (a : Addr) (kvs : KVN) : HO := .ext fun h => (a == sysModules) = false ∧ kvs.length ≤ sizeLine ∧ ∃ xs : List (K3 × Addr × Value), Paired NR kvs xs ∧
  ∃ o es ep, h.get? a = some o ∧ o.ExactDict ∧ o.data = .dict es ep ∧ es.toList = xs.map (entryOfKey (nestKind P w)) ∧ (xs.map (·.1)).Nodup
/-- the key k stands at b -/
def KeyAt (H : Hp) (k : K3) (b : Addr) : Prop := ∃ b2, H b = some (.tup [.int k.1, .ref b2, .int k.2.2]) ∧ H b2 = some (.tup (k.2.1.map V.int))
def NDok (H : Hp) (kvs : KVN) : Prop := ∀ p ∈ kvs, KeyAt H p.1 p.2.1
section
variable {P : Program} {w : World} {H : Hp} {h : Heap} {a b : Addr} {kvs : KVN} {k : K3}
theorem vals_ints : ∀ {ks : List Int} {us : List Value}, Vals (ks.map V.int) us → ItemsAre (intKind P w) ks us
  | [], _, r => by cases r; exact .nil
  | k :: ks, _, r => by
    cases r with
    | cons r t =>
      obtain ⟨t', rfl⟩ := (show ∃ t, _ = Value.int k t from r)
      exact .cons (by simp [intKind, Value.isInt]) (vals_ints t)
theorem key_ok (ok : HOk P w H h) (e : KeyAt H k b) : IsKey P w h (itms3 k) b := by
  obtain ⟨b2, e1, e2⟩ := e
  obtain ⟨_, its, r, o, h1, h2, n, h3⟩ := (show ObjOk P w H h b (.tup _) from ok b _ e1)
  obtain ⟨_, its2, r2, o2, g1, g2, n2, g3⟩ := (show ObjOk P w H h b2 (.tup _) from ok b2 _ e2)
  refine ⟨o, its.toArray, n, h1, h2, h3, ?_⟩
  cases r with
  | cons r1 r =>
    cases r with
    | cons r3 r =>
      cases r with
      | cons r4 r =>
        cases r
        obtain ⟨t1, rfl⟩ := (show ∃ t, _ = Value.int k.1 t from r1)
        obtain ⟨t4, rfl⟩ := (show ∃ t, _ = Value.int k.2.2 t from r4)
        have r3 : _ = Value.ref b2 := r3
        subst r3
        exact .cons (by simp [IsItm, Value.isInt]) (.cons ⟨b2, rfl, o2, its2.toArray, n2, g1, g2, g3, by simpa using vals_ints r2⟩ (.cons (by simp [IsItm, Value.isInt]) .nil))
theorem nd_of (ok : HOk P w H h) (e : H a = some (NDo P w a kvs)) (kk : NDok H kvs) : (a == sysModules) = false ∧ kvs.length ≤ sizeLine ∧ ∃ xs, Paired NR kvs xs ∧ h.DictOfH (nestKind P w) a xs := by
  obtain ⟨⟨h0, hz, xs, r, o, es, ep, h1, h2, h3, h4, h5⟩, _⟩ := (show ObjOk P w H h a (NDo P w a kvs) from ok a _ e)
  refine ⟨h0, hz, xs, r, o, es, ep, h1, h2, h3, h4, fun x hx => ?_, h5⟩
  have all : ∀ {l : KVN} {m : List (K3 × Addr × Value)}, Paired NR l m → NDok H l → ∀ x ∈ m, IsKey P w h (itms3 x.1) x.2.1 := by
    intro l m q
    induction q with
    | nil => intro _ x hx; exact nomatch hx
    | @cons p q ps qs hq t ih =>
      intro hk x hx
      rcases List.mem_cons.mp hx with e | hx
      · subst e
        rw [← hq.1, ← hq.2.1]
        exact key_ok ok (hk p (List.mem_cons_self ..))
      · exact ih (fun y hy => hk y (List.mem_cons_of_mem _ hy)) x hx
  exact all r kk x hx
end
/-- what stands at a key -/
def nget (kvs : KVN) (k : K3) : Option V := (kvs.find? fun x => decide (x.1 = k)).map (·.2.2)
def nput (kvs : KVN) (k : K3) (b : Addr) (v : V) : KVN := if (nget kvs k).isSome then kvs.map fun x => if x.1 = k then (x.1, x.2.1, v) else x else kvs ++ [(k, b, v)]
theorem nr_get : ∀ {kvs : KVN} {xs : List (K3 × Addr × Value)} (k : K3), Paired NR kvs xs → RelO (nget kvs k) ((atKey xs k).map (·.2))
  | _, _, k, .nil => True.intro
  | _, _, k, .cons (a := p) (b := q) r t => by
    obtain ⟨r1, r2, r3⟩ := r
    have ih := nr_get k t
    unfold nget atKey at ih ⊢
    rw [List.find?_cons, List.find?_cons]
    by_cases e : p.1 = k
    · rw [decide_eq_true e, decide_eq_true (r1 ▸ e)]
      exact r3
    · rw [decide_eq_false e, decide_eq_false (r1 ▸ e)]
      exact ih
end ND
namespace ND
open PySem PySem.Spec PyProof.Rows L2 NK
theorem nr_map (k : K3) {v : V} {u : Value} (rv : RelV v u) : ∀ {kvs : KVN} {xs : List (K3 × Addr × Value)}, Paired NR kvs xs → Paired NR (kvs.map fun x => if x.1 = k then (x.1, x.2.1, v) else x) (xs.map (putAt k u))
  | _, _, .nil => .nil
  | _, _, .cons (a := p) (b := q) r t => by
    obtain ⟨r1, r2, r3⟩ := r
    refine .cons ?_ (nr_map k rv t)
    unfold putAt
    show NR (if p.1 = k then (p.1, p.2.1, v) else p) _
    by_cases e : p.1 = k
    · rw [if_pos e, if_pos (r1 ▸ e)]
      exact ⟨r1, r2, rv⟩
    · rw [if_neg e, if_neg (r1 ▸ e)]
      exact ⟨r1, r2, r3⟩
theorem nr_put {kvs : KVN} {xs : List (K3 × Addr × Value)} (r : Paired NR kvs xs) (k : K3) (b : Addr) {v : V} {u : Value} (rv : RelV v u) : Paired NR (nput kvs k b v) (storedH xs k b u) := by
  have hs : (nget kvs k).isSome = (atKey xs k).isSome := by
    have h := (nr_get k r).isSome_eq
    rw [Option.isSome_map] at h
    exact h
  unfold nput storedH
  by_cases q : (nget kvs k).isSome = true
  · rw [if_pos q, if_pos (hs ▸ q)]
    exact nr_map k rv r
  · rw [if_neg q, if_neg (fun z => q (hs.trans z))]
    exact Paired.snoc r ⟨rfl, rfl, rv⟩
theorem nput_len (kvs : KVN) (k : K3) (b : Addr) (v : V) : (nput kvs k b v).length ≤ kvs.length + 1 := by
  unfold nput
  split
  · rw [List.length_map]; omega
  · rw [List.length_append]; exact Nat.le_refl _
section
variable {X : Cx} {pins : List (Addr × Obj)} {σ : L2.St} {H : Hp} {s : Shared} {a b : Addr} {v : V} {u r : Value} {kvs : KVN} {k : K3} {A : Around} {E : Value → Shared → Prop}
theorem room_nest (hu : A.units + 61 < cLine) : (nestKind X.prog X.w).room A.in1 := by
  show A.units + 1 + 60 < cLine
  omega
/-- d[k], there -/
theorem n_getItem {Q : Value → Shared → Prop} (hu : A.units + 61 < cLine) (I : Inv X pins σ H s) (e : H a = some (NDo X.prog X.w a kvs)) (kk : NDok H kvs) (ek : KeyAt H k b) (l : nget kvs k = some v) (h : ∀ w' s', Inv X pins σ H s' → RelV v w' → Q w' s') :
    wpAny (model X.prog X.w) A (getItem (.ref a) (.ref b)) Q E s := by
  obtain ⟨h0, hz, xs, rel, dd⟩ := nd_of I.hok e kk
  obtain ⟨w', hw, rw'⟩ := RelO.some_of (v := v) (o := (atKey xs k).map (·.2)) (by rw [← l]; exact nr_get k rel)
  obtain ⟨p, hp, hp2⟩ := Option.map_eq_some_iff.mp hw
  refine wpAny_getItem_heap (room_nest hu) (key_ok I.hok ek) dd hp ?_
  rw [hp2]
  exact h w' _ (I.tok _) rw'
/-- d.get(k, x) -/
theorem n_get2 {d : V} {Q : Value → Shared → Prop} (hu : A.units + 61 < cLine) (I : Inv X pins σ H s) (e : H a = some (NDo X.prog X.w a kvs)) (kk : NDok H kvs) (ek : KeyAt H k b) (rd : RelV d r) (h : ∀ w' s', Inv X pins σ H s' → RelV ((nget kvs k).getD d) w' → Q w' s') :
    wpAny (model X.prog X.w) A (call (.builtin "dict.get") [.ref a, .ref b, r]) Q E s := by
  obtain ⟨h0, hz, xs, rel, dd⟩ := nd_of I.hok e kk
  refine call_meetsIn PySem.F.slot_dict_get dd.typeIs PySem.F.entry_dict_get (PySem.F.args_dict_get_3 _ _ _) (meetsH_dict_get_default (nestKind X.prog X.w) a b h0 r) ⟨room_nest hu, k, xs, key_ok I.hok ek, dd, h _ _ (I.tok _) ?_⟩
  exact (nr_get k rel).getD rd
/-- d[k] = v -/
theorem n_setItem {Q : Unit → Shared → Prop} (hu : A.units + 61 < cLine) (I : Inv X pins σ H s) (e : H a = some (NDo X.prog X.w a kvs)) (kk : NDok H kvs) (ek : KeyAt H k b) (hl : kvs.length < sizeLine) (rv : RelV v r) (h : ∀ s', Inv X pins σ (upd H a (NDo X.prog X.w a (nput kvs k b v))) s' → Q () s') :
    wpAny (model X.prog X.w) A (setItem (.ref a) (.ref b) r) Q E s := by
  obtain ⟨h0, hz, xs, rel, dd⟩ := nd_of I.hok e kk
  have hzx : xs.length ≤ sizeLine := by rw [← Paired.length rel]; exact hz
  have hl2 : (nput kvs k b v).length ≤ sizeLine := by have := nput_len kvs k b v; omega
  refine wpAny_setItem_heap (hsz := hzx) (room_nest hu) (key_ok I.hok ek) dd fun h' dd' hs => h _ ?_
  obtain ⟨q, es, ep, hq, h2, h3, h4, _, h5⟩ := dd'
  refine d_write I (by rw [e]; exact True.intro) hs ⟨q, hq⟩ ⟨⟨h0, hl2, _, nr_put rel k b rv, q, es, ep, hq, h2, h3, h4, h5⟩, ⟨q, hq⟩, fun g1 g2 z st => ?_⟩
  obtain ⟨z0, z1, xs2, z2, o2, es2, ep2, y1, y2, y3, y4, y5⟩ := z
  exact ⟨z0, z1, xs2, z2, o2, es2, ep2, st _ y1, y2, y3, y4, y5⟩
end
end ND
/-! The rules for such a dict. -/
namespace ND
open PySem PySem.Spec PyProof.Rows L2 NK
section
variable (P : Program) (w : World)
def tNGet (td ty : TE) : TE := fun σ H Q => td σ H fun x H1 => ty σ H1 fun y H2 => ∃ a b kvs k v, x = .ref a ∧ y = .ref b ∧ H2 a = some (NDo P w a kvs) ∧ NDok H2 kvs ∧ KeyAt H2 k b ∧ nget kvs k = some v ∧ Q v H2
def tNGet2 (td ty tx : TE) : TE := fun σ H Q => td σ H fun x H1 => ∃ a kvs0, x = .ref a ∧ H1 a = some (NDo P w a kvs0) ∧ NDok H1 kvs0 ∧ ty σ H1 fun y H2 => tx σ H2 fun z H3 => ∃ b kvs k, y = .ref b ∧ H3 a = some (NDo P w a kvs) ∧ NDok H3 kvs ∧ KeyAt H3 k b ∧ Q ((nget kvs k).getD z) H3
def sNPut (td ty tv : TE) : TS := fun D σ H => tv σ H fun v H1 => td σ H1 fun x H2 => ty σ H2 fun y H3 => ∃ a b kvs k, x = .ref a ∧ y = .ref b ∧ H3 a = some (NDo P w a kvs) ∧ NDok H3 kvs ∧ KeyAt H3 k b ∧ kvs.length < sizeLine ∧ D.nx σ (upd H3 a (NDo P w a (nput kvs k b v)))
end
section
variable {X : Cx} {o i e f value : Expr} {pos pos' apos cpos : Pos} {td ty tv tx : TE}
theorem pe_nget (hu : X.A.units + 61 < cLine) (ho : PE X o td) (hi : PE X i ty) (hs : NoSl i) : PE X (.Subscript o i pos) (tNGet X.prog X.w td ty) := by
  refine ⟨fun pins s σ H Q I h => ?_⟩
  refine subD_of PySem.F.slot_dict_getitem.lookup hs (thn (ho.run pins s σ H _ I h) fun u s1 ⟨x, H1, I1, rx, q1⟩ => thn (hi.run pins s1 σ H1 _ I1 q1) fun iv s2 ⟨y, H2, I2, ry, a, b, kvs, k, v, ex, ey, g1, g2, g3, g4, q2⟩ => ?_)
  subst ex
  subst ey
  obtain rfl : u = Value.ref a := rx
  obtain rfl : iv = Value.ref b := ry
  obtain ⟨h0, hz, xs, rel, dd⟩ := nd_of I2.hok g1 g2
  exact ⟨dd.typeIs, n_getItem hu I2 g1 g2 g3 g4 fun w' s3 I3 rw' => ⟨v, H2, I3, rw', q2⟩⟩
theorem pe_nget2 (hu : X.A.units + 61 < cLine) (ho : PE X o td) (he : PE X e ty) (hf : PE X f tx) (m : M2 X o "get" apos e f cpos) : PE X (.Call (.Attribute o "get" apos) [e, f] [] cpos) (tNGet2 X.prog X.w td ty tx) := by
  refine ⟨fun pins s σ H Q I h => ?_⟩
  refine wpAny_Call_method m.base m.few m.line PySem.F.plainAttrs_dict PySem.F.slot_dict_get PySem.F.type_dict_get (thn (ho.run pins s σ H _ I h) fun u s1 ⟨x, H1, I1, rx, a, kvs0, ex, g1, g2, q1⟩ => ?_)
  subst ex
  obtain rfl : u = Value.ref a := rx
  obtain ⟨h0, hz, xs, rel, dd⟩ := nd_of I1.hok g1 g2
  refine ⟨dd.typeIs, fun b q => ?_, ?_⟩
  · cases q
    obtain ⟨ob, _, _, h1, h2, _⟩ := dd
    exact ⟨ob, h1, h2.2.1⟩
  rw [m.trees]
  refine Calls.callWith_builtin rfl (Calls.evalArgs_plain (Calls.spliced_cons (thn (he.run pins s1 σ H1 _ I1 q1) fun iv s2 ⟨y, H2, I2, ry, q2⟩ =>
    Calls.spliced_cons (thn (hf.run pins s2 σ H2 _ I2 q2) fun fv s3 ⟨z, H3, I3, rz, b, kvs, k, ey, g3, g4, g5, q3⟩ => Calls.spliced_nil ?_))))
  subst ey
  obtain rfl : iv = Value.ref b := ry
  exact n_get2 hu I3 g3 g4 g5 rz fun w' s4 I4 rw' => ⟨_, H3, I4, rw', q3⟩
theorem ps_nput (hu : X.A.units + 61 < cLine) (ho : PE X o td) (hi : PE X i ty) (hv : PE X value tv) (hs : swapsWith value (some (.Subscript o i pos')) pos.line X.env = pure false) :
    PS X (.Assign [.Subscript o i pos'] value pos) (sNPut X.prog X.w td ty tv) := by
  refine ⟨fun pins s σ H D I h => ?_⟩
  refine wpAny_Assign_Subscript (thn (hv.run pins s σ H _ I h) fun r s1 ⟨v, H1, I1, rv, q1⟩ => thn (ho.run pins s1 σ H1 _ I1 q1) fun u s2 ⟨x, H2, I2, rx, q2⟩ => thn (hi.run pins s2 σ H2 _ I2 q2) fun iv s3 ⟨y, H3, I3, ry, a, b, kvs, k, ex, ey, g1, g2, g3, hl, q3⟩ => ?_) hs
  subst ex
  subst ey
  obtain rfl : u = Value.ref a := rx
  obtain rfl : iv = Value.ref b := ry
  exact n_setItem hu I3 g1 g2 g3 hl rv fun s4 I4 => ⟨σ, _, I4, q3⟩
end
end ND
namespace ND
open PySem PySem.Spec PyProof.Rows L2 NK
theorem nd_empty {P : Program} {w : World} {H : Hp} (h : Heap) (hb : sysModules < h.objs.size) : ObjOk P w H (h.push { cls := .type "dict", data := .dict #[] }) h.objs.size (NDo P w h.objs.size []) :=
  ⟨⟨beq_eq_false_iff_ne.mpr (Ne.symm (Nat.ne_of_lt hb)), Nat.zero_le _, [], .nil, _, #[], 0, Heap.get?_push_size _ rfl, ⟨rfl, rfl, rfl⟩, rfl, rfl, List.nodup_nil⟩, ⟨_, Heap.get?_push_size _ rfl⟩, fun h1 h2 z st => by
    obtain ⟨z0, z1, xs2, z2, o2, es2, ep2, y1, y2, y3, y4, y5⟩ := z
    exact ⟨z0, z1, xs2, z2, o2, es2, ep2, st _ y1, y2, y3, y4, y5⟩⟩
/-- {k: v} -/
def tNDisp (P : Program) (w : World) (ty tv : TE) : TE := fun σ H Q => ∀ p, H p = none → ty σ (upd H p (NDo P w p [])) fun y H1 => tv σ H1 fun v H2 => ∃ b k, y = .ref b ∧ H2 p = some (NDo P w p []) ∧ KeyAt H2 k b ∧ Q (.ref p) (upd H2 p (NDo P w p [(k, b, v)]))
theorem pe_ndisp {X : Cx} {pos : Pos} {k v : Expr} {ty tv : TE} (hu : X.A.units + 61 < cLine) (hk : PE X k ty) (hv : PE X v tv) : PE X (.Dict [some k] [v] pos) (tNDisp X.prog X.w ty tv) := by
  refine ⟨fun pins s σ H Q I q => ?_⟩
  have hn := I.hok.fresh (Nat.le_refl s.heap.objs.size)
  have I1 := I.laid (a := s.heap.objs.size) (o := NDo X.prog X.w s.heap.objs.size []) (h' := s.heap.push { cls := .type "dict", data := .dict #[] }) (t' := s.toks) (fun _ _ q => Heap.get?_push_of_some _ q) (Nat.le_refl _) (nd_empty s.heap I.big)
  rw [arm_eval_Dict, zip_pairTrees [some k] [v] X.env pos rfl rfl, dictDisplay_pairs _ (by simp [pairTrees]) (by simp [pairTrees])]
  refine wpAny_bind (wpAny_standAt (wpAny_bind ?_))
  unfold subDict
  refine wpAny_bind (wpAny_alloc ?_)
  refine wpAny_bind (wpAny_holding ?_)
  rw [if_pos (by simp [pairTrees])]
  refine wpAny_bind ?_
  have hev : wpAny (model X.prog X.w) X.A (evalPairs (pairTrees [some k] [v] X.env pos)) (fun vs s2 => ∃ (kv vv : Value) (b : Addr) (kk : K3) (y : V) (H2 : Hp), vs = [(kv, vv)] ∧ kv = .ref b ∧ RelV y vv ∧ Inv X pins σ H2 s2 ∧ H2 s.heap.objs.size = some (NDo X.prog X.w s.heap.objs.size []) ∧ KeyAt H2 kk b ∧ Q (.ref s.heap.objs.size) (upd H2 s.heap.objs.size (NDo X.prog X.w s.heap.objs.size [(kk, b, y)]))) X.xe { s with heap := s.heap.push { cls := .type "dict", data := .dict #[] } } := by
    refine pairTrees_cons_walk (thn (hk.run pins _ σ _ _ I1 (q _ hn)) fun kv s1 ⟨y, H1, I2, ry, q1⟩ => thn (hv.run pins s1 σ H1 _ I2 q1) fun vv s2 ⟨z, H2, I3, rz, b, kk, ey, e1, e2, q2⟩ => pairTrees_nil_walk ?_)
    subst ey
    obtain rfl : kv = Value.ref b := ry
    exact ⟨_, vv, b, kk, z, H2, rfl, rfl, rz, I3, e1, e2, q2⟩
  refine wpAny_mono hev (fun vs s2 h2 => ?_) fun _ _ e => e
  obtain ⟨kv, vv, b, kk, y, H2, rfl, rfl, ry, I2, e1, e2, q2⟩ := h2
  refine wpAny_holding ?_
  refine wpAny_bind ?_
  rw [List.forIn_cons]
  obtain ⟨h0, hz, xs, rel, dd⟩ := nd_of I2.hok e1 (fun p hp => by cases hp)
  cases rel
  refine wpAny_bind (wpAny_bind (wpAny_dictSet_heap (knd := nestKind X.prog X.w) (hsz := Nat.zero_le _) (show X.A.units + 60 < cLine by omega) (key_ok I2.hok e2) dd fun h' dd' hs => wpAny_pure ?_))
  dsimp only
  rw [List.forIn_nil]
  refine wpAny_pure (wpAny_pure (wpAny_pure (wpAny_pure ⟨V.ref s.heap.objs.size, _, ?_, rfl, q2⟩)))
  obtain ⟨o, es, ep, hq, d2, d3, d4, _, d5⟩ := dd'
  refine d_write I2 (by rw [e1]; exact True.intro) hs ⟨o, hq⟩ ⟨⟨h0, (by show 1 ≤ sizeLine; decide), _, .cons ⟨rfl, rfl, ry⟩ .nil, o, es, ep, hq, d2, d3, d4, d5⟩, ⟨o, hq⟩, fun g1 g2 z st => ?_⟩
  obtain ⟨z0, z1, xs2, z2, o2, es2, ep2, y1, y2, y3, y4, y5⟩ := z
  exact ⟨z0, z1, xs2, z2, o2, es2, ep2, st _ y1, y2, y3, y4, y5⟩
end ND
namespace ND
open PySem PySem.Spec PyProof.Rows L2 NK
theorem tuple_mul1 (l : Addr) (items : Array Value) (n : Nat) (dd : Option Addr) (sl : Array (Option Value)) (u : Tok) :
    Meets (Builtin.«tuple.__mul__» ⟨[.ref l, .int 1 u], []⟩) (fun _ R s => s.heap.get? l = some { cls := .type "tuple", dict := dd, data := .seq items n, slots := sl } ∧ R (.ok (.ret (Value.ref l))) s) :=
  .of_wp fun prog w A R s h => by
    obtain ⟨hp, g, d, tk, os⟩ := s
    obtain ⟨hl, h⟩ := h
    have f1 := AutoSeq1.idx_int
    wp_walk using wpAny_loadPart' hl
    exact ⟨_, rfl, h⟩
/-- t * k, k at least one -/
def rRepN (K : PySem.W.Frag) : R2 := fun x y H Q => ∃ l k xs, x = .ref l ∧ y = .int k ∧ SqT K H l xs ∧ xs ≠ [] ∧ 1 ≤ k ∧ k ≤ 1000 ∧ xs.length ≤ 1000 ∧ (k = 1 → Q x H) ∧ (2 ≤ k → ∀ p, H p = none → Q (.ref p) (upd H p (.tup (List.replicate k.toNat xs).flatten)))
theorem op_repN {X : Cx} : OpR X (binaryOp .Mult) (rRepN X.K) := by
  intro pins s σ H x y v u Q I rx ry h
  obtain ⟨l, k, xs, rfl, rfl, hT, hne, h1, h2, hz, q1, q2⟩ := h
  by_cases hk : k = 1
  · subst hk
    cases rx
    obtain ⟨t, rfl⟩ := ry
    obtain ⟨its, r, ⟨⟨cls, dd, data, sl⟩, ho, hc, n, hd⟩, hs⟩ := I.tuple hT
    simp only at hc hd
    subst hc hd
    refine wpAny_binaryOp_repeat_ref (T := "tuple") (U := "int") (by decide) ⟨_, ho, rfl⟩ (fun s' => typeIs_int s' 1 t) noFill_tuple_mul F.fills_int_mul F.slot_int_rmul repeat_tuple F.slot_int_index.lookup
      (call_meets F.slot_int_rmul (typeIs_int s 1 t) F.entry_int_rmul (F.args_int_rmul_2 _ _) (int_rmul_tuple 1 t l its.toArray n dd sl)
        ⟨ho, rfl, ⟨_, ho, rfl⟩, call_meets F.slot_tuple_mul ⟨_, ho, rfl⟩ F.entry_tuple_mul (F.args_tuple_mul_2 _ _) (tuple_mul1 l its.toArray n dd sl t) ⟨ho, ?_⟩⟩)
    exact ⟨.ref l, H, I, rfl, q1 rfl⟩
  · exact op_repT pins s σ H _ _ v u Q I rx ry ⟨l, k, xs, rfl, rfl, hT, hne, by omega, h2, hz, q2 (by omega)⟩
end ND
/-! The lower bound, plain: chains of parts; what is kept may be the start of a part. -/
namespace LB
structure TOk (T : Int → Nat → Int) : Prop where
  one : ∀ k, k ≤ 4 → T 1 k = 0
  cut : ∀ (a b : Int) (k : Nat), 1 ≤ a → 1 ≤ b → a + b ≤ 12 → k + 1 ≤ 4 → (1 ≤ k ∨ b = 1) → T (a + b) (k + 1) ≤ a + T a (k + 1) + T b k
  less : ∀ (a : Int) (k : Nat), 1 ≤ a → a ≤ 12 → k + 1 ≤ 4 → (1 ≤ k ∨ a = 1) → T a (k + 1) ≤ T a k
inductive Ch (T : Int → Nat → Int) (S : Int → Prop) (l : Int) : Nat → Int → Int → List Int → Prop
  | last {k : Nat} {p : Int} : p < l → (1 ≤ k ∨ l = p + 1) → Ch T S l k p (T (l - p) k) []
  | step {k : Nat} {p q p' v : Int} {qs : List Int} : p < q → q ≤ p' → S q → Ch T S l k p' v qs → Ch T S l (k + 1) p ((p' - q) + T (p' - p) (k + 1) + v) (q :: qs)
section
variable {T : Int → Nat → Int} {S S' : Int → Prop} {l : Int} {k : Nat} {p v : Int} {qs : List Int}
theorem Ch.lt (h : Ch T S l k p v qs) : p < l := by
  induction h with
  | last a _ => exact a
  | step a b _ _ ih => omega
theorem Ch.mono (hs : ∀ q, S' q → S q) (h : Ch T S' l k p v qs) : Ch T S l k p v qs := by
  induction h with
  | last a b => exact .last a b
  | step a b c _ ih => exact .step a b (hs _ c) ih
theorem Ch.over {h' : Int} (hs : ∀ q, S' q → S q ∨ q = h') (h : Ch T S' l k p v qs) (hp : h' ≤ p) : Ch T S l k p v qs := by
  induction h with
  | last a b => exact .last a b
  | @step k p q p' v qs a b c _ ih =>
    refine .step a b ((hs _ c).resolve_right fun e => ?_) (ih (by omega))
    omega
theorem Ch.up (t : TOk T) (hl : l ≤ 12) (h : Ch T S l k p v qs) (h0 : 0 ≤ p) (hk : k + 1 ≤ 4) : ∃ v2, Ch T S l (k + 1) p v2 qs ∧ v2 ≤ v := by
  induction h with
  | @last k p a b =>
    refine ⟨_, .last a (.inl (by omega)), t.less _ _ (by omega) (by omega) hk ?_⟩
    rcases b with b | b
    · exact .inl b
    · exact .inr (by omega)
  | @step k p q p' v qs a b c hc ih =>
    have hlt := hc.lt
    obtain ⟨v2, h2, h3⟩ := ih (by omega) (by omega)
    refine ⟨_, .step a b c h2, ?_⟩
    have := t.less (p' - p) (k + 1) (by omega) (by omega) (by omega) (.inl (by omega))
    omega
theorem Ch.merge (t : TOk T) (hl : l ≤ 12) {p0 : Int} (h : Ch T S l k p v qs) (h0 : 0 ≤ p0) (hp : p0 < p) (hk : k + 1 ≤ 4) : ∃ v2 qs2, Ch T S l (k + 1) p0 v2 qs2 ∧ v2 ≤ (p - p0) + T (p - p0) (k + 1) + v := by
  cases h with
  | @last _ _ a b =>
    refine ⟨_, _, .last (by omega) (.inl (by omega)), ?_⟩
    have := t.cut (p - p0) (l - p) k (by omega) (by omega) (by omega) hk (by omega)
    rw [show p - p0 + (l - p) = l - p0 by omega] at this
    exact this
  | @step k _ q p' v qs a b c hc =>
    have hlt := hc.lt
    obtain ⟨v2, h2, h3⟩ := hc.up t hl (by omega) (by omega)
    refine ⟨_, _, .step (by omega) b c h2, ?_⟩
    have := t.cut (p - p0) (p' - p) (k + 1) (by omega) (by omega) (by omega) hk (.inl (by omega))
    rw [show p - p0 + (p' - p) = p' - p0 by omega] at this
    omega
theorem Ch.run (t : TOk T) (hl : l ≤ 12) {h h' : Int} (hs : ∀ q, S' q → S q ∨ q = h') (hh : S h) (hd : h ≤ h') (c : Ch T S' l k p v qs) (h0 : 0 ≤ p) (hk : k ≤ 4) : ∃ v2 qs2, Ch T S l k p v2 qs2 ∧ v2 ≤ v + (h' - h) := by
  induction c with
  | last a b => exact ⟨_, _, .last a b, by omega⟩
  | @step k p q p' v qs a b c hc ih =>
    rcases hs q c with z | z
    · obtain ⟨v2, qs2, h2, h3⟩ := ih (by omega) (by omega)
      exact ⟨_, _, .step a b z h2, by omega⟩
    · subst z
      have hc2 := hc.over hs (by omega)
      by_cases hp : p < h
      · exact ⟨_, _, .step hp (by omega) hh hc2, by omega⟩
      · obtain ⟨v2, qs2, h2, h3⟩ := hc2.merge t hl h0 (by omega) hk
        exact ⟨v2, qs2, h2, by omega⟩
theorem Ch.turn (t : TOk T) (h : Ch T S (l - 1) k p v qs) (hk : k ≤ 4) (hs : S (l - 1)) (hr : qs.length < k) : Ch T S l k p v (qs ++ [l - 1]) := by
  induction h with
  | @last k p a b =>
    cases k with
    | zero => cases hr
    | succ k =>
      have e := Ch.step (T := T) a (Int.le_refl _) hs (Ch.last (k := k) (show l - 1 < l by omega) (.inr (by omega)))
      rw [show l - (l - 1) = 1 by omega, t.one k (by omega), show l - 1 - (l - 1) + T (l - 1 - p) (k + 1) + 0 = T (l - 1 - p) (k + 1) by omega] at e
      exact e
  | @step k p q p' v qs a b c hc ih =>
    exact .step a b c (ih (by omega) (by simp at hr; omega))
theorem Ch.all (h : Ch T S l k p v qs) : (∀ q ∈ qs, S q ∧ p < q ∧ q < l) ∧ qs.Nodup := by
  induction h with
  | last a b => exact ⟨fun q h => by simp at h, List.nodup_nil⟩
  | @step k p q p' v qs a b c hc ih =>
    obtain ⟨i1, i2⟩ := ih
    have hlt := hc.lt
    refine ⟨fun x hx => ?_, List.nodup_cons.mpr ⟨fun hx => ?_, i2⟩⟩
    · rcases List.mem_cons.mp hx with z | z
      · subst z
        exact ⟨c, a, by omega⟩
      · obtain ⟨j1, j2, j3⟩ := i1 x z
        exact ⟨j1, by omega, j3⟩
    · have := (i1 _ hx).2.1
      omega
end
theorem pigeon {α : Type} [DecidableEq α] : ∀ (xs ys : List α), xs.Nodup → (∀ x ∈ xs, x ∈ ys) → xs.length ≤ ys.length
  | [], _, _, _ => Nat.zero_le _
  | x :: xs, ys, hn, hm => by
    obtain ⟨h1, h2⟩ := List.nodup_cons.mp hn
    have hx : x ∈ ys := hm x (List.mem_cons_self ..)
    have ih := pigeon xs (ys.erase x) h2 fun y hy => by
      have hy2 := hm y (List.mem_cons_of_mem _ hy)
      exact (List.mem_erase_of_ne (fun (e : y = x) => h1 (e ▸ hy))).mpr hy2
    rw [List.length_erase_of_mem hx] at ih
    have := List.length_pos_of_mem hx
    rw [List.length_cons]
    omega
/-! ### the game: here, the slots, what is left -/
/-- what the bound says of a state: Q the slots' places, h here, l left, x spent -/
def J (T : Int → Nat → Int) (c : Nat) (T0 : Int) (Q : List Int) (h l x : Int) : Prop :=
  (l = 0 → T0 ≤ x) ∧ (1 ≤ l → (0 = h ∨ 0 ∈ Q) → ∀ v qs, Ch T (fun q => q = h ∨ q ∈ Q) l c 0 v qs → T0 ≤ x + v)
section
variable {T : Int → Nat → Int} {c : Nat} {T0 : Int} {Q Q2 : List Int} {h h2 l x d : Int}
/-- fewer sources -/
theorem J.less (j : J T c T0 Q h l x) (hs : ∀ q, (q = h2 ∨ q ∈ Q2) → (q = h ∨ q ∈ Q)) : J T c T0 Q2 h2 l x :=
  ⟨j.1, fun hl h0 v qs hc => j.2 hl (by
    rcases hs 0 (h0.imp id id) with z | z
    · exact .inl z
    · exact .inr z) v qs (hc.mono hs)⟩
theorem J.run (t : TOk T) (j : J T c T0 Q h l x) (hh : 0 ≤ h) (hd : 0 ≤ d) (hl : l ≤ 12) (hc : c ≤ 4) : J T c T0 Q (h + d) l (x + d) :=
  ⟨fun z => by
    have := j.1 z
    omega, fun h1 h0 v qs k => by
    obtain ⟨v2, qs2, k2, k3⟩ := k.run (S := fun q => q = h ∨ q ∈ Q) (h := h) (h' := h + d) t hl (fun q hq => hq.elim .inr fun z => .inl (.inr z)) (.inl rfl) (by omega) (Int.le_refl _) hc
    have := j.2 h1 (by
      rcases h0 with z | z
      · exact .inl (by omega)
      · exact .inr z) v2 qs2 k2
    omega⟩
theorem J.turn (t : TOk T) (j : J T c T0 Q (l - 1) l x) (hQ : Q.length ≤ c) (h1 : 1 ≤ c) (hc : c ≤ 4) (hl : 1 ≤ l) (hl2 : l ≤ 12) : J T c T0 Q (l - 1) (l - 1) x := by
  refine ⟨fun z => ?_, fun hl3 h0 v qs k => ?_⟩
  · have e : l = 1 := by omega
    subst e
    have := j.2 (by omega) (.inl (by omega)) _ _ (.last (by omega) (.inl h1))
    rw [show (1 : Int) - 0 = 1 by omega, t.one c hc] at this
    omega
  · obtain ⟨a1, a2⟩ := k.all
    have hlt := k.lt
    have hz : (0 : Int) ∈ Q := h0.resolve_left (by omega)
    have hp := pigeon (0 :: qs) Q (List.nodup_cons.mpr ⟨fun z => by
      have := (a1 0 z).2.1
      omega, a2⟩) fun y hy => by
      rcases List.mem_cons.mp hy with z | z
      · subst z
        exact hz
      · obtain ⟨b1, b2, b3⟩ := a1 y z
        exact b1.resolve_left (by omega)
    rw [List.length_cons] at hp
    exact j.2 hl (.inr hz) v _ (k.turn t hc (.inl rfl) (by omega))
end
end LB
/-! The plain law: what a walk costs at least. -/
namespace K84
open PySem PySem.Spec PyProof.Rows L2 KD LB
theorem lStep_mv {ks : List Int} {c : Int} {u : Bool} {s : Lst} {w : Str} {n : Int} : lStep ks c u s (.mv w n) = (if (decide (w = "run") && (decide (1 ≤ n) && decide (n ≤ s.left - s.here))) = true then some { s with count := s.count + cutS ks s.here (s.here + n), runs := s.runs + n, here := s.here + n }
    else if (decide (w = "undo") && (u && ((decide (1 ≤ n) && decide (n ≤ s.here)) && decide (cutS ks (s.here - n) s.here = 0)))) = true then some { s with here := s.here - n }
    else if (decide (w = "keep") && (decide (0 ≤ n) && decide (n < c))) = true then some { s with kept := fun i => if i = n then some s.here else s.kept i }
    else if (decide (w = "take") && (s.kept n).isSome) = true then some { s with here := (s.kept n).getD 0 }
    else none) := rfl
theorem lStep_turn {ks : List Int} {c : Int} {u : Bool} {s : Lst} : lStep ks c u s .turn = if (decide (s.left = 0) || (!decide (s.here = s.left - 1) && !(u && (decide (0 < s.left) && (decide (s.here = s.left) && decide (kAt ks (s.left - 1) = 0)))))) = true then none else some { s with left := s.left - 1, here := s.left - 1 } := rfl
theorem lStep_cases {ks : List Int} {c : Int} {u : Bool} {s s' : Lst} {cm : Cm} (h : lStep ks c u s cm = some s') :
    (cm = .turn ∧ s.left ≠ 0 ∧ (s.here = s.left - 1 ∨ (u = true ∧ 0 < s.left ∧ s.here = s.left ∧ kAt ks (s.left - 1) = 0)) ∧ s' = { s with left := s.left - 1, here := s.left - 1 }) ∨
    (∃ n, cm = .mv "run" n ∧ 1 ≤ n ∧ n ≤ s.left - s.here ∧ s' = { s with count := s.count + cutS ks s.here (s.here + n), runs := s.runs + n, here := s.here + n }) ∨
    (∃ n, cm = .mv "undo" n ∧ u = true ∧ 1 ≤ n ∧ n ≤ s.here ∧ cutS ks (s.here - n) s.here = 0 ∧ s' = { s with here := s.here - n }) ∨
    (∃ n, cm = .mv "keep" n ∧ 0 ≤ n ∧ n < c ∧ s' = { s with kept := fun i => if i = n then some s.here else s.kept i }) ∨
    (∃ n x, cm = .mv "take" n ∧ s.kept n = some x ∧ s' = { s with here := x }) := by
  cases cm with
  | turn =>
    left
    rw [lStep_turn] at h
    by_cases q : (decide (s.left = 0) || (!decide (s.here = s.left - 1) && !(u && (decide (0 < s.left) && (decide (s.here = s.left) && decide (kAt ks (s.left - 1) = 0)))))) = true
    · rw [if_pos q] at h
      cases h
    · rw [if_neg q] at h
      refine ⟨rfl, fun z => q (by rw [decide_eq_true z]; rfl), ?_, (Option.some.inj h).symm⟩
      by_cases e : s.here = s.left - 1
      · exact .inl e
      · right
        rw [decide_eq_false e] at q
        have q2 : (u && (decide (0 < s.left) && (decide (s.here = s.left) && decide (kAt ks (s.left - 1) = 0)))) = true := by
          cases z : (u && (decide (0 < s.left) && (decide (s.here = s.left) && decide (kAt ks (s.left - 1) = 0)))) with
          | true => rfl
          | false =>
            rw [z] at q
            exact absurd (by simp) q
        simp only [Bool.and_eq_true, decide_eq_true_eq] at q2
        exact q2
  | mv w n =>
    right
    rw [lStep_mv] at h
    split at h
    · rename_i q
      simp only [Bool.and_eq_true, decide_eq_true_eq] at q
      obtain ⟨rfl, q1, q2⟩ := q
      exact .inl ⟨n, rfl, q1, q2, (Option.some.inj h).symm⟩
    · split at h
      · rename_i q
        simp only [Bool.and_eq_true, decide_eq_true_eq] at q
        obtain ⟨rfl, q1, ⟨q2, q3⟩, q4⟩ := q
        exact .inr (.inl ⟨n, rfl, q1, q2, q3, q4, (Option.some.inj h).symm⟩)
      · split at h
        · rename_i q
          simp only [Bool.and_eq_true, decide_eq_true_eq] at q
          obtain ⟨rfl, q1, q2⟩ := q
          exact .inr (.inr (.inl ⟨n, rfl, q1, q2, (Option.some.inj h).symm⟩))
        · split at h
          · rename_i q
            simp only [Bool.and_eq_true, decide_eq_true_eq] at q
            obtain ⟨rfl, q1⟩ := q
            obtain ⟨x, hx⟩ := Option.isSome_iff_exists.mp q1
            rw [hx] at h
            exact .inr (.inr (.inr ⟨n, x, rfl, hx, (Option.some.inj h).symm⟩))
          · cases h
  | bl w b => cases h
  | non => cases h
  | ls d => cases h
def fI (ks : List Int) (i : Int) : Int := (ks.take i.toNat).sum
theorem sum_app (a b : List Int) : (a ++ b).sum = a.sum + b.sum := by
  induction a with
  | nil => simp
  | cons x a ih => simp only [List.cons_append, List.sum_cons, ih]; omega
theorem cutA_in {ks : List Int} {a b : Int} (h0 : 0 ≤ a) (hab : a ≤ b) (hb : b ≤ ks.length) : cutA ks (some a) (some b) = (ks.drop a.toNat).take (b.toNat - a.toNat) := by
  obtain ⟨a, rfl⟩ : ∃ x : Nat, a = x := ⟨a.toNat, by omega⟩
  obtain ⟨b, rfl⟩ : ∃ x : Nat, b = x := ⟨b.toNat, by omega⟩
  unfold cutA
  rw [HT.sIx_nat, HT.sIx_nat, Nat.min_eq_left (by omega), Nat.min_eq_left (by omega), Int.toNat_natCast, Int.toNat_natCast]
theorem cutS_eq {ks : List Int} {a b : Int} (h0 : 0 ≤ a) (hab : a ≤ b) (hb : b ≤ ks.length) : cutS ks a b = fI ks b - fI ks a := by
  unfold cutS fI
  rw [cutA_in h0 hab hb]
  have e : ks.take b.toNat = ks.take a.toNat ++ (ks.drop a.toNat).take (b.toNat - a.toNat) := by
    rw [← List.take_add]
    congr 1
    omega
  rw [e, sum_app]
  omega
theorem fI_succ {ks : List Int} {i : Int} (h0 : 0 ≤ i) (h1 : i < ks.length) : fI ks (i + 1) = fI ks i + kAt ks i := by
  unfold fI kAt
  rw [show (i + 1).toNat = i.toNat + 1 by omega, List.take_add_one, sum_app, List.getElem?_eq_getElem (by omega : i.toNat < ks.length)]
  simp
def Bits (ks : List Int) : Prop := ∀ x ∈ ks, x = 0 ∨ x = 1
theorem kAt_bit {ks : List Int} (hb : Bits ks) (i : Int) : kAt ks i = 0 ∨ kAt ks i = 1 := by
  unfold kAt
  cases q : ks[i.toNat]? with
  | none => exact .inl rfl
  | some x => exact hb x (List.mem_of_getElem? q)
theorem fI_zero (ks : List Int) : fI ks 0 = 0 := by simp [fI]
theorem fI_nat {ks : List Int} (hb : Bits ks) : ∀ i : Nat, i ≤ ks.length → 0 ≤ fI ks i ∧ fI ks i ≤ i
  | 0, _ => by rw [show ((0 : Nat) : Int) = 0 from rfl, fI_zero]; omega
  | i + 1, h => by
    have ih := fI_nat hb i (by omega)
    have e := fI_succ (ks := ks) (i := i) (by omega) (by omega)
    have := kAt_bit hb i
    rw [show ((i + 1 : Nat) : Int) = (i : Int) + 1 by omega, e]
    omega
theorem fI_le {ks : List Int} (hb : Bits ks) {i : Int} (h0 : 0 ≤ i) (h1 : i ≤ ks.length) : 0 ≤ fI ks i ∧ fI ks i ≤ i := by
  obtain ⟨n, rfl⟩ : ∃ x : Nat, i = x := ⟨i.toNat, by omega⟩
  exact fI_nat hb n (by omega)
theorem fI_mono_nat {ks : List Int} (hb : Bits ks) (i : Nat) : ∀ d : Nat, i + d ≤ ks.length → fI ks i ≤ fI ks ((i + d : Nat) : Int)
  | 0, _ => Int.le_refl _
  | d + 1, h => by
    have ih := fI_mono_nat hb i d (by omega)
    have e := fI_succ (ks := ks) (i := ((i + d : Nat) : Int)) (by omega) (by omega)
    have := kAt_bit hb ((i + d : Nat) : Int)
    rw [show ((i + (d + 1) : Nat) : Int) = ((i + d : Nat) : Int) + 1 by omega, e]
    omega
theorem fI_mono {ks : List Int} (hb : Bits ks) {i j : Int} (h0 : 0 ≤ i) (h : i ≤ j) (h1 : j ≤ ks.length) : fI ks i ≤ fI ks j := by
  have := fI_mono_nat hb i.toNat (j - i).toNat (by omega)
  rw [show ((i.toNat : Nat) : Int) = i by omega, show ((i.toNat + (j - i).toNat : Nat) : Int) = j by omega] at this
  exact this
structure LI (ks : List Int) (c : Int) (s : Lst) : Prop where
  h0 : 0 ≤ s.here
  h1 : s.here ≤ ks.length
  l0 : 0 ≤ s.left
  l1 : s.left ≤ ks.length
  k : ∀ i v, s.kept i = some v → (0 ≤ i ∧ i < c) ∧ 0 ≤ v ∧ v ≤ ks.length
theorem LI.init (ks : List Int) (c : Int) : LI ks c (K84.l0 ks) := ⟨Int.le_refl _, by show (0 : Int) ≤ _; omega, by show (0 : Int) ≤ ks.length; omega, Int.le_refl _, fun i v h => by cases h⟩
theorem LI.step {ks : List Int} {c : Int} {u : Bool} {s s' : Lst} {cm : Cm} (x : LI ks c s) (h : lStep ks c u s cm = some s') : LI ks c s' := by
  obtain ⟨x0, x1, x2, x3, x4⟩ := x
  rcases lStep_cases h with ⟨_, a, b, rfl⟩ | ⟨n, _, a, b, rfl⟩ | ⟨n, _, _, a, b, _, rfl⟩ | ⟨n, _, a, b, rfl⟩ | ⟨n, y, _, a, rfl⟩
  · exact ⟨by show 0 ≤ s.left - 1; omega, by show s.left - 1 ≤ _; omega, by show 0 ≤ s.left - 1; omega, by show s.left - 1 ≤ _; omega, x4⟩
  · exact ⟨by show 0 ≤ s.here + n; omega, by show s.here + n ≤ _; omega, x2, x3, x4⟩
  · exact ⟨by show 0 ≤ s.here - n; omega, by show s.here - n ≤ _; omega, x2, x3, x4⟩
  · refine ⟨x0, x1, x2, x3, fun i v hv => ?_⟩
    have hv : (if i = n then some s.here else s.kept i) = some v := hv
    by_cases e : i = n
    · rw [if_pos e] at hv
      cases hv
      exact ⟨⟨by omega, by omega⟩, x0, x1⟩
    · rw [if_neg e] at hv
      exact x4 i v hv
  · obtain ⟨_, y1, y2⟩ := x4 n y a
    exact ⟨y1, y2, x2, x3, x4⟩
/-! ### the bound -/
def alT (x : Int) (k : Nat) : Int := if k = 0 then 0 else alikeC x k
def cutB : Bool := (List.range 11).all fun a => (List.range 11).all fun b => (List.range 4).all fun k => !(decide (a + 1 + (b + 1) ≤ 12) && (decide (1 ≤ k) || decide (b = 0))) || decide (alT (((a + 1 : Nat) : Int) + ((b + 1 : Nat) : Int)) (k + 1) ≤ ((a + 1 : Nat) : Int) + alT ((a + 1 : Nat) : Int) (k + 1) + alT ((b + 1 : Nat) : Int) k)
theorem cutB_ok : cutB = true := by decide +kernel
theorem alT_cut (a : Nat) (ha : a < 11) (b : Nat) (hb : b < 11) (k : Nat) (hk : k < 4) (h : a + 1 + (b + 1) ≤ 12) (h2 : 1 ≤ k ∨ b = 0) : alT (((a + 1 : Nat) : Int) + ((b + 1 : Nat) : Int)) (k + 1) ≤ ((a + 1 : Nat) : Int) + alT ((a + 1 : Nat) : Int) (k + 1) + alT ((b + 1 : Nat) : Int) k := by
  have := List.all_eq_true.mp (List.all_eq_true.mp (List.all_eq_true.mp cutB_ok a (List.mem_range.mpr ha)) b (List.mem_range.mpr hb)) k (List.mem_range.mpr hk)
  rw [Bool.or_eq_true, decide_eq_true_eq] at this
  refine this.resolve_left fun z => ?_
  simp only [Bool.not_eq_true', Bool.and_eq_false_iff, Bool.or_eq_false_iff, decide_eq_false_iff_not] at z
  omega
def lessB : Bool := (List.range 12).all fun a => (List.range 4).all fun k => !(decide (1 ≤ k) || decide (a = 0)) || decide (alT ((a + 1 : Nat) : Int) (k + 1) ≤ alT ((a + 1 : Nat) : Int) k)
theorem lessB_ok : lessB = true := by decide +kernel
theorem alT_less (a : Nat) (ha : a < 12) (k : Nat) (hk : k < 4) (h2 : 1 ≤ k ∨ a = 0) : alT ((a + 1 : Nat) : Int) (k + 1) ≤ alT ((a + 1 : Nat) : Int) k := by
  have := List.all_eq_true.mp (List.all_eq_true.mp lessB_ok a (List.mem_range.mpr ha)) k (List.mem_range.mpr hk)
  rw [Bool.or_eq_true, decide_eq_true_eq] at this
  refine this.resolve_left fun z => ?_
  simp only [Bool.not_eq_true', Bool.or_eq_false_iff, decide_eq_false_iff_not] at z
  omega
theorem alT_one (k : Nat) (h : k < 5) : alT 1 k = 0 := by
  have : ((List.range 5).all fun k => decide (alT 1 k = 0)) = true := by decide +kernel
  exact of_decide_eq_true (List.all_eq_true.mp this k (List.mem_range.mpr h))
theorem alT_ok : TOk alT := ⟨fun k h => alT_one k (by omega), fun a b k h1 h2 h3 h4 h5 => by
    have := alT_cut (a - 1).toNat (by omega) (b - 1).toNat (by omega) k (by omega) (by omega) (by omega)
    rw [show (((a - 1).toNat + 1 : Nat) : Int) = a by omega, show (((b - 1).toNat + 1 : Nat) : Int) = b by omega] at this
    exact this, fun a k h1 h2 h3 h4 => by
    have := alT_less (a - 1).toNat (by omega) k (by omega) (by omega)
    rw [show (((a - 1).toNat + 1 : Nat) : Int) = a by omega] at this
    exact this⟩
def lcI (ks : List Int) (l : Int) : Int := if l = 0 then 0 else fI ks (l - 1) + 1
def slotsF (ks : List Int) (c : Nat) (kept : Int → Option Int) : List Int := (List.range c).filterMap fun (i : Nat) => (kept (i : Int)).map (fI ks)
theorem slots_len (ks : List Int) (c : Nat) (kept : Int → Option Int) : (slotsF ks c kept).length ≤ c := by
  unfold slotsF
  have := List.length_filterMap_le (fun (i : Nat) => (kept (i : Int)).map (fI ks)) (List.range c)
  rw [List.length_range] at this
  exact this
theorem slots_mem {ks : List Int} {c : Nat} {kept : Int → Option Int} {q : Int} : q ∈ slotsF ks c kept ↔ ∃ i : Nat, i < c ∧ ∃ v, kept i = some v ∧ fI ks v = q := by
  unfold slotsF
  rw [List.mem_filterMap]
  constructor
  · rintro ⟨i, hi, h⟩
    rw [Option.map_eq_some_iff] at h
    exact ⟨i, List.mem_range.mp hi, h⟩
  · rintro ⟨i, hi, h⟩
    exact ⟨i, List.mem_range.mpr hi, Option.map_eq_some_iff.mpr h⟩
def JL (ks : List Int) (c : Nat) (s : Lst) : Prop := J alT c (dueF ks c) (slotsF ks c s.kept) (fI ks s.here) (lcI ks s.left) s.count
theorem lcI_le {ks : List Int} (hb : Bits ks) (hn : ks.length ≤ 12) {l : Int} (h0 : 0 ≤ l) (h1 : l ≤ ks.length) : lcI ks l ≤ 12 := by
  unfold lcI
  split
  · decide
  · have := fI_le hb (i := l - 1) (by omega) (by omega)
    omega
theorem JL.step {ks : List Int} {c : Nat} {u : Bool} {s s' : Lst} {cm : Cm} (hb : Bits ks) (hn : ks.length ≤ 12) (hc1 : 1 ≤ c) (hc : c ≤ 4) (x : LI ks c s) (j : JL ks c s) (h : lStep ks c u s cm = some s') : JL ks c s' := by
  obtain ⟨x0, x1, x2, x3, x4⟩ := x
  have hl := lcI_le hb hn x2 x3
  rcases lStep_cases h with ⟨_, a, b, rfl⟩ | ⟨n, _, a, b, rfl⟩ | ⟨n, _, _, a, b, e, rfl⟩ | ⟨n, _, a, b, rfl⟩ | ⟨n, y, _, a, rfl⟩
  · -- turn
    have eh : fI ks s.here = fI ks (s.left - 1) := by
      rcases b with b | ⟨_, b1, b2, b3⟩
      · rw [b]
      · have := fI_succ (ks := ks) (i := s.left - 1) (by omega) (by omega)
        rw [b3, show s.left - 1 + 1 = s.left by omega] at this
        rw [b2, this]
        omega
    have e1 : lcI ks s.left = fI ks (s.left - 1) + 1 := by
      unfold lcI
      rw [if_neg a]
    have hf := fI_le hb (i := s.left - 1) (by omega) (by omega)
    unfold JL at j ⊢
    rw [eh, e1] at j
    rw [e1] at hl
    show J alT c (dueF ks c) (slotsF ks c s.kept) (fI ks (s.left - 1)) (lcI ks (s.left - 1)) s.count
    have jt : J alT c (dueF ks c) (slotsF ks c s.kept) (fI ks (s.left - 1)) (fI ks (s.left - 1)) s.count := by
      have e3 : fI ks (s.left - 1) + 1 - 1 = fI ks (s.left - 1) := by omega
      have := J.turn (l := fI ks (s.left - 1) + 1) alT_ok (by rw [e3]; exact j) (slots_len _ _ _) hc1 hc (by omega) hl
      rw [e3] at this
      exact this
    by_cases z : s.left - 1 = 0
    · rw [z, fI_zero] at jt ⊢
      have : lcI ks 0 = 0 := rfl
      rw [this]
      exact jt
    · have e2 : lcI ks (s.left - 1) = fI ks (s.left - 1 - 1) + 1 := by
        unfold lcI
        rw [if_neg z]
      have e4 := fI_succ (ks := ks) (i := s.left - 1 - 1) (by omega) (by omega)
      rw [show s.left - 1 - 1 + 1 = s.left - 1 by omega] at e4
      rcases kAt_bit hb (s.left - 1 - 1) with z2 | z2
      · rw [e2, show fI ks (s.left - 1 - 1) = fI ks (s.left - 1) by omega]
        exact j
      · rw [e2, show fI ks (s.left - 1 - 1) + 1 = fI ks (s.left - 1) by omega]
        exact jt
  · -- run
    have e := cutS_eq (ks := ks) (a := s.here) (b := s.here + n) x0 (by omega) (by omega)
    have hm := fI_mono hb (i := s.here) (j := s.here + n) x0 (by omega) (by omega)
    have h0 := fI_le hb (i := s.here) x0 x1
    have := J.run (d := fI ks (s.here + n) - fI ks s.here) alT_ok j h0.1 (by omega) hl hc
    rw [show fI ks s.here + (fI ks (s.here + n) - fI ks s.here) = fI ks (s.here + n) by omega, ← e] at this
    exact this
  · -- undo
    rw [cutS_eq (by omega) (by omega) x1] at e
    unfold JL at j ⊢
    show J alT c (dueF ks c) (slotsF ks c s.kept) (fI ks (s.here - n)) (lcI ks s.left) s.count
    rw [show fI ks (s.here - n) = fI ks s.here by omega]
    exact j
  · -- keep
    refine J.less j fun q hq => ?_
    rcases hq with z | z
    · exact .inl z
    · obtain ⟨i, hi, v, hv, hf⟩ := slots_mem.mp z
      have hv : (if (i : Int) = n then some s.here else s.kept i) = some v := hv
      by_cases e : (i : Int) = n
      · rw [if_pos e] at hv
        cases hv
        exact .inl hf.symm
      · rw [if_neg e] at hv
        exact .inr (slots_mem.mpr ⟨i, hi, v, hv, hf⟩)
  · -- take
    obtain ⟨⟨y0, y1⟩, y2, y3⟩ := x4 n y a
    refine J.less j fun q hq => ?_
    rcases hq with z | z
    · right
      refine slots_mem.mpr ⟨n.toNat, by omega, y, ?_, z.symm⟩
      rw [show ((n.toNat : Nat) : Int) = n by omega]
      exact a
    · exact .inr z
theorem many_lc {ks : List Int} (hb : Bits ks) (h : 1 ≤ ks.length) : manyF ks = lcI ks ks.length := by
  have e0 : lcI ks ks.length = fI ks ((ks.length : Int) - 1) + 1 := by
    unfold lcI
    rw [if_neg (by omega)]
  rw [e0]
  unfold manyF
  have e := fI_succ (ks := ks) (i := (ks.length : Int) - 1) (by omega) (by omega)
  rw [show (ks.length : Int) - 1 + 1 = ks.length by omega] at e
  have e2 : fI ks ks.length = ks.sum := by
    unfold fI
    rw [Int.toNat_natCast, List.take_length]
  have e3 : lastI ks = kAt ks ((ks.length : Int) - 1) := by
    unfold lastI kAt
    rw [List.getLast?_eq_getElem?, show ((ks.length : Int) - 1).toNat = ks.length - 1 by omega]
  rw [e2] at e
  rw [e3, e]
  rcases kAt_bit hb ((ks.length : Int) - 1) with z | z
  · rw [z, if_pos rfl]; omega
  · rw [z, if_neg (by decide)]; omega
theorem JL.start {ks : List Int} {c : Nat} (hb : Bits ks) (h : 1 ≤ ks.length) (hc1 : 1 ≤ c) : JL ks c (l0 ks) := by
  have hq : slotsF ks c (l0 ks).kept = [] := by
    cases e : slotsF ks c (l0 ks).kept with
    | nil => rfl
    | cons a b =>
      have : a ∈ slotsF ks c (l0 ks).kept := by rw [e]; exact List.mem_cons_self ..
      obtain ⟨i, _, v, hv, _⟩ := slots_mem.mp this
      cases hv
  unfold JL
  rw [hq]
  show J alT c (dueF ks c) [] (fI ks 0) (lcI ks ks.length) 0
  rw [fI_zero, ← many_lc hb h]
  have hf := fI_le hb (i := (ks.length : Int) - 1) (by omega) (by omega)
  have hm : 1 ≤ manyF ks := by
    rw [many_lc hb h]
    unfold lcI
    rw [if_neg (by omega)]
    omega
  refine ⟨fun z => by omega, fun _ _ v qs hc => ?_⟩
  cases hc with
  | last a b =>
    unfold alT dueF
    rw [if_neg (by omega)]
    rw [show manyF ks - 0 = manyF ks by omega]
    omega
  | step a b d _ =>
    rcases d with d | d
    · omega
    · cases d
theorem lGo_inv {ks : List Int} {c : Nat} {u : Bool} (hb : Bits ks) (hn : ks.length ≤ 12) (hc1 : 1 ≤ c) (hc : c ≤ 4) : ∀ (cs : List Cm) (s s' : Lst), LI ks c s → JL ks c s → lGo ks c u s cs = some s' → LI ks c s' ∧ JL ks c s'
  | [], s, s', x, j, h => by
    cases h
    exact ⟨x, j⟩
  | cm :: r, s, s', x, j, h => by
    unfold lGo at h
    cases q : lStep ks c u s cm with
    | none => rw [q] at h; cases h
    | some s2 =>
      rw [q] at h
      exact lGo_inv hb hn hc1 hc r s2 s' (x.step q) (j.step hb hn hc1 hc x q) h
theorem low_of {ks : List Int} {c : Nat} {u : Bool} (hk : KsOk ks) (hc1 : 1 ≤ c) (hc : c ≤ 4) {cs : List Cm} {s : Lst} (h : lGo ks c u (l0 ks) cs = some s) (hl : s.left = 0) : dueF ks c ≤ s.count := by
  obtain ⟨h1, h2, h3⟩ := hk
  obtain ⟨_, j⟩ := lGo_inv h3 h2 hc1 hc cs _ _ (LI.init ks c) (JL.start h3 h1 hc1) h
  refine j.1 ?_
  rw [hl]
  rfl
theorem low_val {ks : List Int} {c : Nat} {u : Bool} (hk : KsOk ks) (hc1 : 1 ≤ c) (hc : c ≤ 4) {v : Val} (h : (lWalk ks c v u).1 = true) : dueF ks c ≤ (lWalk ks c v u).2.1 := by
  have main : ∀ cs : List Cm, (lRes (lGo ks c u (l0 ks) cs)).1 = true → dueF ks c ≤ (lRes (lGo ks c u (l0 ks) cs)).2.1 := fun cs h => by
    cases q : lGo ks c u (l0 ks) cs with
    | none => rw [q] at h; cases h
    | some s =>
      rw [q] at h
      exact low_of hk hc1 hc q (of_decide_eq_true h)
  cases v with
  | ls cs =>
    unfold lWalk at h ⊢
    dsimp only at h ⊢
    split at h
    · cases h
    · rename_i z
      rw [if_neg z]
      exact main cs h
  | tp cs =>
    unfold lWalk at h ⊢
    dsimp only at h ⊢
    split at h
    · cases h
    · rename_i z
      rw [if_neg z]
      exact main cs h
  | oth d => cases h
end K84
/-! The plain law: the program's walk and the law's are one. -/
namespace K84
open PySem PySem.Spec PyProof.Rows L2 KD LB
/-- u: with undoing; what the program walks on, with which words -/
def Mode (ks : List Int) (u : Bool) (kp : List Int) (ws : List Str) : Prop := (u = true ∧ kp = ks ∧ ws = W5) ∨ (u = false ∧ kp = onesL ks.length ∧ ws = W4)
structure Rl (ks : List Int) (w : Wst) (s : Lst) : Prop where
  h : w.here = s.here
  l : w.left = s.left
  k : w.slots = s.kept
  c : runSum ks w.runs = s.count
  r : runSum (onesL ks.length) w.runs = s.runs
theorem runSum_app (ks : List Int) (rs : List (Int × Int)) (a b : Int) : runSum ks (rs ++ [(a, b)]) = runSum ks rs + cutS ks a b := by
  unfold runSum
  rw [List.map_append, sum_app]
  simp only [List.map_cons, List.map_nil, List.sum_cons, List.sum_nil, Int.add_zero]
  rfl
theorem sum_ones : ∀ n : Nat, (List.replicate n (1 : Int)).sum = n
  | 0 => rfl
  | n + 1 => by rw [List.replicate_succ, List.sum_cons, sum_ones n]; omega
theorem cutS_ones {n : Nat} {a b : Int} (h0 : 0 ≤ a) (hab : a ≤ b) (hb : b ≤ n) : cutS (onesL n) a b = b - a := by
  unfold cutS onesL
  rw [cutA_in h0 hab (by rw [List.length_replicate]; exact hb), List.drop_replicate, List.take_replicate, sum_ones]
  omega
theorem kAt_ones {n : Nat} {i : Int} (h0 : 0 ≤ i) (h : i < n) : kAt (onesL n) i = 1 := by
  unfold kAt onesL
  rw [List.getElem?_replicate, if_pos (by omega)]
  rfl
theorem sum_bits : ∀ {ks : List Int}, Bits ks → (ks.contains 1 = false ↔ ks.sum = 0) ∧ 0 ≤ ks.sum
  | [], _ => by simp
  | x :: ks, hb => by
    obtain ⟨h1, h2⟩ := sum_bits (ks := ks) fun y hy => hb y (List.mem_cons_of_mem _ hy)
    rw [List.contains_cons, List.sum_cons]
    rcases hb x (List.mem_cons_self ..) with rfl | rfl
    · refine ⟨?_, by omega⟩
      rw [show ((1 : Int) == 0) = false by decide, Bool.false_or, h1]
      omega
    · refine ⟨?_, by omega⟩
      rw [show ((1 : Int) == 1) = true by decide, Bool.true_or]
      constructor
      · intro z; cases z
      · intro z; omega
theorem bits_cut {ks : List Int} (hb : Bits ks) (lo hi : Option Int) : Bits (cutA ks lo hi) := fun x hx => hb x (List.mem_of_mem_drop (List.mem_of_mem_take hx))
theorem turn_w {kp : List Int} {w : Wst} : doesS kp w .turn = turnS kp w := rfl
/-- one command -/
theorem step_agree {ks kp : List Int} {ws : List Str} {u : Bool} {c : Int} {w : Wst} {s : Lst} {cm : Cm} (hm : Mode ks u kp ws) (hb : Bits ks) (hn : ks.length ≤ 60) (x : LI ks c s) (r : Rl ks w s) :
    (∀ s', lStep ks c u s cm = some s' → cmOk c ws cm = true ∧ (doesS kp w cm).1 = true ∧ Rl ks (doesS kp w cm).2 s') ∧ (lStep ks c u s cm = none → cmOk c ws cm = true → (doesS kp w cm).1 = false) := by
  obtain ⟨wh, wl, wk, wr⟩ := w
  obtain ⟨r1, r2, r3, r4, r5⟩ := r
  dsimp only at r1 r2 r3 r4 r5
  subst r1
  subst r2
  subst r3
  obtain ⟨x0, x1, x2, x3, x4⟩ := x
  have hlen : kp.length = ks.length := by
    rcases hm with ⟨_, rfl, _⟩ | ⟨_, rfl, _⟩
    · rfl
    · unfold onesL; rw [List.length_replicate]
  cases cm with
  | turn =>
    have hbh : (u && (decide (0 < s.left) && (decide (s.here = s.left) && decide (kAt ks (s.left - 1) = 0)))) = decide (0 < s.left ∧ s.here = s.left ∧ kAt kp (s.left - 1) = 0) := by
      rcases hm with ⟨rfl, rfl, _⟩ | ⟨rfl, rfl, _⟩
      · rw [Bool.true_and, Bool.eq_iff_iff]
        simp only [Bool.and_eq_true, decide_eq_true_eq]
      · rw [Bool.false_and]
        symm
        refine decide_eq_false fun z => ?_
        rw [kAt_ones (by omega) (by omega)] at z
        omega
    have hw : cmOk c ws .turn = true := by
      rcases hm with ⟨_, _, rfl⟩ | ⟨_, _, rfl⟩
      · show W5.contains (Str.ofString "turn") = true
        decide
      · show W4.contains (Str.ofString "turn") = true
        decide
    rw [lStep_turn, hbh, turn_w]
    unfold turnS
    dsimp only
    by_cases z0 : s.left = 0
    · rw [if_pos (by rw [decide_eq_true z0]; rfl), if_pos z0]
      exact ⟨fun _ h => (by cases h), fun _ _ => rfl⟩
    · rw [if_neg z0]
      by_cases z1 : s.here = s.left ∧ kAt kp (s.left - 1) = 0
      · rw [if_neg (by rw [decide_eq_false z0, decide_eq_true (show 0 < s.left ∧ s.here = s.left ∧ kAt kp (s.left - 1) = 0 from ⟨by omega, z1⟩)]; simp), if_pos z1, if_neg (by simp)]
        exact ⟨fun s' h => ⟨hw, rfl, by cases h; exact ⟨rfl, rfl, rfl, r4, r5⟩⟩, fun h => by cases h⟩
      · rw [if_neg z1]
        by_cases z2 : s.here = s.left - 1
        · rw [if_neg (by rw [decide_eq_false z0, decide_eq_true z2]; simp), if_neg (fun h => h z2)]
          exact ⟨fun s' h => ⟨hw, rfl, by cases h; exact ⟨z2, rfl, rfl, r4, r5⟩⟩, fun h => by cases h⟩
        · rw [if_pos (by rw [decide_eq_false z0, decide_eq_false z2, decide_eq_false (show ¬(0 < s.left ∧ s.here = s.left ∧ kAt kp (s.left - 1) = 0) from fun z => z1 z.2)]; rfl), if_pos z2]
          exact ⟨fun _ h => (by cases h), fun _ _ => rfl⟩
  | mv wd n =>
    have hdo : doesS kp ⟨s.here, s.left, s.kept, wr⟩ (.mv wd n) = if wd = "keep" then (true, ⟨s.here, s.left, fun i => if i = n then some s.here else s.kept i, wr⟩) else if wd = "take" then ((s.kept n).isSome, ⟨(s.kept n).getD s.here, s.left, s.kept, wr⟩) else moveS kp ⟨s.here, s.left, s.kept, wr⟩ wd n := rfl
    have hok : cmOk c ws (.mv wd n) = (ws.contains wd && (!decide (wd = "turn") && (if wd = "keep" ∨ wd = "take" then decide (0 ≤ n) && decide (n ≤ c - 1) else decide (1 ≤ n) && decide (n ≤ 60)))) := rfl
    rw [hdo, hok, lStep_mv]
    by_cases e1 : wd = "run"
    · subst e1
      have hws : ws.contains "run" = true := by
        rcases hm with ⟨_, _, rfl⟩ | ⟨_, _, rfl⟩ <;> decide
      rw [hws, if_neg (show ¬((Str.ofString "run") = "keep") by decide), if_neg (show ¬((Str.ofString "run") = "take") by decide), if_neg (show ¬((Str.ofString "run") = "keep" ∨ (Str.ofString "run") = "take") by decide)]
      have hmv : moveS kp ⟨s.here, s.left, s.kept, wr⟩ "run" n = if s.left < s.here + n then (false, ⟨s.here, s.left, s.kept, wr⟩) else (true, ⟨s.here + n, s.left, s.kept, wr ++ [(s.here, s.here + n)]⟩) := by
        unfold moveS
        rw [if_pos rfl]
      rw [hmv]
      by_cases z1 : 1 ≤ n ∧ n ≤ s.left - s.here
      · rw [if_pos (by simp [z1]), if_neg (by omega)]
        refine ⟨fun s' h => ⟨by simp; refine ⟨by decide, by omega, by omega⟩, rfl, ?_⟩, fun h => by cases h⟩
        cases h
        refine ⟨rfl, rfl, rfl, ?_, ?_⟩
        · dsimp only
          rw [runSum_app, r4]
        · dsimp only
          rw [runSum_app, r5, cutS_ones x0 (by omega) (by omega)]
          omega
      · rw [if_neg (by
          simp only [Bool.and_eq_true, decide_eq_true_eq]
          intro z
          exact z1 z.2)]
        have n2 : ¬((Str.ofString "run") = "undo") := by decide
        have n3 : ¬((Str.ofString "run") = "keep") := by decide
        have n4 : ¬((Str.ofString "run") = "take") := by decide
        rw [decide_eq_false n2, decide_eq_false n3, decide_eq_false n4]
        refine ⟨fun s' h => (by simp at h), fun _ h => ?_⟩
        simp only [Bool.and_eq_true, decide_eq_true_eq] at h
        rw [if_pos (by omega)]
    · rw [if_neg (show ¬((decide (wd = "run") && (decide (1 ≤ n) && decide (n ≤ s.left - s.here))) = true) by rw [decide_eq_false e1]; simp)]
      by_cases e2 : wd = "undo"
      · subst e2
        have n3 : ¬((Str.ofString "undo") = "keep") := by decide
        have n4 : ¬((Str.ofString "undo") = "take") := by decide
        rw [if_neg n3, if_neg n4, if_neg (show ¬((Str.ofString "undo") = "keep" ∨ (Str.ofString "undo") = "take") by decide), decide_eq_false n3, decide_eq_false n4]
        have hmv : moveS kp ⟨s.here, s.left, s.kept, wr⟩ "undo" n = if s.here < n ∨ (cutA kp (some (s.here - n)) (some s.here)).contains 1 = true then (false, ⟨s.here, s.left, s.kept, wr⟩) else (true, ⟨s.here - n, s.left, s.kept, wr⟩) := by
          unfold moveS
          rw [if_neg (by decide)]
        rw [hmv]
        rcases hm with ⟨rfl, rfl, rfl⟩ | ⟨rfl, rfl, rfl⟩
        · have hsum := (sum_bits (bits_cut hb (some (s.here - n)) (some s.here))).1
          by_cases z1 : 1 ≤ n ∧ n ≤ s.here ∧ cutS kp (s.here - n) s.here = 0
          · rw [if_pos (by simp [z1]), if_neg (by
              rintro (z | z)
              · omega
              · rw [hsum.mpr z1.2.2] at z
                cases z)]
            refine ⟨fun s' h => ⟨by simp; refine ⟨by decide, by decide, by omega, by omega⟩, rfl, ?_⟩, fun h => by cases h⟩
            cases h
            exact ⟨rfl, rfl, rfl, r4, r5⟩
          · rw [if_neg (by
              simp only [Bool.and_eq_true, decide_eq_true_eq]
              intro z
              exact z1 ⟨z.2.2.1.1, z.2.2.1.2, z.2.2.2⟩)]
            refine ⟨fun s' h => (by simp at h), fun _ h => ?_⟩
            simp only [Bool.and_eq_true, decide_eq_true_eq] at h
            rw [if_pos]
            by_cases z : s.here < n
            · exact .inl z
            · right
              cases q : (cutA kp (some (s.here - n)) (some s.here)).contains 1 with
              | true => rfl
              | false => exact absurd ⟨h.2.2.1, by omega, hsum.mp q⟩ z1
        · have hw : (W4.contains (Str.ofString "undo")) = false := by decide
          rw [hw]
          exact ⟨fun s' h => (by simp at h), fun _ h => by simp at h⟩
      · rw [if_neg (show ¬((decide (wd = "undo") && (u && ((decide (1 ≤ n) && decide (n ≤ s.here)) && decide (cutS ks (s.here - n) s.here = 0)))) = true) by rw [decide_eq_false e2]; simp)]
        by_cases e3 : wd = "keep"
        · subst e3
          have hws : ws.contains "keep" = true := by
            rcases hm with ⟨_, _, rfl⟩ | ⟨_, _, rfl⟩ <;> decide
          have n4 : ¬((Str.ofString "keep") = "take") := by decide
          rw [hws, if_pos (show (Str.ofString "keep") = "keep" from rfl), if_pos (show (Str.ofString "keep") = "keep" ∨ (Str.ofString "keep") = "take" from .inl rfl), decide_eq_false n4]
          by_cases z1 : 0 ≤ n ∧ n < c
          · rw [if_pos (by simp [z1])]
            refine ⟨fun s' h => ⟨by simp; refine ⟨by decide, by omega, by omega⟩, rfl, ?_⟩, fun h => by cases h⟩
            cases h
            exact ⟨rfl, rfl, rfl, r4, r5⟩
          · rw [if_neg (by
              simp only [Bool.and_eq_true, decide_eq_true_eq]
              intro z
              exact z1 z.2)]
            refine ⟨fun s' h => (by simp at h), fun _ h => ?_⟩
            simp only [Bool.and_eq_true, decide_eq_true_eq] at h
            omega
        · rw [if_neg (show ¬((decide (wd = "keep") && (decide (0 ≤ n) && decide (n < c))) = true) by rw [decide_eq_false e3]; simp), if_neg e3]
          by_cases e4 : wd = "take"
          · subst e4
            have hws : ws.contains "take" = true := by
              rcases hm with ⟨_, _, rfl⟩ | ⟨_, _, rfl⟩ <;> decide
            rw [hws, if_pos (show (Str.ofString "take") = "take" from rfl), if_pos (show (Str.ofString "take") = "keep" ∨ (Str.ofString "take") = "take" from .inr rfl)]
            cases q : s.kept n with
            | none =>
              refine ⟨fun s' h => (by simp at h), fun _ _ => rfl⟩
            | some y =>
              obtain ⟨⟨y0, y1⟩, _⟩ := x4 n y q
              rw [if_pos (by simp)]
              refine ⟨fun s' h => ⟨by simp; refine ⟨by decide, by omega, by omega⟩, rfl, ?_⟩, fun h => by cases h⟩
              cases h
              exact ⟨rfl, rfl, rfl, r4, r5⟩
          · rw [if_neg (show ¬((decide (wd = "take") && (s.kept n).isSome) = true) by rw [decide_eq_false e4]; simp)]
            have hws : (ws.contains wd && !decide (wd = "turn")) = false := by
              by_cases e5 : wd = "turn"
              · rw [decide_eq_true e5]; simp
              · have : ws.contains wd = false := by
                  cases q : ws.contains wd with
                  | false => rfl
                  | true =>
                    rw [List.contains_iff_mem] at q
                    rcases hm with ⟨_, _, rfl⟩ | ⟨_, _, rfl⟩
                    · simp only [W5, List.mem_cons, List.mem_nil_iff, or_false] at q
                      rcases q with q | q | q | q | q
                      · exact absurd q e3
                      · exact absurd q e4
                      · exact absurd q e1
                      · exact absurd q e5
                      · exact absurd q e2
                    · simp only [W4, List.mem_cons, List.mem_nil_iff, or_false] at q
                      rcases q with q | q | q | q
                      · exact absurd q e3
                      · exact absurd q e4
                      · exact absurd q e1
                      · exact absurd q e5
                rw [this, Bool.false_and]
            rw [← Bool.and_assoc, hws, Bool.false_and]
            exact ⟨fun s' h => (by cases h), fun _ h => by cases h⟩
  | bl a b => exact ⟨fun s' h => (by cases h), fun _ h => by cases h⟩
  | non => exact ⟨fun s' h => (by cases h), fun _ h => by cases h⟩
  | ls d => exact ⟨fun s' h => (by cases h), fun _ h => by cases h⟩
theorem walk_agree {ks kp : List Int} {ws : List Str} {u : Bool} {c : Int} (hm : Mode ks u kp ws) (hb : Bits ks) (hn : ks.length ≤ 60) : ∀ (cs : List Cm) (w : Wst) (s : Lst), LI ks c s → Rl ks w s →
    (∀ s', lGo ks c u s cs = some s' → cs.all (cmOk c ws) = true ∧ (s'.left = 0 → ∃ w', walkS kp w cs = some w' ∧ Rl ks w' s') ∧ (s'.left ≠ 0 → walkS kp w cs = none)) ∧ (lGo ks c u s cs = none → cs.all (cmOk c ws) = true → walkS kp w cs = none)
  | [], w, s, x, r => ⟨fun s' h => by
      cases h
      refine ⟨rfl, fun z => ⟨w, ?_, r⟩, fun z => ?_⟩
      · unfold walkS
        rw [if_pos (by rw [r.l]; exact z)]
      · unfold walkS
        rw [if_neg (by rw [r.l]; exact z)], fun h => by cases h⟩
  | cm :: cs, w, s, x, r => by
    obtain ⟨a1, a2⟩ := step_agree (cm := cm) hm hb hn x r
    have eg : lGo ks c u s (cm :: cs) = match lStep ks c u s cm with | none => none | some s2 => lGo ks c u s2 cs := rfl
    have ew : walkS kp w (cm :: cs) = if (doesS kp w cm).1 = true then walkS kp (doesS kp w cm).2 cs else none := rfl
    rw [eg, ew, List.all_cons]
    cases q : lStep ks c u s cm with
    | none =>
      refine ⟨fun s' h => (by cases h), fun _ h => ?_⟩
      rw [Bool.and_eq_true] at h
      rw [a2 q h.1, if_neg (by decide)]
    | some s2 =>
      obtain ⟨b1, b2, b3⟩ := a1 s2 q
      obtain ⟨i1, i2⟩ := walk_agree hm hb hn cs _ s2 (x.step q) b3
      rw [b1, b2, if_pos rfl, Bool.true_and]
      exact ⟨i1, i2⟩
/-- the program's word of a value, the law's word -/
theorem val_agree {ks kp : List Int} {ws : List Str} {u : Bool} {c : Int} (hm : Mode ks u kp ws) (hb : Bits ks) (hn : ks.length ≤ 60) (v : Val) :
    (pWalk kp c ws v).isSome = (lWalk ks c v u).1 ∧ ∀ w, pWalk kp c ws v = some w → runSum ks w.runs = (lWalk ks c v u).2.1 ∧ runSum (onesL ks.length) w.runs = (lWalk ks c v u).2.2 := by
  have hlen : kp.length = ks.length := by
    rcases hm with ⟨_, rfl, _⟩ | ⟨_, rfl, _⟩
    · rfl
    · unfold onesL; rw [List.length_replicate]
  have main : ∀ cs : List Cm, (if (decide ((cs.length : Int) ≤ 4000) && cs.all (cmOk c ws)) = true then walkS kp (w0 kp) cs else none).isSome = (if (4000 : Int) < cs.length then (false, 0, 0) else lRes (lGo ks c u (l0 ks) cs) : LR).1 ∧
      ∀ w, (if (decide ((cs.length : Int) ≤ 4000) && cs.all (cmOk c ws)) = true then walkS kp (w0 kp) cs else none) = some w → runSum ks w.runs = (if (4000 : Int) < cs.length then (false, 0, 0) else lRes (lGo ks c u (l0 ks) cs) : LR).2.1 ∧ runSum (onesL ks.length) w.runs = (if (4000 : Int) < cs.length then (false, 0, 0) else lRes (lGo ks c u (l0 ks) cs) : LR).2.2 := fun cs => by
    by_cases hl : (4000 : Int) < cs.length
    · rw [if_pos hl, if_neg (by rw [decide_eq_false (by omega)]; simp)]
      exact ⟨rfl, fun w h => by cases h⟩
    · rw [if_neg hl, decide_eq_true (by omega), Bool.true_and]
      obtain ⟨a1, a2⟩ := walk_agree hm hb hn cs (w0 kp) (l0 ks) (LI.init ks c) ⟨rfl, by show (kp.length : Int) = ks.length; rw [hlen], rfl, rfl, rfl⟩
      cases q : lGo ks c u (l0 ks) cs with
      | none =>
        cases q2 : cs.all (cmOk c ws) with
        | false => exact ⟨rfl, fun w h => by cases h⟩
        | true =>
          rw [if_pos rfl, a2 q q2]
          exact ⟨rfl, fun w h => by cases h⟩
      | some s' =>
        obtain ⟨b1, b2, b3⟩ := a1 s' q
        rw [b1, if_pos rfl]
        by_cases z : s'.left = 0
        · obtain ⟨w', e, r⟩ := b2 z
          rw [e]
          refine ⟨?_, fun w h => ?_⟩
          · show true = decide (s'.left = 0)
            rw [decide_eq_true z]
          · cases h
            exact ⟨r.c, r.r⟩
        · rw [b3 z]
          refine ⟨?_, fun w h => by cases h⟩
          show false = decide (s'.left = 0)
          rw [decide_eq_false z]
  cases v with
  | ls cs => exact main cs
  | tp cs => exact main cs
  | oth d => exact ⟨rfl, fun w h => by cases h⟩
/-- what goes without undoing goes with it -/
theorem step_more {ks : List Int} {c : Int} {s s' : Lst} {cm : Cm} (h : lStep ks c false s cm = some s') : lStep ks c true s cm = some s' := by
  rcases lStep_cases h with ⟨rfl, a, b, rfl⟩ | ⟨n, rfl, a, b, rfl⟩ | ⟨n, _, z, _⟩ | ⟨n, rfl, a, b, rfl⟩ | ⟨n, y, rfl, a, rfl⟩
  · rcases b with b | ⟨z, _⟩
    · rw [lStep_turn, if_neg (by rw [decide_eq_false a, decide_eq_true b]; simp)]
    · cases z
  · rw [lStep_mv, if_pos (by simp [a, b])]
  · cases z
  · rw [lStep_mv] at h ⊢
    have n1 : ¬((Str.ofString "keep") = "run") := by decide
    have n2 : ¬((Str.ofString "keep") = "undo") := by decide
    rw [decide_eq_false n1, decide_eq_false n2] at h ⊢
    exact h
  · rw [lStep_mv] at h ⊢
    have n1 : ¬((Str.ofString "take") = "run") := by decide
    have n2 : ¬((Str.ofString "take") = "undo") := by decide
    rw [decide_eq_false n1, decide_eq_false n2] at h ⊢
    exact h
theorem go_more {ks : List Int} {c : Int} : ∀ {cs : List Cm} {s s' : Lst}, lGo ks c false s cs = some s' → lGo ks c true s cs = some s'
  | [], s, s', h => h
  | cm :: cs, s, s', h => by
    unfold lGo at h ⊢
    cases q : lStep ks c false s cm with
    | none => rw [q] at h; cases h
    | some s2 =>
      rw [q] at h
      rw [step_more q]
      exact go_more h
theorem val_more {ks : List Int} {c : Int} {v : Val} (h : (lWalk ks c v false).1 = true) : lWalk ks c v true = lWalk ks c v false := by
  have main : ∀ cs : List Cm, ((if (4000 : Int) < cs.length then (false, 0, 0) else lRes (lGo ks c false (l0 ks) cs) : LR).1 = true) → (if (4000 : Int) < cs.length then (false, 0, 0) else lRes (lGo ks c true (l0 ks) cs) : LR) = (if (4000 : Int) < cs.length then (false, 0, 0) else lRes (lGo ks c false (l0 ks) cs) : LR) := fun cs h => by
    by_cases z : (4000 : Int) < cs.length
    · rw [if_pos z, if_pos z]
    · rw [if_neg z] at h
      rw [if_neg z, if_neg z]
      cases q : lGo ks c false (l0 ks) cs with
      | none => rw [q] at h; cases h
      | some s' => rw [go_more q]
  cases v with
  | ls cs => exact main cs h
  | tp cs => exact main cs h
  | oth d => cases h
theorem agree_all {ks : List Int} {c : Nat} (hk : KsOk ks) (hc1 : 1 ≤ c) (hc : c ≤ 4) {v : Val} (h1 : valOk v) (h2 : valNice v) : Agree ks c (dueF ks c) v := by
  have hk' := hk
  obtain ⟨k1, k2, k3⟩ := hk
  obtain ⟨a1, a2⟩ := val_agree (c := c) (u := true) (.inl ⟨rfl, rfl, rfl⟩) k3 (by omega) v
  obtain ⟨b1, b2⟩ := val_agree (c := c) (u := false) (.inr ⟨rfl, rfl, rfl⟩) k3 (by omega) v
  have cnt : (lWalk ks c v true).1 = true → pRuns ks ks c W5 v = (lWalk ks c v true).2.1 := fun h => by
    rw [← a1] at h
    obtain ⟨w, hw⟩ := Option.isSome_iff_exists.mp h
    unfold pRuns
    rw [hw]
    exact (a2 w hw).1
  refine ⟨h1, h2, a1, low_val hk' hc1 hc, cnt, b1, fun h => ?_, fun h => ?_, fun h => ?_⟩
  · rw [a1, val_more h]
    exact h
  · rw [← b1] at h
    obtain ⟨w, hw⟩ := Option.isSome_iff_exists.mp h
    unfold pRuns
    rw [hw]
    exact (b2 w hw).2
  · rw [← val_more h]
    exact cnt (by rw [val_more h]; exact h)
end K84
/-! The plain law: the plain schedules, looked at one by one. -/
namespace K84
open PySem PySem.Spec PyProof.Rows L2 KD LB
def okP (c : Int) : Int → Bool → Int → (Int → Option Int) → Int → List Cm → Option Int
  | _, _, l, _, r, [] => if l = 0 then some r else none
  | h, fr, l, kp, r, .mv w k :: cs =>
    if w = "keep" then (if fr = true ∧ 0 ≤ k ∧ k < c then okP c h fr l (fun i => if i = k then some h else kp i) r cs else none)
    else if w = "take" then (match kp k with
      | some x => okP c x true l kp r cs
      | none => none)
    else if w = "run" then (if fr = true ∧ 1 ≤ k ∧ h + k ≤ l - 1 then okP c (h + k) fr l kp (r + k) cs else none)
    else none
  | h, fr, l, kp, r, .turn :: cs => if fr = true ∧ h = l - 1 ∧ 1 ≤ l then okP c h false (l - 1) kp r cs else none
  | _, _, _, _, _, _ :: _ => none
def schB (n c : Nat) : Bool := match schO n c with
  | none => false
  | some cs => decide (cs.length ≤ 60) && (decide (okP c 0 true n (fun _ => none) 0 cs = some (alikeC n c)) && decide (lWalk (onesL n) c (.ls cs) false = (true, alikeC n c, alikeC n c)))
def schAll : Bool := (List.range 12).all fun n => (List.range 4).all fun c => schB (n + 1) (c + 1) && (decide (leastF (n + 1) (c + 1) = alikeC ((n + 1 : Nat) : Int) ((c + 1 : Nat) : Int)) && decide (lrI ((n + 1 : Nat) : Int) ((c + 1 : Nat) : Int) * ((n + 1 : Nat) : Int) - chI (((c + 1 : Nat) : Int) + lrI ((n + 1 : Nat) : Int) ((c + 1 : Nat) : Int)) (((c + 1 : Nat) : Int) + 1) = alikeC ((n + 1 : Nat) : Int) ((c + 1 : Nat) : Int)))
theorem schAll_ok : schAll = true := by decide +kernel
theorem sch_at {n c : Nat} (h1 : 1 ≤ n) (h2 : n ≤ 12) (h3 : 1 ≤ c) (h4 : c ≤ 4) : schB n c = true ∧ leastF n c = alikeC n c ∧ lrI n c * n - chI (c + lrI n c) (c + 1) = alikeC n c := by
  have := List.all_eq_true.mp (List.all_eq_true.mp schAll_ok (n - 1) (List.mem_range.mpr (by omega))) (c - 1) (List.mem_range.mpr (by omega))
  rw [show n - 1 + 1 = n by omega, show c - 1 + 1 = c by omega, Bool.and_eq_true, Bool.and_eq_true, decide_eq_true_eq, decide_eq_true_eq] at this
  exact this
theorem sch_some {n c : Nat} (h1 : 1 ≤ n) (h2 : n ≤ 12) (h3 : 1 ≤ c) (h4 : c ≤ 4) : ∃ cs, schO n c = some cs ∧ cs.length ≤ 60 ∧ okP c 0 true n (fun _ => none) 0 cs = some (alikeC n c) ∧ lWalk (onesL n) c (.ls cs) false = (true, alikeC n c, alikeC n c) := by
  have := (sch_at h1 h2 h3 h4).1
  unfold schB at this
  cases q : schO n c with
  | none => rw [q] at this; cases this
  | some cs =>
    rw [q] at this
    simp only [Bool.and_eq_true, decide_eq_true_eq] at this
    exact ⟨cs, rfl, this.1, this.2.1, this.2.2⟩
/-! ### the places -/
theorem gI_kAt (ks : List Int) (k : Nat) : gI ks k = kAt ks k := by
  unfold gI kAt
  rw [Int.toNat_natCast]
theorem gI_app {a b : List Int} {i : Nat} : gI (a ++ b) i = if i < a.length then gI a i else gI b (i - a.length) := by
  unfold gI
  rw [List.getElem?_append]
  split <;> rfl
theorem ah_at {ks : List Int} (hb : Bits ks) : ∀ k : Nat, k ≤ ks.length → ((ahF ks k).length : Int) = fI ks k ∧ ∀ i : Nat, i < (ahF ks k).length → 0 ≤ gI (ahF ks k) i ∧ gI (ahF ks k) i < k ∧ kAt ks (gI (ahF ks k) i) = 1 ∧ fI ks (gI (ahF ks k) i) = i
  | 0, _ => by
    rw [show ((0 : Nat) : Int) = 0 from rfl, fI_zero]
    exact ⟨rfl, fun i h => by cases h⟩
  | k + 1, h => by
    obtain ⟨h1, h2⟩ := ah_at hb k (by omega)
    have e := fI_succ (ks := ks) (i := k) (by omega) (by omega)
    rw [ahF_succ, show ((k + 1 : Nat) : Int) = (k : Int) + 1 by omega, e, gI_kAt]
    rcases kAt_bit hb k with z | z
    · rw [z, if_neg (by decide), List.append_nil]
      refine ⟨by omega, fun i hi => ?_⟩
      obtain ⟨a, b, c, d⟩ := h2 i hi
      exact ⟨a, by omega, c, d⟩
    · rw [z, if_pos rfl]
      refine ⟨by rw [List.length_append, List.length_singleton]; omega, fun i hi => ?_⟩
      rw [List.length_append, List.length_singleton] at hi
      rw [gI_app]
      by_cases q : i < (ahF ks k).length
      · rw [if_pos q]
        obtain ⟨a, b, c, d⟩ := h2 i q
        exact ⟨a, by omega, c, d⟩
      · rw [if_neg q, show i - (ahF ks k).length = 0 by omega]
        show 0 ≤ (k : Int) ∧ (k : Int) < k + 1 ∧ kAt ks k = 1 ∧ fI ks k = i
        exact ⟨by omega, by omega, z, by omega⟩
structure Pls (ks : List Int) (pl : List Int) : Prop where
  n1 : 1 ≤ pl.length
  n2 : (pl.length : Int) = manyF ks
  n3 : pl.length ≤ ks.length
  b : ∀ i : Nat, i < pl.length → 0 ≤ gI pl i ∧ gI pl i ≤ ks.length ∧ fI ks (gI pl i) = i
  one : ∀ i : Nat, i < pl.length → gI pl i < ks.length → kAt ks (gI pl i) = 1
  fin : ∀ i : Nat, i < pl.length → gI pl i = ks.length → kAt ks ((ks.length : Int) - 1) = 0 ∧ i + 1 = pl.length
theorem last_kAt {ks : List Int} (h : 1 ≤ ks.length) : lastI ks = kAt ks ((ks.length : Int) - 1) := by
  unfold lastI kAt
  rw [List.getLast?_eq_getElem?, show ((ks.length : Int) - 1).toNat = ks.length - 1 by omega]
theorem pls_of {ks : List Int} (hb : Bits ks) (h : 1 ≤ ks.length) : Pls ks (placesF ks) := by
  obtain ⟨h1, h2⟩ := ah_at hb ks.length (Nat.le_refl _)
  have e2 : fI ks ks.length = ks.sum := by
    unfold fI
    rw [Int.toNat_natCast, List.take_length]
  have hm : manyF ks = ks.sum + (if lastI ks = 0 then 1 else 0) := rfl
  have hf := fI_le hb (i := ks.length) (by omega) (by omega)
  have hm2 := many_lc hb h
  have hlc : lcI ks ks.length = fI ks ((ks.length : Int) - 1) + 1 := by
    unfold lcI
    rw [if_neg (by omega)]
  have hf2 := fI_le hb (i := (ks.length : Int) - 1) (by omega) (by omega)
  have hle : ((placesF ks).length : Int) = manyF ks := by
    unfold placesF
    rw [List.length_append, hm]
    split
    · rw [List.length_singleton]; omega
    · rw [List.length_nil]; omega
  have hat : ∀ i : Nat, i < (placesF ks).length → (i < (ahF ks ks.length).length ∧ gI (placesF ks) i = gI (ahF ks ks.length) i) ∨ (lastI ks = 0 ∧ gI (placesF ks) i = ks.length ∧ i = (ahF ks ks.length).length ∧ i + 1 = (placesF ks).length) := fun i hi => by
    unfold placesF at hi ⊢
    rw [gI_app]
    by_cases q : i < (ahF ks ks.length).length
    · rw [if_pos q]
      exact .inl ⟨q, rfl⟩
    · right
      rw [if_neg q]
      rw [List.length_append] at hi ⊢
      by_cases z : lastI ks = 0
      · rw [if_pos z] at hi ⊢
        rw [List.length_singleton] at hi ⊢
        have : i = (ahF ks ks.length).length := by omega
        subst this
        rw [Nat.sub_self]
        exact ⟨z, rfl, rfl, rfl⟩
      · rw [if_neg z, List.length_nil] at hi
        omega
  refine ⟨by omega, hle, by omega, fun i hi => ?_, fun i hi hlt => ?_, fun i hi he => ?_⟩
  · rcases hat i hi with ⟨a, b⟩ | ⟨a, b, c, _⟩
    · rw [b]
      obtain ⟨c1, c2, c3, c4⟩ := h2 i a
      exact ⟨c1, by omega, c4⟩
    · rw [b]
      exact ⟨by omega, by omega, by omega⟩
  · rcases hat i hi with ⟨a, b⟩ | ⟨a, b, c, _⟩
    · rw [b]
      exact (h2 i a).2.2.1
    · omega
  · rcases hat i hi with ⟨a, b⟩ | ⟨a, b, c, d⟩
    · have := (h2 i a).2.1
      omega
    · exact ⟨by rw [← last_kAt h]; exact a, d⟩
/-! ### the plain commands, taken over -/
theorem Pls.lt {ks pl : List Int} (hb : Bits ks) (p : Pls ks pl) {i j : Nat} (hij : i < j) (hj : j < pl.length) : gI pl i < gI pl j := by
  obtain ⟨a1, a2, a3⟩ := p.b i (by omega)
  obtain ⟨b1, b2, b3⟩ := p.b j hj
  by_cases q : gI pl i < gI pl j
  · exact q
  · have := fI_mono hb (i := gI pl j) (j := gI pl i) b1 (by omega) a2
    omega
def CmB (cm : Cm) : Prop := cm = .turn ∨ ∃ w n, cm = .mv w n ∧ (w = "run" ∨ w = "keep" ∨ w = "take")
theorem go_app {ks : List Int} {c : Int} {u : Bool} : ∀ {a b : List Cm} {s : Lst}, lGo ks c u s (a ++ b) = (lGo ks c u s a).bind fun s2 => lGo ks c u s2 b
  | [], b, s => rfl
  | cm :: a, b, s => by
    have e : ∀ r, lGo ks c u s (cm :: r) = match lStep ks c u s cm with | none => none | some s2 => lGo ks c u s2 r := fun r => rfl
    rw [List.cons_append, e, e]
    cases lStep ks c u s cm with
    | none => rfl
    | some s2 => exact go_app
theorem turn_ok {ks : List Int} {c : Int} {s : Lst} (h1 : 1 ≤ s.left) (h : s.here = s.left - 1 ∨ (s.here = s.left ∧ kAt ks (s.left - 1) = 0)) : lStep ks c true s .turn = some { s with left := s.left - 1, here := s.left - 1 } := by
  rw [lStep_turn, if_neg]
  rcases h with h | h
  · rw [decide_eq_false (by omega), decide_eq_true h]
    simp
  · rw [decide_eq_false (show ¬ s.left = 0 by omega), decide_eq_true (show 0 < s.left by omega), decide_eq_true h.1, decide_eq_true h.2]
    simp
theorem turns_ok {ks : List Int} {c : Int} : ∀ (k : Nat) (s : Lst), s.here = s.left → (k : Int) ≤ s.left → (∀ p, s.left - k ≤ p → p < s.left → kAt ks p = 0) → lGo ks c true s (List.replicate k .turn) = some { s with left := s.left - k, here := s.left - k }
  | 0, s, h, _, _ => by
    obtain ⟨a, b, c1, d, e⟩ := s
    dsimp only at h
    subst h
    show some _ = some _
    simp
  | k + 1, s, h, hk, hz => by
    have e : lGo ks c true s (List.replicate (k + 1) .turn) = match lStep ks c true s .turn with | none => none | some s2 => lGo ks c true s2 (List.replicate k .turn) := rfl
    rw [e, turn_ok (by omega) (.inr ⟨h, hz _ (by omega) (by omega)⟩)]
    dsimp only
    rw [turns_ok k _ rfl (by dsimp only; omega) (fun p h1 h2 => hz p (by dsimp only at h1; omega) (by dsimp only at h2; omega))]
    dsimp only
    rw [show s.left - 1 - (k : Int) = s.left - ((k + 1 : Nat) : Int) by omega]
theorem turns_ok1 {ks : List Int} {c : Int} (k : Nat) (s : Lst) (hk1 : 1 ≤ k) (hk : (k : Int) ≤ s.left) (h : s.here = s.left - 1 ∨ (s.here = s.left ∧ kAt ks (s.left - 1) = 0)) (hz : ∀ p, s.left - k ≤ p → p < s.left - 1 → kAt ks p = 0) : lGo ks c true s (List.replicate k .turn) = some { s with left := s.left - k, here := s.left - k } := by
  obtain ⟨m, rfl⟩ : ∃ m, k = m + 1 := ⟨k - 1, by omega⟩
  have e : lGo ks c true s (List.replicate (m + 1) .turn) = match lStep ks c true s .turn with | none => none | some s2 => lGo ks c true s2 (List.replicate m .turn) := rfl
  rw [e, turn_ok (by omega) h]
  dsimp only
  rw [turns_ok m _ rfl (by dsimp only; omega) (fun p h1 h2 => hz p (by dsimp only at h1; omega) (by dsimp only at h2; omega))]
  dsimp only
  rw [show s.left - 1 - (m : Int) = s.left - ((m + 1 : Nat) : Int) by omega]
/-- where the l-th unit ends -/
def lftP (pl : List Int) (n : Nat) (l : Int) : Int := if l = 0 then 0 else if gI pl (l - 1).toNat < n then gI pl (l - 1).toNat + 1 else n
structure PR (ks pl : List Int) (h : Int) (fr : Bool) (l : Int) (kp : Int → Option Int) (r : Int) (s : Lst) : Prop where
  h0 : 0 ≤ h
  h1 : h < pl.length
  l0 : 0 ≤ l
  l1 : l ≤ pl.length
  k : ∀ i v, kp i = some v → 0 ≤ v ∧ v < pl.length
  here : fr = true → s.here = gI pl h.toNat
  left : s.left = lftP pl ks.length l
  kept : ∀ i, s.kept i = (kp i).map fun v => gI pl v.toNat
  count : s.count = r
theorem unit_step {ks pl : List Int} {c : Int} (hb : Bits ks) (p : Pls ks pl) {l : Nat} (h1 : l < pl.length) (s : Lst) (hh : s.here = gI pl l) (hl : s.left = lftP pl ks.length ((l : Int) + 1)) :
    lGo ks c true s (unitT pl ks.length l) = some { s with left := lftP pl ks.length l, here := lftP pl ks.length l } := by
  obtain ⟨b1, b2, b3⟩ := p.b l h1
  have e1 : lftP pl ks.length ((l : Int) + 1) = if gI pl l < ks.length then gI pl l + 1 else ks.length := by
    unfold lftP
    rw [if_neg (by omega), show ((l : Int) + 1 - 1).toNat = l by omega]
  have e2 : lftP pl ks.length l = unitFirst pl l := by
    unfold lftP unitFirst
    by_cases z : 0 < l
    · rw [if_neg (by omega), if_pos z, show ((l : Int) - 1).toNat = l - 1 by omega]
      have := p.lt hb (i := l - 1) (j := l) (by omega) h1
      rw [if_pos (by omega)]
    · rw [if_pos (by omega), if_neg z]
  have hf : 0 ≤ unitFirst pl l ∧ unitFirst pl l ≤ gI pl l ∧ unitFirst pl l ≠ (ks.length : Int) ∧ fI ks (unitFirst pl l) = l := by
    unfold unitFirst
    by_cases z : 0 < l
    · rw [if_pos z]
      have h2 := p.lt hb (i := l - 1) (j := l) (by omega) h1
      obtain ⟨a1, a2, a3⟩ := p.b (l - 1) (by omega)
      have a4 := p.one (l - 1) (by omega) (by omega)
      have a5 := fI_succ (ks := ks) (i := gI pl (l - 1)) a1 (by omega)
      refine ⟨by omega, by omega, fun e => ?_, by omega⟩
      · have e3 : gI pl (l - 1) = (ks.length : Int) - 1 := by omega
        have e4 : gI pl l = ks.length := by omega
        have := (p.fin l h1 e4).1
        rw [← e3, a4] at this
        cases this
    · rw [if_neg z]
      refine ⟨by omega, b1, fun e => ?_, by rw [fI_zero]; omega⟩
      have := p.n1
      have := p.n3
      omega
  obtain ⟨f1, f2, f3, f4⟩ := hf
  have em : unitMany pl ks.length l = lftP pl ks.length ((l : Int) + 1) - unitFirst pl l := by
    rw [e1]
    unfold unitMany
    split <;> omega
  have hgt : unitFirst pl l < lftP pl ks.length ((l : Int) + 1) := by
    rw [e1]
    split <;> omega
  have hz : ∀ q, unitFirst pl l ≤ q → q < gI pl l → kAt ks q = 0 := fun q q1 q2 => by
    have a1 := fI_mono hb (i := unitFirst pl l) (j := q) f1 q1 (by omega)
    have a2 := fI_succ (ks := ks) (i := q) (by omega) (by omega)
    have a3 := fI_mono hb (i := q + 1) (j := gI pl l) (by omega) (by omega) b2
    rcases kAt_bit hb q with z | z
    · exact z
    · omega
  unfold unitT
  rw [e2]
  have hk : ((unitMany pl ks.length l).toNat : Int) = lftP pl ks.length ((l : Int) + 1) - unitFirst pl l := by omega
  rw [turns_ok1 (unitMany pl ks.length l).toNat s (by omega) (by omega) ?_ fun q q1 q2 => hz q (by omega) ?_]
  · rw [show s.left - ((unitMany pl ks.length l).toNat : Int) = unitFirst pl l by omega]
  · rw [hh, hl, e1]
    by_cases z : gI pl l < ks.length
    · rw [if_pos z]
      left
      omega
    · rw [if_neg z]
      right
      exact ⟨by omega, (p.fin l h1 (by omega)).1⟩
  · rw [hl, e1] at q2
    split at q2 <;> omega
theorem run_ok {ks : List Int} {c n : Int} {u : Bool} {s : Lst} (h1 : 1 ≤ n) (h2 : n ≤ s.left - s.here) : lStep ks c u s (cRun n) = some { s with count := s.count + cutS ks s.here (s.here + n), runs := s.runs + n, here := s.here + n } := by
  show lStep ks c u s (.mv "run" n) = _
  rw [lStep_mv, if_pos (by simp [h1, h2])]
theorem keep_ok {ks : List Int} {c n : Int} {u : Bool} {s : Lst} (h1 : 0 ≤ n) (h2 : n < c) : lStep ks c u s (.mv "keep" n) = some { s with kept := fun i => if i = n then some s.here else s.kept i } := by
  have n1 : ¬((Str.ofString "keep") = "run") := by decide
  have n2 : ¬((Str.ofString "keep") = "undo") := by decide
  rw [lStep_mv, decide_eq_false n1, decide_eq_false n2, if_neg (by simp), if_neg (by simp), if_pos (by simp [h1, h2])]
theorem take_ok {ks : List Int} {c n x : Int} {u : Bool} {s : Lst} (h1 : s.kept n = some x) : lStep ks c u s (.mv "take" n) = some { s with here := x } := by
  have n1 : ¬((Str.ofString "take") = "run") := by decide
  have n2 : ¬((Str.ofString "take") = "undo") := by decide
  have n3 : ¬((Str.ofString "take") = "keep") := by decide
  rw [lStep_mv, decide_eq_false n1, decide_eq_false n2, decide_eq_false n3, if_neg (by simp), if_neg (by simp), if_neg (by simp), if_pos (by simp [h1])]
  rw [h1]
  rfl
theorem unitT_len {ks pl : List Int} (hb : Bits ks) (p : Pls ks pl) (hn : ks.length ≤ 12) {l : Nat} (h1 : l < pl.length) : (unitT pl ks.length l).length ≤ 13 ∧ ∀ cm ∈ unitT pl ks.length l, CmB cm := by
  unfold unitT
  rw [List.length_replicate]
  refine ⟨?_, fun cm hc => .inl (List.eq_of_mem_replicate hc)⟩
  obtain ⟨b1, b2, b3⟩ := p.b l h1
  unfold unitMany unitFirst
  split
  · have := (p.b (l - 1) (by omega)).1
    split <;> omega
  · split <;> omega
theorem undo_sim {ks pl : List Int} {c : Int} (hb : Bits ks) (hn : ks.length ≤ 12) (p : Pls ks pl) : ∀ (cs : List Cm) (h : Int) (fr : Bool) (l : Int) (kp : Int → Option Int) (r R : Int) (s : Lst) (found : List Cm), PR ks pl h fr l kp r s → okP c h fr l kp r cs = some R → found.length + 13 * cs.length ≤ 5000 →
    ∃ out, undoGo pl ks.length cs h l kp found = some (found ++ out) ∧ (∃ s', lGo ks c true s out = some s' ∧ s'.left = 0 ∧ s'.count = R) ∧ (∀ cm ∈ out, CmB cm) ∧ out.length ≤ 13 * cs.length
  | [], h, fr, l, kp, r, R, s, found, x, ho, _ => by
    unfold okP at ho
    split at ho
    · rename_i z
      subst z
      cases ho
      refine ⟨[], by rw [List.append_nil]; rfl, ⟨s, rfl, ?_, x.count⟩, (fun cm hc => by cases hc), Nat.zero_le _⟩
      rw [x.left]
      rfl
    · cases ho
  | .mv w k :: cs, h, fr, l, kp, r, R, s, found, x, ho, hf => by
    rw [List.length_cons] at hf
    have eo : okP c h fr l kp r (.mv w k :: cs) = (if w = "keep" then (if fr = true ∧ 0 ≤ k ∧ k < c then okP c h fr l (fun i => if i = k then some h else kp i) r cs else none)
      else if w = "take" then (match kp k with
        | some x => okP c x true l kp r cs
        | none => none)
      else if w = "run" then (if fr = true ∧ 1 ≤ k ∧ h + k ≤ l - 1 then okP c (h + k) fr l kp (r + k) cs else none)
      else none) := rfl
    have eu : undoGo pl ks.length (.mv w k :: cs) h l kp found = if found.length ≤ 5000 then
      (if w = "keep" then undoGo pl ks.length cs h l (fun i => if i = k then some h else kp i) (found ++ [.mv w k])
      else if w = "take" then (match kp k with
        | some h => undoGo pl ks.length cs h l kp (found ++ [.mv w k])
        | none => none)
      else if w = "run" then (if 0 ≤ h ∧ 0 ≤ k ∧ h + k < pl.length then undoGo pl ks.length cs (h + k) l kp (found ++ [cRun (gI pl (h + k).toNat - gI pl h.toNat)]) else none)
      else none) else none := rfl
    rw [eo] at ho
    rw [eu, if_pos (by omega)]
    have fin : ∀ (cm : Cm) (s2 : Lst) (h' : Int) (fr' : Bool) (kp' : Int → Option Int) (r' : Int), lStep ks c true s cm = some s2 → CmB cm → PR ks pl h' fr' l kp' r' s2 → okP c h' fr' l kp' r' cs = some R → ∃ out, undoGo pl ks.length cs h' l kp' (found ++ [cm]) = some (found ++ out) ∧ (∃ s', lGo ks c true s out = some s' ∧ s'.left = 0 ∧ s'.count = R) ∧ (∀ cm ∈ out, CmB cm) ∧ out.length ≤ 13 * (cs.length + 1) := fun cm s2 h' fr' kp' r' hs hcm x2 ho2 => by
      obtain ⟨out, o1, ⟨s', o2, o3⟩, o4, o5⟩ := undo_sim hb hn p cs h' fr' l kp' r' R s2 (found ++ [cm]) x2 ho2 (by rw [List.length_append, List.length_singleton]; omega)
      refine ⟨cm :: out, by rw [o1, List.append_assoc]; rfl, ⟨s', ?_, o3⟩, fun y hy => ?_, by rw [List.length_cons]; omega⟩
      · have e : lGo ks c true s (cm :: out) = match lStep ks c true s cm with | none => none | some s2 => lGo ks c true s2 out := rfl
        rw [e, hs]
        exact o2
      · rcases List.mem_cons.mp hy with z | z
        · subst z; exact hcm
        · exact o4 y z
    by_cases e1 : w = "keep"
    · subst e1
      rw [if_pos rfl] at ho ⊢
      by_cases z : fr = true ∧ 0 ≤ k ∧ k < c
      · rw [if_pos z] at ho
        refine fin _ _ h fr _ r (keep_ok z.2.1 z.2.2) (.inr ⟨_, _, rfl, .inr (.inl rfl)⟩) ⟨x.h0, x.h1, x.l0, x.l1, fun i v hv => ?_, x.here, x.left, fun i => ?_, x.count⟩ ho
        · have hv : (if i = k then some h else kp i) = some v := hv
          by_cases q : i = k
          · rw [if_pos q] at hv
            cases hv
            exact ⟨x.h0, x.h1⟩
          · rw [if_neg q] at hv
            exact x.k i v hv
        · show (if i = k then some s.here else s.kept i) = Option.map (fun v : Int => gI pl v.toNat) (if i = k then some h else kp i)
          by_cases q : i = k
          · rw [if_pos q, if_pos q, x.here z.1]
            rfl
          · rw [if_neg q, if_neg q]
            exact x.kept i
      · rw [if_neg z] at ho
        cases ho
    · rw [if_neg e1] at ho ⊢
      by_cases e2 : w = "take"
      · subst e2
        rw [if_pos rfl] at ho ⊢
        cases q : kp k with
        | none => rw [q] at ho; cases ho
        | some y =>
          rw [q] at ho
          have hk := x.kept k
          rw [q] at hk
          obtain ⟨y0, y1⟩ := x.k k y q
          exact fin _ _ y true kp r (take_ok hk) (.inr ⟨_, _, rfl, .inr (.inr rfl)⟩) ⟨y0, y1, x.l0, x.l1, x.k, fun _ => rfl, x.left, x.kept, x.count⟩ ho
      · rw [if_neg e2] at ho ⊢
        by_cases e3 : w = "run"
        · subst e3
          rw [if_pos rfl] at ho ⊢
          by_cases z : fr = true ∧ 1 ≤ k ∧ h + k ≤ l - 1
          · rw [if_pos z] at ho
            have hl1 := x.l1
            have hh0 := x.h0
            rw [if_pos (by omega)]
            obtain ⟨a1, a2, a3⟩ := p.b h.toNat (by omega)
            obtain ⟨b1, b2, b3⟩ := p.b (h + k).toNat (by omega)
            have hlt := p.lt hb (i := h.toNat) (j := (h + k).toNat) (by omega) (by omega)
            have hleft : gI pl (h + k).toNat ≤ s.left := by
              rw [x.left]
              unfold lftP
              rw [if_neg (by omega)]
              obtain ⟨c1, c2, c3⟩ := p.b (l - 1).toNat (by omega)
              have hle : gI pl (h + k).toNat ≤ gI pl (l - 1).toNat := by
                by_cases q : (h + k).toNat = (l - 1).toNat
                · rw [q]; omega
                · have := p.lt hb (i := (h + k).toNat) (j := (l - 1).toNat) (by omega) (by omega)
                  omega
              split <;> omega
            have hhere := x.here z.1
            have ecut := cutS_eq (ks := ks) (a := gI pl h.toNat) (b := gI pl (h + k).toNat) a1 (by omega) b2
            have hst := run_ok (ks := ks) (c := c) (u := true) (s := s) (n := gI pl (h + k).toNat - gI pl h.toNat) (by omega) (by omega)
            refine fin _ _ (h + k) fr kp (r + k) hst (.inr ⟨_, _, rfl, .inl rfl⟩) ⟨by omega, by omega, x.l0, x.l1, x.k, fun _ => ?_, x.left, x.kept, ?_⟩ ho
            · dsimp only
              omega
            · dsimp only
              rw [x.count, hhere, show gI pl h.toNat + (gI pl (h + k).toNat - gI pl h.toNat) = gI pl (h + k).toNat by omega, ecut]
              omega
          · rw [if_neg z] at ho
            cases ho
        · rw [if_neg e3] at ho
          cases ho
  | .turn :: cs, h, fr, l, kp, r, R, s, found, x, ho, hf => by
    rw [List.length_cons] at hf
    have eo : okP c h fr l kp r (.turn :: cs) = if fr = true ∧ h = l - 1 ∧ 1 ≤ l then okP c h false (l - 1) kp r cs else none := rfl
    have eu : undoGo pl ks.length (.turn :: cs) h l kp found = if found.length ≤ 5000 ∧ 1 ≤ l ∧ l ≤ pl.length then undoGo pl ks.length cs h (l - 1) kp (found ++ unitT pl ks.length (l - 1).toNat) else none := rfl
    rw [eo] at ho
    by_cases z : fr = true ∧ h = l - 1 ∧ 1 ≤ l
    · rw [if_pos z] at ho
      have hl1 := x.l1
      rw [eu, if_pos ⟨by omega, z.2.2, hl1⟩]
      have hu := unit_step (c := c) hb p (l := (l - 1).toNat) (by omega) s (by rw [x.here z.1, z.2.1]) (by rw [x.left, show (((l - 1).toNat : Nat) : Int) + 1 = l by omega])
      obtain ⟨u1, u2⟩ := unitT_len hb p hn (l := (l - 1).toNat) (by omega)
      rw [show (((l - 1).toNat : Nat) : Int) = l - 1 by omega] at hu
      obtain ⟨out, o1, ⟨s', o2, o3⟩, o4, o5⟩ := undo_sim hb hn p cs h false (l - 1) kp r R { s with left := lftP pl ks.length (l - 1), here := lftP pl ks.length (l - 1) } (found ++ unitT pl ks.length (l - 1).toNat) ⟨x.h0, x.h1, by omega, by omega, x.k, (fun q => by cases q), rfl, x.kept, x.count⟩ ho (by rw [List.length_append]; omega)
      refine ⟨unitT pl ks.length (l - 1).toNat ++ out, by rw [o1, List.append_assoc], ⟨s', ?_, o3⟩, fun y hy => ?_, by rw [List.length_append, List.length_cons]; omega⟩
      · rw [go_app, hu]
        exact o2
      · rcases List.mem_append.mp hy with q | q
        · exact u2 y q
        · exact o4 y q
    · rw [if_neg z] at ho
      cases ho
  | .bl _ _ :: cs, h, fr, l, kp, r, R, s, found, x, ho, hf => by cases ho
  | .non :: cs, h, fr, l, kp, r, R, s, found, x, ho, hf => by cases ho
  | .ls _ :: cs, h, fr, l, kp, r, R, s, found, x, ho, hf => by cases ho
/-- a best undoing, all of it -/
theorem undo_best {ks : List Int} {c : Nat} (hk : KsOk ks) (hc1 : 1 ≤ c) (hc : c ≤ 4) : ∃ plain res, schO (placesF ks).length c = some plain ∧ plain.length ≤ 60 ∧ undoO ks plain = some res ∧ (∀ cm ∈ res, CmB cm) ∧ res.length ≤ 781 ∧ ∃ s', lGo ks c true (l0 ks) res = some s' ∧ s'.left = 0 ∧ s'.count = dueF ks c := by
  obtain ⟨k1, k2, k3⟩ := hk
  have p := pls_of k3 k1
  have hp3 := p.n3
  obtain ⟨plain, e1, e2, e3, _⟩ := sch_some (n := (placesF ks).length) (c := c) p.n1 (by omega) hc1 hc
  have hdue : alikeC (placesF ks).length c = dueF ks c := by
    unfold dueF
    rw [p.n2]
  rw [hdue] at e3
  obtain ⟨b1, b2, b3⟩ := p.b 0 p.n1
  -- the start
  have hfl : lftP (placesF ks) ks.length (placesF ks).length = ks.length := by
    have hn1 := p.n1
    unfold lftP
    rw [if_neg (by omega), show (((placesF ks).length : Int) - 1).toNat = (placesF ks).length - 1 by omega]
    obtain ⟨c1, c2, c3⟩ := p.b ((placesF ks).length - 1) (by omega)
    by_cases z : gI (placesF ks) ((placesF ks).length - 1) < ks.length
    · rw [if_pos z]
      -- the last place is the last round
      have o := p.one _ (by omega) z
      have hm := p.n2
      have hm2 := many_lc k3 k1
      have hlc : lcI ks ks.length = fI ks ((ks.length : Int) - 1) + 1 := by
        unfold lcI
        rw [if_neg (by omega)]
      by_cases q : gI (placesF ks) ((placesF ks).length - 1) = (ks.length : Int) - 1
      · omega
      · have a1 := fI_succ (ks := ks) (i := gI (placesF ks) ((placesF ks).length - 1)) c1 (by omega)
        have a2 := fI_mono k3 (i := gI (placesF ks) ((placesF ks).length - 1) + 1) (j := (ks.length : Int) - 1) (by omega) (by omega) (by omega)
        omega
    · rw [if_neg z]
  have st : ∃ s0, lGo ks c true (l0 ks) (undoStart (placesF ks)) = some s0 ∧ PR ks (placesF ks) 0 true (placesF ks).length (fun _ => none) 0 s0 ∧ (∀ cm ∈ undoStart (placesF ks), CmB cm) ∧ (undoStart (placesF ks)).length ≤ 1 := by
    have hn1 := p.n1
    unfold undoStart
    by_cases z : 0 < gI (placesF ks) 0
    · rw [if_pos z]
      have hst := run_ok (ks := ks) (c := c) (u := true) (s := l0 ks) (n := gI (placesF ks) 0) (by omega) (by show gI (placesF ks) 0 ≤ (ks.length : Int) - 0; omega)
      have ecut := cutS_eq (ks := ks) (a := 0) (b := gI (placesF ks) 0) (by omega) (by omega) b2
      rw [fI_zero] at ecut
      refine ⟨_, by
        show (match lStep ks c true (l0 ks) (cRun (gI (placesF ks) 0)) with | none => none | some s2 => lGo ks c true s2 []) = _
        rw [hst]
        rfl, ⟨by omega, by omega, by omega, by omega, (fun i v h => by cases h), fun _ => ?_, ?_, fun i => rfl, ?_⟩, fun cm hc => ?_, by simp⟩
      · show (0 : Int) + gI (placesF ks) 0 = gI (placesF ks) 0
        omega
      · exact hfl.symm
      · show (0 : Int) + cutS ks 0 (0 + gI (placesF ks) 0) = 0
        rw [Int.zero_add, Int.zero_add, ecut, b3]
        rfl
      · rw [List.mem_singleton] at hc
        subst hc
        exact .inr ⟨_, _, rfl, .inl rfl⟩
    · rw [if_neg z]
      refine ⟨l0 ks, rfl, ⟨by omega, by omega, by omega, by omega, (fun i v h => by cases h), fun _ => ?_, ?_, fun i => rfl, rfl⟩, (fun cm hc => by cases hc), by simp⟩
      · show (0 : Int) = gI (placesF ks) 0
        omega
      · exact hfl.symm
  obtain ⟨s0, t1, t2, t3, t4⟩ := st
  obtain ⟨out, o1, ⟨s', o2, o3, o4⟩, o5, o6⟩ := undo_sim k3 k2 p plain 0 true _ _ 0 _ s0 (undoStart (placesF ks)) t2 e3 (by omega)
  refine ⟨plain, undoStart (placesF ks) ++ out, e1, e2, o1, fun cm hc => ?_, by rw [List.length_append]; omega, s', ?_, o3, o4⟩
  · rcases List.mem_append.mp hc with q | q
    · exact t3 cm q
    · exact o5 cm q
  · rw [go_app, t1]
    exact o2
end K84
/-! The plain law, all but the search. -/
namespace K84
open PySem PySem.Spec PyProof.Rows L2 KD LB
theorem cmB_m {cm : Cm} (h : CmB cm) : CmM cm ∧ cmNice cm ∧ Smp 1 (cmD cm) := by
  rcases h with rfl | ⟨w, n, rfl, h⟩
  · refine ⟨.inl rfl, trivial, by show 1 ≤ 90000; decide, fun d hd => ?_⟩
    rw [List.mem_singleton] at hd
    subst hd
    show strOne "turn" = true
    decide +kernel
  · have hs : strOne w = true := by rcases h with rfl | rfl | rfl <;> decide +kernel
    have hk : PyData.strOk w = true := by rcases h with rfl | rfl | rfl <;> decide +kernel
    have ht : w ≠ "turn" := by rcases h with rfl | rfl | rfl <;> decide
    refine ⟨.inr ⟨w, n, rfl, ht⟩, hk, by show 2 ≤ 90000; decide, fun d hd => ?_⟩
    simp only [List.mem_cons, List.mem_nil_iff, or_false] at hd
    rcases hd with rfl | rfl
    · exact hs
    · trivial
theorem go_ones {ks : List Int} {c : Int} : ∀ {cs : List Cm} {s t : Lst}, s.here = t.here → s.left = t.left → s.kept = t.kept → s.runs = t.runs → (∀ s', lGo (onesL ks.length) c false s cs = some s' → ∃ t', lGo ks c false t cs = some t' ∧ t'.left = s'.left ∧ t'.runs = s'.runs)
  | [], s, t, h1, h2, h3, h4, s', h => by
    cases h
    exact ⟨t, rfl, h2.symm, h4.symm⟩
  | cm :: cs, s, t, h1, h2, h3, h4, s', h => by
    have e : ∀ ks s, lGo ks c false s (cm :: cs) = match lStep ks c false s cm with | none => none | some s2 => lGo ks c false s2 cs := fun _ _ => rfl
    rw [e] at h ⊢
    cases q : lStep (onesL ks.length) c false s cm with
    | none => rw [q] at h; cases h
    | some s2 =>
      rw [q] at h
      have step : ∀ t2, lStep ks c false t cm = some t2 → s2.here = t2.here → s2.left = t2.left → s2.kept = t2.kept → s2.runs = t2.runs → ∃ t', (match lStep ks c false t cm with | none => none | some s2 => lGo ks c false s2 cs) = some t' ∧ t'.left = s'.left ∧ t'.runs = s'.runs := fun t2 ht a1 a2 a3 a4 => by
        rw [ht]
        exact go_ones a1 a2 a3 a4 s' h
      rcases lStep_cases q with ⟨rfl, a, b, rfl⟩ | ⟨n, rfl, a, b, rfl⟩ | ⟨n, _, z, _⟩ | ⟨n, rfl, a, b, rfl⟩ | ⟨n, y, rfl, a, rfl⟩
      · rcases b with b | ⟨z, _⟩
        · refine step { t with left := t.left - 1, here := t.left - 1 } ?_ (by dsimp only; rw [h2]) (by dsimp only; rw [h2]) h3 h4
          rw [lStep_turn, if_neg]
          rw [decide_eq_false (by omega), decide_eq_true (show t.here = t.left - 1 by omega)]
          simp
        · cases z
      · refine step _ (run_ok a (by omega)) (by dsimp only; rw [h1]) h2 h3 (by dsimp only; rw [h4])
      · cases z
      · refine step _ (keep_ok a b) h1 h2 (by dsimp only; rw [h3, h1]) h4
      · refine step _ (take_ok (x := y) (by rw [← h3]; exact a)) rfl h2 h3 h4
theorem ksOk_ones {n : Nat} (h1 : 1 ≤ n) (h2 : n ≤ 12) : KsOk (onesL n) := by
  unfold KsOk onesL
  rw [List.length_replicate]
  exact ⟨h1, h2, fun x hx => .inr (List.eq_of_mem_replicate hx)⟩
theorem many_ones {n : Nat} (h1 : 1 ≤ n) (h2 : n ≤ 12) : manyF (onesL n) = n := by
  have k := ksOk_ones h1 h2
  have hl : (onesL n).length = n := by unfold onesL; rw [List.length_replicate]
  unfold manyF
  rw [last_kAt k.1, hl, kAt_ones (by omega) (by omega), if_neg (by decide)]
  unfold onesL
  rw [sum_ones]
  omega
theorem least_ks {ks : List Int} {c : Nat} (hk : KsOk ks) (hc1 : 1 ≤ c) (hc : c ≤ 4) : leastI ks c = dueF ks c := by
  have p := pls_of hk.2.2 hk.1
  have := p.n3
  have hk2 := hk.2.1
  unfold leastI dueF
  rw [(sch_at (n := (placesF ks).length) (c := c) p.n1 (by omega) hc1 hc).2.2, p.n2]
theorem near_ok {ks : List Int} {c : Nat} {res : List Cm} (hn : ks.length ≤ 12) (hr : res.length ≤ 781) (hm : ∀ cm ∈ res, cmNice cm) (at_ x y : Int) : ∀ v ∈ nearV ks.length res at_ x y, valOk v ∧ valNice v := by
  have cut_len : ∀ lo hi : Option Int, (cutA res lo hi).length ≤ 781 := fun lo hi => Nat.le_trans (cutA_len res lo hi) hr
  have cut_mem : ∀ lo hi : Option Int, ∀ cm ∈ cutA res lo hi, cmNice cm := fun lo hi cm h => hm cm (List.mem_of_mem_drop (List.mem_of_mem_take h))
  have nmv : ∀ (w : Str) (n : Int), PyData.strOk w = true → cmNice (.mv w n) := fun w n h => h
  have s1 : PyData.strOk "run" = true := by decide +kernel
  have s2 : PyData.strOk "undo" = true := by decide +kernel
  have s3 : PyData.strOk "keep" = true := by decide +kernel
  have s4 : PyData.strOk "take" = true := by decide +kernel
  have okl : ∀ cs : List Cm, cs.length ≤ 90000 → (∀ cm ∈ cs, cmNice cm) → valOk (.ls cs) ∧ valNice (.ls cs) := fun cs h1 h2 => ⟨h1, h1, h2⟩
  have ap : ∀ {a b : List Cm}, (∀ cm ∈ a, cmNice cm) → (∀ cm ∈ b, cmNice cm) → ∀ cm ∈ a ++ b, cmNice cm := fun ha hb cm h => (List.mem_append.mp h).elim (ha cm) (hb cm)
  have one : ∀ {a : Cm}, cmNice a → ∀ cm ∈ [a], cmNice cm := fun h cm hc => by
    rw [List.mem_singleton] at hc
    subst hc
    exact h
  have two : ∀ {a b : Cm}, cmNice a → cmNice b → ∀ cm ∈ [a, b], cmNice cm := fun h h' cm hc => by
    simp only [List.mem_cons, List.mem_nil_iff, or_false] at hc
    rcases hc with rfl | rfl
    · exact h
    · exact h'
  have mid : ∀ (b : List Cm), b.length ≤ 2 → (∀ cm ∈ b, cmNice cm) → valOk (.ls (cutA res none (some at_) ++ b ++ cutA res (some at_) none)) ∧ valNice (.ls (cutA res none (some at_) ++ b ++ cutA res (some at_) none)) := fun b h1 h2 => by
    have a1 := cut_len none (some at_)
    have a2 := cut_len (some at_) none
    exact okl _ (by rw [List.length_append, List.length_append]; omega) (ap (ap (cut_mem _ _) h2) (cut_mem _ _))
  have oth : ∀ d, isSeq d = false → valOk (.oth d) ∧ valNice (.oth d) := fun d h => ⟨h, h⟩
  intro v hv
  unfold nearV near1 near2 near3 near4 near5 at hv
  simp only [List.mem_append, List.mem_cons, List.mem_nil_iff, or_false] at hv
  rcases hv with (((((rfl | rfl | rfl | rfl | rfl | rfl | rfl | rfl) | (rfl | rfl | rfl | rfl | rfl | rfl | rfl | rfl)) | (rfl | rfl)) | (rfl | rfl | rfl)) | (rfl | rfl))
  · exact okl _ (by omega) hm
  · have h : res.length ≤ 90000 := by omega
    exact ⟨h, h, hm⟩
  · exact okl _ (by have := cut_len (some 1) none; omega) (cut_mem _ _)
  · exact okl _ (by have := cut_len none (some (-1)); omega) (cut_mem _ _)
  · exact okl _ (by rw [List.length_append, List.length_singleton]; omega) (ap hm (one trivial))
  · exact okl _ (by rw [List.length_append, List.length_singleton]; omega) (ap (one (nmv _ _ s2)) hm)
  · exact okl _ (by rw [List.length_append, List.length_singleton]; omega) (ap (one (nmv _ _ s1)) hm)
  · exact okl _ (by rw [List.length_reverse]; omega) (fun cm h => hm cm (List.mem_reverse.mp h))
  · exact oth _ rfl
  · exact oth _ rfl
  · exact oth _ rfl
  · exact oth _ rfl
  · exact okl _ (by rw [List.length_append, List.length_singleton]; omega) (ap (one trivial) hm)
  · refine okl _ (by rw [List.length_map]; omega) fun cm h => ?_
    obtain ⟨a, _, rfl⟩ := List.mem_map.mp h
    trivial
  · exact okl _ (by rw [List.length_append, List.length_singleton]; omega) (ap hm (one (nmv _ _ s2)))
  · exact mid _ (by decide) (one (nmv _ _ s2))
  · exact mid _ (by show 1 ≤ 2; decide) (one (nmv _ _ s3))
  · exact mid _ (by show 1 ≤ 2; decide) (one (nmv _ _ s4))
  · exact mid _ (by show 1 ≤ 2; decide) (one s2)
  · exact mid _ (by decide) (two (nmv _ _ s2) (nmv _ _ s1))
  · exact mid _ (by decide) (two (nmv _ _ s1) (nmv _ _ s2))
  · have hlen : ∀ l : List Nat, (l.flatMap slowStep).length ≤ 3 * l.length := fun l => by
      induction l with
      | nil => simp
      | cons a l ih =>
        rw [List.flatMap_cons, List.length_append, List.length_cons]
        have : (slowStep a).length ≤ 3 := by
          unfold slowStep
          split <;> simp
        omega
    refine okl _ ?_ fun cm h => ?_
    · unfold slowC
      have := hlen (List.range ks.length).reverse
      rw [List.length_reverse, List.length_range] at this
      rw [List.length_cons]
      omega
    · unfold slowC at h
      rcases List.mem_cons.mp h with rfl | h
      · exact nmv _ _ s3
      · obtain ⟨a, _, h⟩ := List.mem_flatMap.mp h
        unfold slowStep at h
        split at h
        · simp only [List.mem_cons, List.mem_nil_iff, or_false] at h
          rcases h with rfl | rfl | rfl
          · exact nmv _ _ s4
          · exact nmv _ _ s1
          · trivial
        · simp only [List.mem_cons, List.mem_nil_iff, or_false] at h
          rcases h with rfl | rfl
          · exact nmv _ _ s4
          · trivial
  · refine okl _ (by rw [List.length_append, List.length_singleton, List.length_replicate]; omega) (ap (one (nmv _ _ s1)) fun cm h => ?_)
    rw [List.eq_of_mem_replicate h]
    trivial
theorem good_ks {ks : List Int} (hk : KsOk ks) : GoodKinds ks := ⟨hk.1, by have := hk.2.1; omega, fun n hn => by rcases hk.2.2 n hn with rfl | rfl <;> omega⟩
theorem many_in {ks : List Int} (hk : KsOk ks) : 0 ≤ manyF ks ∧ manyF ks ≤ 100 := by
  have p := pls_of hk.2.2 hk.1
  have h1 := p.n2
  have h2 := p.n3
  have h3 := hk.2.1
  omega
theorem facts_of {S : List Int → Nat → Int → Prop} {ks : List Int} {c : Nat} (hs : ks.length < 5 → c < 3 → S ks c (dueF ks c)) (hk : KsOk ks) (hc1 : 1 ≤ c) (hc : c ≤ 4) : ∃ plain res, Facts S ks c plain res := by
  obtain ⟨plain, res, e1, e2, e3, e4, e5, s', e6, e7, e8⟩ := undo_best hk hc1 hc
  have p := pls_of hk.2.2 hk.1
  have hp3 := p.n3
  have hk2 := hk.2.1
  have hk1 := hk.1
  have hnice : ∀ cm ∈ res, cmNice cm := fun cm h => (cmB_m (e4 cm h)).2.1
  refine ⟨plain, res, good_ks hk, hc1, by omega, (many_in hk).1, (many_in hk).2, least_ks hk hc1 hc, ⟨⟨hk.1, by omega, p.n1, by omega, fun x hx => ?_, hc1, by omega⟩, by omega, e1, e3⟩, ?_, by omega, fun cm h => ⟨(cmB_m (e4 cm h)).1, hnice cm h⟩, ⟨by rw [List.length_map]; omega, fun d hd => ?_⟩, ?_, fun at_ x y h1 h2 h3 h4 h5 h6 v hv => ?_, hs⟩
  · obtain ⟨i, hi⟩ := List.getElem?_of_mem hx
    have hil := (List.getElem?_eq_some_iff.mp hi).1
    have := p.b i hil
    unfold gI at this
    rw [hi] at this
    dsimp only [Option.getD_some] at this
    omega
  · cases res with
    | nil =>
      cases e6
      have : (ks.length : Int) = 0 := e7
      omega
    | cons a b => simp
  · obtain ⟨cm, hcm, rfl⟩ := List.mem_map.mp hd
    exact (cmB_m (e4 cm hcm)).2.2
  · have : lWalk ks c (.ls res) true = lRes (some s') := by
      show (if (4000 : Int) < res.length then (false, 0, 0) else lRes (lGo ks c true (l0 ks) res)) = _
      rw [if_neg (by omega), e6]
    rw [this]
    exact ⟨decide_eq_true e7, e8⟩
  · obtain ⟨a1, a2⟩ := near_ok (c := c) hk2 e5 hnice at_ x y v hv
    exact agree_all hk hc1 hc a1 a2
theorem pfacts_of {ks : List Int} {c : Nat} (hk : KsOk ks) (hc1 : 1 ≤ c) (hc : c ≤ 4) : ∃ pl cnt, PFacts ks c pl cnt := by
  have hk1 := hk.1
  have hk2 := hk.2.1
  obtain ⟨pl, e1, e2, e3, e4⟩ := sch_some (n := ks.length) (c := c) hk1 hk2 hc1 hc
  have ko := ksOk_ones hk1 hk2
  have hol : (onesL ks.length).length = ks.length := by unfold onesL; rw [List.length_replicate]
  obtain ⟨b1, b2, b3⟩ := sch_at hk1 hk2 hc1 hc
  have lo := least_ks ko hc1 hc
  have hd1 : dueF (onesL ks.length) c = alikeC ks.length c := by
    unfold dueF
    rw [many_ones hk1 hk2]
  -- words
  have nice : ∀ cm ∈ pl, cmNice cm := by
    have hw : ∀ (cs : List Cm) (h : Int) (fr : Bool) (l : Int) (kp : Int → Option Int) (r R : Int), okP c h fr l kp r cs = some R → ∀ cm ∈ cs, cmNice cm := by
      intro cs
      induction cs with
      | nil => intro _ _ _ _ _ _ _ cm hcm; cases hcm
      | cons a cs ih =>
        intro h fr l kp r R ho cm hcm
        have tail : ∀ h fr l kp r, okP c h fr l kp r cs = some R → cmNice a → cmNice cm := fun h fr l kp r ho ha => by
          rcases List.mem_cons.mp hcm with z | z
          · subst z; exact ha
          · exact ih _ _ _ _ _ _ ho cm z
        cases a with
        | turn =>
          have eo : okP c h fr l kp r (.turn :: cs) = if fr = true ∧ h = l - 1 ∧ 1 ≤ l then okP c h false (l - 1) kp r cs else none := rfl
          rw [eo] at ho
          by_cases z : fr = true ∧ h = l - 1 ∧ 1 ≤ l
          · rw [if_pos z] at ho
            exact tail _ _ _ _ _ ho trivial
          · rw [if_neg z] at ho; cases ho
        | mv w k =>
          have eo : okP c h fr l kp r (.mv w k :: cs) = (if w = "keep" then (if fr = true ∧ 0 ≤ k ∧ k < c then okP c h fr l (fun i => if i = k then some h else kp i) r cs else none)
            else if w = "take" then (match kp k with
              | some x => okP c x true l kp r cs
              | none => none)
            else if w = "run" then (if fr = true ∧ 1 ≤ k ∧ h + k ≤ l - 1 then okP c (h + k) fr l kp (r + k) cs else none)
            else none) := rfl
          rw [eo] at ho
          have hn : w = "keep" ∨ w = "take" ∨ w = "run" → cmNice (.mv w k) := fun h => by
            show PyData.strOk w = true
            rcases h with rfl | rfl | rfl <;> decide +kernel
          by_cases e1 : w = "keep"
          · rw [if_pos e1] at ho
            by_cases z : fr = true ∧ 0 ≤ k ∧ k < c
            · rw [if_pos z] at ho
              exact tail _ _ _ _ _ ho (hn (.inl e1))
            · rw [if_neg z] at ho; cases ho
          · rw [if_neg e1] at ho
            by_cases e2 : w = "take"
            · rw [if_pos e2] at ho
              cases q : kp k with
              | none => rw [q] at ho; cases ho
              | some y =>
                rw [q] at ho
                exact tail _ _ _ _ _ ho (hn (.inr (.inl e2)))
            · rw [if_neg e2] at ho
              by_cases e3 : w = "run"
              · rw [if_pos e3] at ho
                by_cases z : fr = true ∧ 1 ≤ k ∧ h + k ≤ l - 1
                · rw [if_pos z] at ho
                  exact tail _ _ _ _ _ ho (hn (.inr (.inr e3)))
                · rw [if_neg z] at ho; cases ho
              · rw [if_neg e3] at ho; cases ho
        | bl _ _ => cases ho
        | non => cases ho
        | ls _ => cases ho
    exact hw pl _ _ _ _ _ _ e3
  have hvok : valOk (.ls pl) := by show pl.length ≤ 90000; omega
  have hvn : valNice (.ls pl) := ⟨hvok, nice⟩
  have AK := agree_all hk hc1 hc hvok hvn
  have AO := agree_all ko hc1 hc hvok hvn
  have AOplu := AO.plu
  have AOplk := AO.plk
  rw [e4] at AOplu AOplk
  -- over ks
  have hw : ∃ cnt, lWalk ks c (.ls pl) false = (true, cnt, alikeC ks.length c) := by
    have e5 : lWalk (onesL ks.length) c (.ls pl) false = lRes (lGo (onesL ks.length) c false (l0 (onesL ks.length)) pl) := by
      show (if (4000 : Int) < pl.length then (false, 0, 0) else lRes (lGo (onesL ks.length) c false (l0 (onesL ks.length)) pl)) = _
      rw [if_neg (by omega)]
    have e6 : lWalk ks c (.ls pl) false = lRes (lGo ks c false (l0 ks) pl) := by
      show (if (4000 : Int) < pl.length then (false, 0, 0) else lRes (lGo ks c false (l0 ks) pl)) = _
      rw [if_neg (by omega)]
    rw [e5] at e4
    cases q : lGo (onesL ks.length) c false (l0 (onesL ks.length)) pl with
    | none => rw [q] at e4; cases e4
    | some s' =>
      rw [q] at e4
      obtain ⟨t', t1, t2, t3⟩ := go_ones (ks := ks) (s := l0 (onesL ks.length)) (t := l0 ks) rfl (by show ((onesL ks.length).length : Int) = ks.length; rw [hol]) rfl rfl s' q
      have z1 : decide (s'.left = 0) = true := congrArg Prod.fst e4
      have z2 : s'.runs = alikeC ks.length c := congrArg (fun x : LR => x.2.2) e4
      refine ⟨t'.count, ?_⟩
      rw [e6, t1]
      show (decide (t'.left = 0), t'.count, t'.runs) = _
      rw [t2, t3, z1, z2]
  obtain ⟨cnt, hw⟩ := hw
  have hw1 : (lWalk ks c (.ls pl) false).1 = true := by rw [hw]
  have hw2 : (lWalk ks c (.ls pl) false).2.1 = cnt := by rw [hw]
  refine ⟨pl, cnt, good_ks hk, hc1, by omega, (many_in hk).1, (many_in hk).2, by rw [lo, hd1], b2, least_ks hk hc1 hc, e1, by omega, nice, hw, ?_, AK.plu hw1, ?_, AOplu rfl, AOplk rfl⟩
  · have := low_val hk hc1 hc hw1
    rw [hw2] at this
    exact this
  · rw [AK.plk hw1, hw2]
/-- the plain law, but for the search -/
theorem plain_of {S : List Int → Nat → Int → Prop} (hs : ∀ (ks : List Int) (c : Nat), KsOk ks → ks.length < 5 → 1 ≤ c → c < 3 → S ks c (dueF ks c)) : Plain S := fun ks c hk h1 h2 =>
  ⟨facts_of (fun h3 h4 => hs ks c hk h3 h1 h4) hk h1 h2, pfacts_of hk h1 h2⟩
end K84
/-! The mirror of the search. -/
namespace K84
open PySem PySem.Spec PyProof.Rows L2 KD NK
abbrev BF := K3 → Option Int
def fPut (m : BF) (k : K3) (v : Int) : BF := fun x => if x = k then some v else m x
abbrev Mv := Int × List Int × Int × Int
def insI (x : Int) : List Int → List Int
  | [] => [x]
  | y :: r => if x ≤ y then x :: y :: r else y :: insI x r
def sorI : List Int → List Int
  | [] => []
  | x :: r => insI x (sorI r)
theorem insI_perm (x : Int) : ∀ l : List Int, (insI x l).Perm (x :: l)
  | [] => .refl _
  | y :: r => by
    unfold insI
    split
    · exact .refl _
    · exact ((insI_perm x r).cons y).trans (.swap x y r)
theorem sorI_perm : ∀ l : List Int, (sorI l).Perm l
  | [] => .refl _
  | x :: r => (insI_perm x _).trans ((sorI_perm r).cons x)
theorem insI_up (x : Int) : ∀ {l : List Int}, l.Pairwise (· ≤ ·) → (insI x l).Pairwise (· ≤ ·)
  | [], _ => List.pairwise_singleton _ _
  | y :: r, h => by
    obtain ⟨h1, h2⟩ := List.pairwise_cons.mp h
    unfold insI
    split
    · rename_i hxy
      refine List.pairwise_cons.mpr ⟨fun z hz => ?_, h⟩
      rcases List.mem_cons.mp hz with q | q
      · subst q; exact hxy
      · exact Int.le_trans hxy (h1 z q)
    · rename_i hxy
      refine List.pairwise_cons.mpr ⟨fun z hz => ?_, insI_up x h2⟩
      rcases List.mem_cons.mp ((insI_perm x r).mem_iff.mp hz) with q | q
      · subst q; omega
      · exact h1 z q
theorem sorI_up : ∀ l : List Int, (sorI l).Pairwise (· ≤ ·)
  | [] => .nil
  | x :: r => insI_up x (sorI_up r)
theorem sorI_eq {l l2 : List Int} (p : l2.Perm l) (u : l2.Pairwise (· ≤ ·)) : l2 = sorI l :=
  List.Perm.eq_of_pairwise (fun a b _ _ h1 h2 => Int.le_antisymm h1 h2) u (sorI_up l) (p.trans (sorI_perm l).symm)
def stOf (m : Mv) : K3 := (if m.2.2.1 < m.1 then m.2.2.1 else m.1, sorI (m.2.1.map fun s => if s ≤ m.2.2.1 then s else -1), m.2.2.1)
def movesF (ks : List Int) (c : Nat) (k : K3) : List Mv :=
  ((List.range c).map fun (slot : Nat) => (k.1, cutA k.2.1 none (some (slot : Int)) ++ [k.1] ++ cutA k.2.1 (some ((slot : Int) + 1)) none, k.2.2, 0)) ++ ((k.2.1.filter fun o => decide (0 ≤ o)).map fun o => (o, k.2.1, k.2.2, 0)) ++
  (if k.1 < k.2.2 then [(k.1 + 1, k.2.1, k.2.2, kAt ks k.1)] else []) ++
  (if 0 < k.1 ∧ kAt ks (k.1 - 1) = 0 then [(k.1 - 1, k.2.1, k.2.2, 0)] else []) ++
  (if k.1 = k.2.2 - 1 ∨ (k.1 = k.2.2 ∧ kAt ks (k.2.2 - 1) = 0) then [(k.2.2 - 1, k.2.1, k.2.2 - 1, 0)] else [])
def putLv (ls : List (List K3)) (i : Nat) (k : K3) : List (List K3) := (ls ++ List.replicate (i + 1 - ls.length) []).modify i fun r => r ++ [k]
def mvStep (at_ : Nat) (s : BF × List (List K3)) (m : Mv) : BF × List (List K3) :=
  if m.1 ≤ m.2.2.1 ∧ (at_ : Int) + m.2.2.2 < (s.1 (stOf m)).getD 1000000000 then (fPut s.1 (stOf m) (at_ + m.2.2.2), putLv s.2 (at_ + m.2.2.2.toNat) (stOf m)) else s
def okK (n : Nat) (k : K3) : Bool := decide (0 ≤ k.1) && (decide (k.1 ≤ n) && (decide (0 ≤ k.2.2) && (decide (k.2.2 ≤ n) && decide (k.2.1.length ≤ 2))))
def seaGo (ks : List Int) (c : Nat) : Nat → BF × List (List K3) → Nat → Nat → Option Int
  | 0, _, _, _ => none
  | f + 1, (best, lv), at_, k => match lv[at_]? with
    | none => none
    | some row => match row[k]? with
      | none => seaGo ks c f (best, lv) (at_ + 1) 0
      | some key => match okK ks.length key with
        | false => none
        | true => match best key with
          | none => none
          | some b => if b < at_ then seaGo ks c f (best, lv) at_ (k + 1) else if key.2.2 = 0 then some at_ else
            seaGo ks c f ((movesF ks c key).foldl (mvStep at_) (best, lv)) at_ (k + 1)
def k0 (ks : List Int) (c : Nat) : K3 := (0, List.replicate c (-1), (ks.length : Int))
def seaF (ks : List Int) (c : Nat) : Option Int := seaGo ks c 400 (fPut (fun _ => none) (k0 ks c) 0, [[k0 ks c]]) 0 0
end K84
/-! The search, coded in whole numbers, for the kernel to run. -/
namespace K84
open PySem PySem.Spec PyProof.Rows L2 KD NK
def arr (w b i : Nat) : Nat := Nat.mod (Nat.shiftRight b (Nat.mul w i)) (Nat.pow 2 w)
def aput (w b i v : Nat) : Nat := Nat.xor b (Nat.shiftLeft (Nat.xor (arr w b i) v) (Nat.mul w i))
theorem arr_bit (w b i t : Nat) : (arr w b i).testBit t = (decide (t < w) && b.testBit (w * i + t)) := by
  show ((b >>> (w * i)) % 2 ^ w).testBit t = _
  rw [Nat.testBit_mod_two_pow, Nat.testBit_shiftRight]
theorem arr_lt (w b i : Nat) : arr w b i < 2 ^ w := Nat.mod_lt _ (Nat.two_pow_pos w)
theorem aput_bit (w b i v t : Nat) : (aput w b i v).testBit t = (b.testBit t ^^ (decide (w * i ≤ t) && ((arr w b i).testBit (t - w * i) ^^ v.testBit (t - w * i)))) := by
  show (b ^^^ ((arr w b i ^^^ v) <<< (w * i))).testBit t = _
  rw [Nat.testBit_xor, Nat.testBit_shiftLeft, Nat.testBit_xor]
theorem arr_put_same {w b i v : Nat} (hv : v < 2 ^ w) : arr w (aput w b i v) i = v := by
  refine Nat.eq_of_testBit_eq fun t => ?_
  rw [arr_bit, aput_bit, arr_bit]
  by_cases h : t < w
  · rw [decide_eq_true h, decide_eq_true (show w * i ≤ w * i + t by omega), show w * i + t - w * i = t by omega, decide_eq_true h]
    simp
  · have e : v.testBit t = false := Nat.testBit_lt_two_pow (Nat.lt_of_lt_of_le hv (Nat.pow_le_pow_right (by decide) (by omega)))
    rw [decide_eq_false h, e]
    exact Bool.false_and _
theorem arr_put_ne {w b i j v : Nat} (hv : v < 2 ^ w) (h : i ≠ j) : arr w (aput w b i v) j = arr w b j := by
  refine Nat.eq_of_testBit_eq fun t => ?_
  rw [arr_bit, aput_bit, arr_bit w b i, arr_bit w b j]
  by_cases ht : t < w
  · rw [decide_eq_true ht, Bool.true_and, Bool.true_and]
    rcases Nat.lt_or_gt_of_ne h with q | q
    · have e : w * (i + 1) ≤ w * j := Nat.mul_le_mul_left w q
      rw [Nat.mul_add] at e
      have h1 : ¬ (w * j + t - w * i < w) := by omega
      rw [decide_eq_false h1, Nat.testBit_lt_two_pow (i := w * j + t - w * i) (x := v) (Nat.lt_of_lt_of_le hv (Nat.pow_le_pow_right (by decide) (by omega)))]
      simp
    · have e : w * (j + 1) ≤ w * i := Nat.mul_le_mul_left w q
      rw [Nat.mul_add] at e
      rw [decide_eq_false (show ¬ (w * i ≤ w * j + t) by omega)]
      simp
  · rw [decide_eq_false ht, Bool.false_and, Bool.false_and]
/-! ### keys -/
def eqI (a b : Int) : Bool := match a, b with
  | .ofNat m, .ofNat n => Nat.beq m n
  | .negSucc m, .negSucc n => Nat.beq m n
  | _, _ => false
def eqL : List Int → List Int → Bool
  | [], [] => true
  | a :: r, b :: s => match eqI a b with
    | true => eqL r s
    | false => false
  | _, _ => false
def eqK (a b : K3) : Bool := match eqI a.2.2 b.2.2 with
  | true => (match eqI a.1 b.1 with
    | true => eqL a.2.1 b.2.1
    | false => false)
  | false => false
theorem eqI_of : ∀ {a b : Int}, eqI a b = true → a = b
  | .ofNat m, .ofNat n, h => by
    have h : Nat.beq m n = true := h
    rw [Nat.beq_eq] at h
    rw [h]
  | .negSucc m, .negSucc n, h => by
    have h : Nat.beq m n = true := h
    rw [Nat.beq_eq] at h
    rw [h]
  | .ofNat m, .negSucc n, h => by cases h
  | .negSucc m, .ofNat n, h => by cases h
theorem eqL_of : ∀ {a b : List Int}, eqL a b = true → a = b
  | [], [], _ => rfl
  | [], _ :: _, h => by cases h
  | _ :: _, [], h => by cases h
  | a :: r, b :: s, h => by
    have e : eqL (a :: r) (b :: s) = match eqI a b with | true => eqL r s | false => false := rfl
    rw [e] at h
    cases q : eqI a b with
    | true =>
      rw [q] at h
      rw [eqI_of q, eqL_of h]
    | false => rw [q] at h; cases h
theorem eqK_of {a b : K3} (h : eqK a b = true) : a = b := by
  obtain ⟨a1, a2, a3⟩ := a
  obtain ⟨b1, b2, b3⟩ := b
  have e : eqK (a1, a2, a3) (b1, b2, b3) = match eqI a3 b3 with | true => (match eqI a1 b1 with | true => eqL a2 b2 | false => false) | false => false := rfl
  rw [e] at h
  cases q : eqI a3 b3 with
  | false => rw [q] at h; cases h
  | true =>
    rw [q] at h
    dsimp only at h
    cases q2 : eqI a1 b1 with
    | false => rw [q2] at h; cases h
    | true =>
      rw [q2] at h
      rw [eqI_of q, eqI_of q2, eqL_of h]
def encS (s : Int) : Nat := match s with
  | .ofNat m => Nat.succ m
  | .negSucc _ => 0
def natI (s : Int) : Nat := match s with
  | .ofNat m => m
  | .negSucc _ => 0
def encL (l : List Int) : Nat := match l with
  | [] => 0
  | a :: r => Nat.add (encS a) (match r with
    | [] => 0
    | b :: _ => Nat.mul 8 (encS b))
def encK (k : K3) : Nat := match k with
  | (h, ss, l) => Nat.add (natI h) (Nat.mul 8 (Nat.add (natI l) (Nat.mul 8 (encL ss))))
def decS (n : Nat) : Int := match n with
  | 0 => -1
  | m + 1 => .ofNat m
def decK (c n : Nat) : K3 := (.ofNat (Nat.mod n 8), match c with
    | 1 => [decS (Nat.mod (Nat.div n 64) 8)]
    | _ => [decS (Nat.mod (Nat.div n 64) 8), decS (Nat.mod (Nat.div n 512) 8)], .ofNat (Nat.mod (Nat.div n 8) 8))
/-- the key is a coded one -/
def okE (c : Nat) (k : K3) : Bool := match Nat.blt (encK k) 4096 with
  | true => eqK (decK c (encK k)) k
  | false => false
theorem okE_of {c : Nat} {k : K3} (h : okE c k = true) : encK k < 4096 ∧ decK c (encK k) = k := by
  unfold okE at h
  cases q : Nat.blt (encK k) 4096 with
  | false => rw [q] at h; cases h
  | true =>
    rw [q] at h
    exact ⟨Nat.le_of_ble_eq_true q, eqK_of h⟩
def bval (n : Nat) : Option Int := match n with
  | 0 => none
  | m + 1 => some (.ofNat m)
def bget (c b : Nat) (k : K3) : Option Int := match okE c k with
  | true => bval (arr 4 b (encK k))
  | false => none
theorem bget_put {c b v : Nat} {k : K3} (hk : okE c k = true) (hv : v + 1 < 16) : (fun x => bget c (aput 4 b (encK k) (v + 1)) x) = fPut (fun x => bget c b x) k (v : Int) := by
  funext x
  show bget c (aput 4 b (encK k) (v + 1)) x = (if x = k then some (v : Int) else bget c b x)
  by_cases h : x = k
  · subst h
    rw [if_pos rfl]
    unfold bget
    rw [hk]
    dsimp only
    rw [arr_put_same (by simpa using hv)]
    rfl
  · rw [if_neg h]
    unfold bget
    cases q : okE c x with
    | false => rfl
    | true =>
      dsimp only
      have ne : encK k ≠ encK x := fun e => h (by rw [← (okE_of q).2, ← (okE_of hk).2, e])
      rw [arr_put_ne (by simpa using hv) ne]
def rowL (c r n : Nat) : List K3 := (List.range n).map fun i => decK c (arr 12 r i)
theorem rowL_put {c r n : Nat} {k : K3} (hk : okE c k = true) : rowL c (aput 12 r n (encK k)) (n + 1) = rowL c r n ++ [k] := by
  obtain ⟨h1, h2⟩ := okE_of hk
  unfold rowL
  rw [List.range_succ, List.map_append]
  congr 1
  · refine List.map_congr_left fun i hi => ?_
    have := List.mem_range.mp hi
    rw [arr_put_ne (by simpa using h1) (by omega)]
  · rw [List.map_cons, List.map_nil, arr_put_same (by simpa using h1), h2]
theorem rowL_len (c r n : Nat) : (rowL c r n).length = n := by
  unfold rowL
  rw [List.length_map, List.length_range]
/-! ### the coded search -/
structure GS where
  ok : Bool
  b : Nat
  r1 : Nat
  n1 : Nat
  r2 : Nat
  n2 : Nat
/-- is what is told at a key above v (or nothing told) -/
def above (o : Option Int) (v : Nat) : Bool := match o with
  | none => true
  | some (.ofNat m) => Nat.blt v m
  | some (.negSucc _) => false
def gPush (c at_ : Nat) (s : GS) (k : K3) (cost : Int) : GS := match s with
  | ⟨ok, b, r1, n1, r2, n2⟩ => match cost with
    | .ofNat 0 => (match above (bget c b k) at_ with
      | true => ⟨ok && (okE c k && Nat.blt at_ 14), aput 4 b (encK k) (at_ + 1), aput 12 r1 n1 (encK k), n1 + 1, r2, n2⟩
      | false => ⟨ok, b, r1, n1, r2, n2⟩)
    | .ofNat 1 => (match above (bget c b k) (at_ + 1) with
      | true => ⟨ok && (okE c k && Nat.blt at_ 14), aput 4 b (encK k) (at_ + 2), r1, n1, aput 12 r2 n2 (encK k), n2 + 1⟩
      | false => ⟨ok, b, r1, n1, r2, n2⟩)
    | _ => ⟨false, b, r1, n1, r2, n2⟩
def gStep (c at_ : Nat) (s : GS) (m : Mv) : GS := if m.1 ≤ m.2.2.1 then gPush c at_ s (stOf m) m.2.2.2 else s
def gGo (ks : List Int) (c : Nat) : Nat → GS → Nat → Nat → Option Int
  | 0, _, _, _ => none
  | f + 1, ⟨ok, b, r1, n1, r2, n2⟩, at_, k => match ok with
    | false => none
    | true => match Nat.blt k n1 with
      | false => (match n2 with
        | 0 => none
        | _ => gGo ks c f ⟨true, b, r2, n2, 0, 0⟩ (at_ + 1) 0)
      | true => match okK ks.length (decK c (arr 12 r1 k)) with
        | false => none
        | true => match bget c b (decK c (arr 12 r1 k)) with
          | some (.ofNat v) => (match Nat.blt v at_ with
            | true => gGo ks c f ⟨true, b, r1, n1, r2, n2⟩ at_ (k + 1)
            | false => if (decK c (arr 12 r1 k)).2.2 = 0 then some at_ else
              gGo ks c f ((movesF ks c (decK c (arr 12 r1 k))).foldl (gStep c at_) ⟨true, b, r1, n1, r2, n2⟩) at_ (k + 1))
          | _ => none
def g0 (ks : List Int) (c : Nat) : GS := ⟨okE c (k0 ks c), aput 4 0 (encK (k0 ks c)) 1, aput 12 0 0 (encK (k0 ks c)), 1, 0, 0⟩
def gF (ks : List Int) (c : Nat) : Option Int := gGo ks c 400 (g0 ks c) 0 0
def bits : Nat → List (List Int)
  | 0 => [[]]
  | n + 1 => (bits n).map (0 :: ·) ++ (bits n).map (1 :: ·)
def optIs (o : Option Int) (d : Int) : Bool := match o with
  | none => false
  | some v => eqI v d
def seaB (n c : Nat) : Bool := (bits n).all fun ks => optIs (gF ks c) (dueF ks c)
/-! ### the coded search is the search -/
structure Br (c at_ : Nat) (g : GS) (s : BF × List (List K3)) : Prop where
  b : s.1 = fun x => bget c g.b x
  n : s.2.length = at_ + 1 + (if g.n2 = 0 then 0 else 1)
  r1 : s.2[at_]? = some (rowL c g.r1 g.n1)
  r2 : g.n2 ≠ 0 → s.2[at_ + 1]? = some (rowL c g.r2 g.n2)
theorem above_iff {o : Option Int} {v : Nat} (hv : v < 1000000000) : above o v = true ↔ (v : Int) < o.getD 1000000000 := by
  cases o with
  | none =>
    show true = true ↔ (v : Int) < 1000000000
    exact ⟨fun _ => by omega, fun _ => rfl⟩
  | some x =>
    cases x with
    | ofNat m =>
      show Nat.blt v m = true ↔ (v : Int) < (m : Int)
      rw [Nat.blt_eq]
      omega
    | negSucc m =>
      show false = true ↔ (v : Int) < Int.negSucc m
      exact ⟨fun h => (by cases h), fun h => by omega⟩
theorem above_no {o : Option Int} {v : Nat} (h : above o v = false) : ¬ (v : Int) < o.getD 1000000000 := by
  cases o with
  | none => cases h
  | some x =>
    cases x with
    | ofNat m =>
      have h : Nat.blt v m = false := h
      show ¬ (v : Int) < (m : Int)
      intro z
      have : Nat.blt v m = true := by rw [Nat.blt_eq]; omega
      rw [h] at this
      cases this
    | negSucc m =>
      show ¬ (v : Int) < Int.negSucc m
      omega
theorem mod_eq {α : Type} (l : List α) (i : Nat) (f : α → α) : (l.modify i f)[i]? = l[i]?.map f := by
  rw [List.getElem?_modify]
  simp
theorem mod_ne {α : Type} (l : List α) {i j : Nat} (f : α → α) (h : i ≠ j) : (l.modify i f)[j]? = l[j]? := by
  rw [List.getElem?_modify]
  simp [h]
theorem gPush0 {c at_ b r1 n1 r2 n2 : Nat} {ok : Bool} {k : K3} : gPush c at_ ⟨ok, b, r1, n1, r2, n2⟩ k (.ofNat 0) = (match above (bget c b k) at_ with
      | true => ⟨ok && (okE c k && Nat.blt at_ 14), aput 4 b (encK k) (at_ + 1), aput 12 r1 n1 (encK k), n1 + 1, r2, n2⟩
      | false => ⟨ok, b, r1, n1, r2, n2⟩) := rfl
theorem gPush1 {c at_ b r1 n1 r2 n2 : Nat} {ok : Bool} {k : K3} : gPush c at_ ⟨ok, b, r1, n1, r2, n2⟩ k (.ofNat 1) = (match above (bget c b k) (at_ + 1) with
      | true => ⟨ok && (okE c k && Nat.blt at_ 14), aput 4 b (encK k) (at_ + 2), r1, n1, aput 12 r2 n2 (encK k), n2 + 1⟩
      | false => ⟨ok, b, r1, n1, r2, n2⟩) := rfl
theorem gStep_br {c at_ : Nat} {g : GS} {s : BF × List (List K3)} {m : Mv} (hb : Br c at_ g s) (hok : (gStep c at_ g m).ok = true) : g.ok = true ∧ Br c at_ (gStep c at_ g m) (mvStep at_ s m) := by
  obtain ⟨ok, b, r1, n1, r2, n2⟩ := g
  obtain ⟨best, lv⟩ := s
  obtain ⟨h1, h2, h3, h4⟩ := hb
  dsimp only at h1 h2 h3 h4
  unfold gStep at hok ⊢
  unfold mvStep
  by_cases hle : m.1 ≤ m.2.2.1
  · rw [if_pos hle] at hok ⊢
    have hlt := (List.getElem?_eq_some_iff.mp h3).1
    cases hc : m.2.2.2 with
    | negSucc x => rw [hc] at hok; cases hok
    | ofNat x =>
      rw [hc] at hok
      match x, hok with
      | 0, hok =>
        rw [gPush0] at hok ⊢
        cases ha : above (bget c b (stOf m)) at_ with
        | false =>
          rw [ha] at hok
          dsimp only at hok ⊢
          have := above_no ha
          rw [if_neg (by
            rintro ⟨_, z⟩
            rw [h1] at z
            exact this (by simpa using z))]
          exact ⟨hok, h1, h2, h3, h4⟩
        | true =>
          rw [ha] at hok
          dsimp only at hok ⊢
          rw [Bool.and_eq_true, Bool.and_eq_true, Nat.blt_eq] at hok
          obtain ⟨o1, o2, o3⟩ := hok
          have := (above_iff (o := bget c b (stOf m)) (v := at_) (by omega)).mp ha
          rw [if_pos ⟨hle, by rw [h1]; simpa using this⟩]
          refine ⟨o1, ?_, ?_, ?_, fun z => ?_⟩
          · dsimp only
            rw [bget_put o2 (by omega), ← h1]
            simp
          · dsimp only
            unfold putLv
            rw [List.length_modify, List.length_append, List.length_replicate]
            simp only [Int.ofNat_eq_natCast, Int.toNat_natCast]
            omega
          · dsimp only
            unfold putLv
            simp only [Int.ofNat_eq_natCast, Int.toNat_natCast, Nat.add_zero]
            rw [mod_eq, List.getElem?_append_left hlt, h3, rowL_put o2]
            rfl
          · dsimp only at z ⊢
            unfold putLv
            simp only [Int.ofNat_eq_natCast, Int.toNat_natCast, Nat.add_zero]
            have h5 := h4 z
            rw [mod_ne _ _ (by omega), List.getElem?_append_left (List.getElem?_eq_some_iff.mp h5).1, h5]
      | 1, hok =>
        rw [gPush1] at hok ⊢
        cases ha : above (bget c b (stOf m)) (at_ + 1) with
        | false =>
          rw [ha] at hok
          dsimp only at hok ⊢
          have := above_no ha
          rw [if_neg (by
            rintro ⟨_, z⟩
            rw [h1] at z
            exact this (by simpa using z))]
          exact ⟨hok, h1, h2, h3, h4⟩
        | true =>
          rw [ha] at hok
          dsimp only at hok ⊢
          rw [Bool.and_eq_true, Bool.and_eq_true, Nat.blt_eq] at hok
          obtain ⟨o1, o2, o3⟩ := hok
          have := (above_iff (o := bget c b (stOf m)) (v := at_ + 1) (by omega)).mp ha
          rw [if_pos ⟨hle, by rw [h1]; simpa using this⟩]
          have et : at_ + (Int.ofNat 1).toNat = at_ + 1 := rfl
          refine ⟨o1, ?_, ?_, ?_, fun z => ?_⟩
          · dsimp only
            rw [bget_put (v := at_ + 1) o2 (by omega), ← h1]
            simp
          · dsimp only
            rw [et]
            unfold putLv
            rw [List.length_modify, List.length_append, List.length_replicate, if_neg (by omega)]
            by_cases q : n2 = 0
            · rw [if_pos q] at h2; omega
            · rw [if_neg q] at h2; omega
          · dsimp only
            rw [et]
            unfold putLv
            rw [mod_ne _ _ (by omega), List.getElem?_append_left hlt, h3]
          · dsimp only
            rw [et]
            unfold putLv
            rw [rowL_put o2, mod_eq]
            by_cases q : n2 = 0
            · rw [if_pos q] at h2
              subst q
              rw [List.getElem?_append_right (by omega), show at_ + 1 + 1 - lv.length = 1 by omega, show at_ + 1 - lv.length = 0 by omega]
              rfl
            · have h5 := h4 q
              rw [List.getElem?_append_left (List.getElem?_eq_some_iff.mp h5).1, h5]
              rfl
      | x + 2, hok => cases hok
  · rw [if_neg hle] at hok ⊢
    rw [if_neg (fun z => hle z.1)]
    exact ⟨hok, h1, h2, h3, h4⟩
theorem gFold_br {c at_ : Nat} : ∀ (ms : List Mv) {g : GS} {s : BF × List (List K3)}, Br c at_ g s → (ms.foldl (gStep c at_) g).ok = true → g.ok = true ∧ Br c at_ (ms.foldl (gStep c at_) g) (ms.foldl (mvStep at_) s)
  | [], g, s, hb, h => ⟨h, hb⟩
  | m :: ms, g, s, hb, h => by
    have all : ∀ (ms : List Mv) (g : GS), (ms.foldl (gStep c at_) g).ok = true → g.ok = true := fun ms => by
      induction ms with
      | nil => exact fun g h => h
      | cons a ms ih =>
        intro g h
        have h := ih _ h
        unfold gStep at h
        split at h
        · obtain ⟨ok, b, r1, n1, r2, n2⟩ := g
          unfold gPush at h
          dsimp only at h
          split at h
          · split at h
            · exact (Bool.and_eq_true _ _ ▸ h).1
            · exact h
          · split at h
            · exact (Bool.and_eq_true _ _ ▸ h).1
            · exact h
          · cases h
        · exact h
    obtain ⟨h1, h2⟩ := gStep_br hb (all ms _ h)
    exact ⟨h1, (gFold_br ms h2 h).2⟩
theorem gGo_br {ks : List Int} {c : Nat} {r : Int} : ∀ (f : Nat) {g : GS} {s : BF × List (List K3)} {at_ k : Nat}, Br c at_ g s → gGo ks c f g at_ k = some r → seaGo ks c f s at_ k = some r
  | 0, _, _, _, _, _, h => by cases h
  | f + 1, ⟨ok, b, r1, n1, r2, n2⟩, (best, lv), at_, k, hb, h => by
    obtain ⟨h1, h2, h3, h4⟩ := id hb
    dsimp only at h1 h2 h3 h4
    unfold gGo at h
    unfold seaGo
    cases ok with
    | false => cases h
    | true =>
      dsimp only at h
      rw [h3]
      dsimp only
      cases hk : Nat.blt k n1 with
      | false =>
        rw [hk] at h
        dsimp only at h
        have hkn : ¬ k < n1 := fun z => by
          have : Nat.blt k n1 = true := by rw [Nat.blt_eq]; exact z
          rw [hk] at this
          cases this
        rw [List.getElem?_eq_none (by rw [rowL_len]; omega)]
        dsimp only
        cases n2 with
        | zero => cases h
        | succ n2 =>
          refine gGo_br f ⟨h1, ?_, h4 (by omega), fun z => absurd rfl z⟩ h
          dsimp only
          rw [if_neg (by omega)] at h2
          rw [if_pos rfl]
          omega
      | true =>
        rw [hk] at h
        dsimp only at h
        rw [Nat.blt_eq] at hk
        have hrow : (rowL c r1 n1)[k]? = some (decK c (arr 12 r1 k)) := by
          unfold rowL
          rw [List.getElem?_map, List.getElem?_range hk]
          rfl
        rw [hrow]
        dsimp only
        generalize decK c (arr 12 r1 k) = key at h ⊢
        cases ho : okK ks.length key with
        | false => rw [ho] at h; cases h
        | true =>
          rw [ho] at h
          dsimp only at h ⊢
          rw [h1]
          dsimp only
          cases hg : bget c b key with
          | none => rw [hg] at h; cases h
          | some v =>
            rw [hg] at h
            cases v with
            | negSucc v => cases h
            | ofNat v =>
              dsimp only at h ⊢
              cases hv : Nat.blt v at_ with
              | true =>
                rw [hv] at h
                rw [Nat.blt_eq] at hv
                rw [if_pos (show (Int.ofNat v) < (at_ : Int) by show (v : Int) < at_; omega)]
                rw [← h1]
                exact gGo_br f hb h
              | false =>
                rw [hv] at h
                dsimp only at h
                have hvn : ¬ v < at_ := fun z => by
                  have : Nat.blt v at_ = true := by rw [Nat.blt_eq]; exact z
                  rw [hv] at this
                  cases this
                rw [if_neg (show ¬ (Int.ofNat v) < (at_ : Int) by show ¬ (v : Int) < at_; omega)]
                by_cases hl : key.2.2 = 0
                · rw [if_pos hl] at h ⊢
                  exact h
                · rw [if_neg hl] at h ⊢
                  rw [← h1]
                  have hok : ∀ f g, gGo ks c f g at_ (k + 1) = some r → g.ok = true := fun f g hh => by
                    cases f with
                    | zero => cases hh
                    | succ f =>
                      obtain ⟨ok, b, r1, n1, r2, n2⟩ := g
                      unfold gGo at hh
                      cases ok with
                      | true => rfl
                      | false => cases hh
                  exact gGo_br f (gFold_br (movesF ks c key) hb (hok _ _ h)).2 h
theorem gF_sea {ks : List Int} {c : Nat} {r : Int} (h : gF ks c = some r) : seaF ks c = some r := by
  unfold gF at h
  unfold seaF
  have hok : okE c (k0 ks c) = true := by
    cases q : okE c (k0 ks c) with
    | true => rfl
    | false =>
      unfold g0 at h
      rw [q] at h
      cases h
  refine gGo_br 400 ⟨?_, rfl, ?_, fun z => absurd rfl z⟩ h
  · show fPut (fun _ => none) (k0 ks c) 0 = fun x => bget c (aput 4 0 (encK (k0 ks c)) (0 + 1)) x
    rw [bget_put hok (by decide)]
    congr 1
    funext x
    unfold bget
    have e : ∀ i, arr 4 0 i = 0 := fun i => Nat.eq_of_testBit_eq fun t => by rw [arr_bit]; simp
    cases okE c x with
    | false => rfl
    | true =>
      dsimp only
      rw [e]
      rfl
  · show some [k0 ks c] = some (rowL c (aput 12 0 0 (encK (k0 ks c))) (0 + 1))
    rw [rowL_put hok]
    rfl
theorem bits_mem : ∀ {ks : List Int}, (∀ x ∈ ks, x = 0 ∨ x = 1) → ks ∈ bits ks.length
  | [], _ => List.mem_singleton.mpr rfl
  | x :: ks, h => by
    have ih := bits_mem (ks := ks) fun y hy => h y (List.mem_cons_of_mem _ hy)
    show x :: ks ∈ (bits ks.length).map (0 :: ·) ++ (bits ks.length).map (1 :: ·)
    rcases h x (List.mem_cons_self ..) with rfl | rfl
    · exact List.mem_append.mpr (.inl (List.mem_map.mpr ⟨ks, ih, rfl⟩))
    · exact List.mem_append.mpr (.inr (List.mem_map.mpr ⟨ks, ih, rfl⟩))
theorem optIs_of {o : Option Int} {d : Int} (h : optIs o d = true) : o = some d := by
  cases o with
  | none => cases h
  | some v => rw [eqI_of h]
theorem sea_of {n c : Nat} (h : seaB n c = true) {ks : List Int} (hb : ∀ x ∈ ks, x = 0 ∨ x = 1) (hn : ks.length = n) : seaF ks c = some (dueF ks c) := by
  subst hn
  exact gF_sea (optIs_of (List.all_eq_true.mp h ks (bits_mem hb)))
end K84
/-! The search at its sixty inputs. -/
namespace K84
theorem seaB1 : (seaB 1 1 && (seaB 2 1 && (seaB 3 1))) = true := by decide +kernel
theorem seaB41 : seaB 4 1 = true := by decide +kernel
theorem seaB2 : (seaB 1 2 && (seaB 2 2)) = true := by decide +kernel
theorem sd_000 : optIs (gF [0, 0, 0] 2) (dueF [0, 0, 0] ((2 : Nat) : Int)) = true := by decide +kernel
theorem sd_001 : optIs (gF [0, 0, 1] 2) (dueF [0, 0, 1] ((2 : Nat) : Int)) = true := by decide +kernel
theorem sd_010 : optIs (gF [0, 1, 0] 2) (dueF [0, 1, 0] ((2 : Nat) : Int)) = true := by decide +kernel
theorem sd_011 : optIs (gF [0, 1, 1] 2) (dueF [0, 1, 1] ((2 : Nat) : Int)) = true := by decide +kernel
theorem sd_100 : optIs (gF [1, 0, 0] 2) (dueF [1, 0, 0] ((2 : Nat) : Int)) = true := by decide +kernel
theorem sd_101 : optIs (gF [1, 0, 1] 2) (dueF [1, 0, 1] ((2 : Nat) : Int)) = true := by decide +kernel
theorem sd_110 : optIs (gF [1, 1, 0] 2) (dueF [1, 1, 0] ((2 : Nat) : Int)) = true := by decide +kernel
theorem sd_111 : optIs (gF [1, 1, 1] 2) (dueF [1, 1, 1] ((2 : Nat) : Int)) = true := by decide +kernel
theorem seaB32 : seaB 3 2 = true := by
  have e : bits 3 = [[0, 0, 0], [0, 0, 1], [0, 1, 0], [0, 1, 1], [1, 0, 0], [1, 0, 1], [1, 1, 0], [1, 1, 1]] := by decide
  unfold seaB
  rw [e]
  simp only [List.all_cons, List.all_nil, sd_000, sd_001, sd_010, sd_011, sd_100, sd_101, sd_110, sd_111, Bool.and_true]
theorem sd_0000 : optIs (gF [0, 0, 0, 0] 2) (dueF [0, 0, 0, 0] ((2 : Nat) : Int)) = true := by decide +kernel
theorem sd_0001 : optIs (gF [0, 0, 0, 1] 2) (dueF [0, 0, 0, 1] ((2 : Nat) : Int)) = true := by decide +kernel
theorem sd_0010 : optIs (gF [0, 0, 1, 0] 2) (dueF [0, 0, 1, 0] ((2 : Nat) : Int)) = true := by decide +kernel
theorem sd_0011 : optIs (gF [0, 0, 1, 1] 2) (dueF [0, 0, 1, 1] ((2 : Nat) : Int)) = true := by decide +kernel
theorem sd_0100 : optIs (gF [0, 1, 0, 0] 2) (dueF [0, 1, 0, 0] ((2 : Nat) : Int)) = true := by decide +kernel
theorem sd_0101 : optIs (gF [0, 1, 0, 1] 2) (dueF [0, 1, 0, 1] ((2 : Nat) : Int)) = true := by decide +kernel
theorem sd_0110 : optIs (gF [0, 1, 1, 0] 2) (dueF [0, 1, 1, 0] ((2 : Nat) : Int)) = true := by decide +kernel
theorem sd_0111 : optIs (gF [0, 1, 1, 1] 2) (dueF [0, 1, 1, 1] ((2 : Nat) : Int)) = true := by decide +kernel
theorem sd_1000 : optIs (gF [1, 0, 0, 0] 2) (dueF [1, 0, 0, 0] ((2 : Nat) : Int)) = true := by decide +kernel
theorem sd_1001 : optIs (gF [1, 0, 0, 1] 2) (dueF [1, 0, 0, 1] ((2 : Nat) : Int)) = true := by decide +kernel
theorem sd_1010 : optIs (gF [1, 0, 1, 0] 2) (dueF [1, 0, 1, 0] ((2 : Nat) : Int)) = true := by decide +kernel
theorem sd_1011 : optIs (gF [1, 0, 1, 1] 2) (dueF [1, 0, 1, 1] ((2 : Nat) : Int)) = true := by decide +kernel
theorem sd_1100 : optIs (gF [1, 1, 0, 0] 2) (dueF [1, 1, 0, 0] ((2 : Nat) : Int)) = true := by decide +kernel
theorem sd_1101 : optIs (gF [1, 1, 0, 1] 2) (dueF [1, 1, 0, 1] ((2 : Nat) : Int)) = true := by decide +kernel
theorem sd_1110 : optIs (gF [1, 1, 1, 0] 2) (dueF [1, 1, 1, 0] ((2 : Nat) : Int)) = true := by decide +kernel
theorem sd_1111 : optIs (gF [1, 1, 1, 1] 2) (dueF [1, 1, 1, 1] ((2 : Nat) : Int)) = true := by decide +kernel
theorem seaB42 : seaB 4 2 = true := by
  have e : bits 4 = [[0, 0, 0, 0], [0, 0, 0, 1], [0, 0, 1, 0], [0, 0, 1, 1], [0, 1, 0, 0], [0, 1, 0, 1], [0, 1, 1, 0], [0, 1, 1, 1], [1, 0, 0, 0], [1, 0, 0, 1], [1, 0, 1, 0], [1, 0, 1, 1], [1, 1, 0, 0], [1, 1, 0, 1], [1, 1, 1, 0], [1, 1, 1, 1]] := by decide
  unfold seaB
  rw [e]
  simp only [List.all_cons, List.all_nil, sd_0000, sd_0001, sd_0010, sd_0011, sd_0100, sd_0101, sd_0110, sd_0111, sd_1000, sd_1001, sd_1010, sd_1011, sd_1100, sd_1101, sd_1110, sd_1111, Bool.and_true]
theorem sea_all {ks : List Int} {c : Nat} (hk : KsOk ks) (h5 : ks.length < 5) (h1 : 1 ≤ c) (h3 : c < 3) : seaF ks c = some (dueF ks c) := by
  obtain ⟨k1, _, k3⟩ := hk
  have a1 := seaB1
  have a2 := seaB2
  simp only [Bool.and_eq_true] at a1 a2
  have hl : ks.length = 1 ∨ ks.length = 2 ∨ ks.length = 3 ∨ ks.length = 4 := by omega
  have hc : c = 1 ∨ c = 2 := by omega
  rcases hc with rfl | rfl
  · rcases hl with h | h | h | h
    · exact sea_of a1.1 k3 h
    · exact sea_of a1.2.1 k3 h
    · exact sea_of a1.2.2 k3 h
    · exact sea_of seaB41 k3 h
  · rcases hl with h | h | h | h
    · exact sea_of a2.1 k3 h
    · exact sea_of a2.2 k3 h
    · exact sea_of seaB32 k3 h
    · exact sea_of seaB42 k3 h
end K84
/-! What the search holds: the dict, the levels. -/
namespace K84
open PySem PySem.Spec PyProof.Rows L2 KD NK ND
def k3D (k : K3) : PyData := .tuple [.int k.1, .tuple (k.2.1.map PyData.int), .int k.2.2]
theorem keyAt_of {H : Hp} {b : Addr} {k : K3} (h : Is H (.ref b) (k3D k)) : KeyAt H k b := by
  cases h with
  | @tup a xs _ ka kb =>
    obtain ⟨v1, v2, v3, rfl, k1, k2, k3⟩ := isAll3 kb
    cases k1
    cases k3
    cases k2 with
    | @tup b2 ys _ kc kd =>
      have e := ints_of kd
      subst e
      exact ⟨b2, ka, kc⟩
theorem keyAt_ex {H H2 : Hp} {b : Addr} {k : K3} (h : KeyAt H k b) (e : Ex H H2) : KeyAt H2 k b := by
  obtain ⟨b2, h1, h2⟩ := h
  exact ⟨b2, e _ _ h1, e _ _ h2⟩
/-- the dict at a holds the map m; its keys are data of I -/
def SD (P : Program) (w : World) (I H : Hp) (a : Addr) (m : BF) (n : Nat) : Prop := ∃ kvs : KVN, H a = some (NDo P w a kvs) ∧ (∀ k, nget kvs k = (m k).map V.int) ∧ (∀ p ∈ kvs, KeyAt I p.1 p.2.1) ∧ kvs.length ≤ n
theorem nget_cons (p : K3 × Addr × V) (kvs : KVN) (k : K3) : nget (p :: kvs) k = if p.1 = k then some p.2.2 else nget kvs k := by
  unfold nget
  rw [List.find?_cons]
  by_cases h : p.1 = k
  · rw [decide_eq_true h, if_pos h]
    rfl
  · rw [decide_eq_false h, if_neg h]
theorem nget_map (k k2 : K3) (v : V) : ∀ kvs : KVN, nget (kvs.map fun x => if x.1 = k then (x.1, x.2.1, v) else x) k2 = if k2 = k then (nget kvs k).map (fun _ => v) else nget kvs k2
  | [] => by
    show none = _
    split <;> rfl
  | p :: kvs => by
    have ih := nget_map k k2 v kvs
    rw [List.map_cons, nget_cons, nget_cons, nget_cons, ih]
    by_cases h1 : p.1 = k
    · rw [if_pos h1]
      dsimp only
      by_cases h2 : k2 = k
      · rw [if_pos (h1.trans h2.symm), if_pos h2, if_pos h1]
        rfl
      · rw [if_neg h2, if_neg (fun z => h2 (z.symm.trans h1)), if_neg h2, if_neg (fun z => h2 (z.symm.trans h1))]
    · rw [if_neg h1, if_neg h1]
      by_cases h2 : k2 = k
      · rw [if_pos h2, if_pos h2, if_neg (fun z => h1 (z.trans h2))]
      · rw [if_neg h2, if_neg h2]
theorem nget_app (k k2 : K3) (b : Addr) (v : V) : ∀ kvs : KVN, nget kvs k = none → nget (kvs ++ [(k, b, v)]) k2 = if k2 = k then some v else nget kvs k2
  | [], _ => by
    rw [List.nil_append, nget_cons]
    by_cases h : k2 = k
    · rw [if_pos h, if_pos h.symm]
    · rw [if_neg h, if_neg (fun z => h z.symm)]
  | p :: kvs, hn => by
    rw [nget_cons] at hn
    by_cases h1 : p.1 = k
    · rw [if_pos h1] at hn; cases hn
    · rw [if_neg h1] at hn
      rw [List.cons_append, nget_cons, nget_app k k2 b v kvs hn, nget_cons]
      by_cases h2 : k2 = k
      · rw [if_pos h2, if_neg (fun z => h1 (z.trans h2)), if_pos h2]
      · rw [if_neg h2, if_neg h2]
theorem nget_put (kvs : KVN) (k k2 : K3) (b : Addr) (v : V) : nget (nput kvs k b v) k2 = if k2 = k then some v else nget kvs k2 := by
  unfold nput
  cases q : nget kvs k with
  | none =>
    rw [if_neg (by simp)]
    exact nget_app k k2 b v kvs q
  | some u =>
    rw [if_pos (by rfl), nget_map, q]
    rfl
section
variable {P : Program} {w : World} {I H I2 H2 : Hp} {a b : Addr} {m : BF} {n : Nat} {k : K3} {v : Int}
theorem SD.go (x : SD P w I H a m n) (g : Go I H I2 H2) : SD P w I2 H2 a m n := by
  obtain ⟨kvs, h1, h2, h3, h4⟩ := x
  exact ⟨kvs, g.h _ _ h1, h2, fun p hp => keyAt_ex (h3 p hp) g.i, h4⟩
theorem sd_put {kvs : KVN} (h2 : ∀ k, nget kvs k = (m k).map V.int) (h3 : ∀ p ∈ kvs, KeyAt I p.1 p.2.1) (h4 : kvs.length ≤ n) (hk : KeyAt I k b) : SD P w I (upd H a (NDo P w a (nput kvs k b (.int v)))) a (fPut m k v) (n + 1) := by
  refine ⟨_, upd_same, fun k2 => ?_, fun p hp => ?_, Nat.le_trans (nput_len _ _ _ _) (by omega)⟩
  · rw [nget_put, h2]
    unfold fPut
    by_cases h : k2 = k
    · rw [if_pos h, if_pos h]; rfl
    · rw [if_neg h, if_neg h]
  · unfold nput at hp
    split at hp
    · obtain ⟨y, hy, e⟩ := List.mem_map.mp hp
      have := h3 y hy
      split at e
      · subst e; exact this
      · subst e; exact this
    · rcases List.mem_append.mp hp with z | z
      · exact h3 p z
      · rw [List.mem_singleton] at z
        subst z
        exact hk
theorem SD.other {p : Addr} {o : HO} (x : SD P w I H a m n) (h : a ≠ p) : SD P w I (upd H p o) a m n := by
  obtain ⟨kvs, h1, h2, h3, h4⟩ := x
  exact ⟨kvs, by rw [upd_ne h]; exact h1, h2, h3, h4⟩
end
end K84
namespace K84
open PySem PySem.Spec PyProof.Rows L2 KD NK ND
/-- the levels: a list of one's own of lists of one's own -/
structure Lv (H0 I H : Hp) (pl : Addr) (as : List Addr) (lv : List (List K3)) : Prop where
  o : Own I H pl (as.map V.ref)
  h0 : H0 pl = none
  n : as.length = lv.length
  nd : as.Nodup
  ne : ∀ x ∈ as, x ≠ pl
  row : ∀ (i : Nat) (x : Addr) (r : List K3), as[i]? = some x → lv[i]? = some r → H0 x = none ∧ ∃ xs, Own I H x xs ∧ IsAll I xs (r.map k3D)
section
variable {H0 I H I2 H2 : Hp} {pl : Addr} {as : List Addr} {lv : List (List K3)}
theorem Lv.go (x : Lv H0 I H pl as lv) (g : Go I H I2 H2) : Lv H0 I2 H2 pl as lv :=
  ⟨x.o.go g, x.h0, x.n, x.nd, x.ne, fun i a r h1 h2 => by
    obtain ⟨h3, xs, h4, h5⟩ := x.row i a r h1 h2
    exact ⟨h3, xs, h4.go g, h5.mono g.i⟩⟩
theorem Lv.other {p : Addr} {o : HO} (x : Lv H0 I H pl as lv) (h1 : p ≠ pl) (h2 : ∀ y ∈ as, y ≠ p) : Lv H0 I (upd H p o) pl as lv :=
  ⟨x.o.put (fun z => h1 z.symm), x.h0, x.n, x.nd, x.ne, fun i a r h3 h4 => by
    obtain ⟨h5, xs, h6, h7⟩ := x.row i a r h3 h4
    exact ⟨h5, xs, h6.put (h2 a (List.mem_of_getElem? h3)), h7⟩⟩
end
end K84
namespace K84
open PySem PySem.Spec PyProof.Rows L2 KD NK ND
section
variable {I0 H0 I H I2 H2 : Hp} {pl : Addr} {as : List Addr} {lv : List (List K3)} {K : PySem.W.Frag} {σ : L2.St} {D : Ends} {tz : TS} {te : TE}
theorem lv_grow {p : Addr} (x : Lv H0 I H pl as lv) (hp : H p = none) (h0 : H0 p = none) (hi : I p = none) : Lv H0 I (upd (upd H p (.lst [])) pl (.lst ((as ++ [p]).map V.ref))) pl (as ++ [p]) (lv ++ [[]]) := by
  have npl : pl ≠ p := ne_of_none x.o.h hp
  have nas : ∀ y ∈ as, y ≠ p := fun y hy => by
    obtain ⟨i, hi⟩ := List.getElem?_of_mem hy
    have hl : i < lv.length := by
      rw [← x.n]
      exact (List.getElem?_eq_some_iff.mp hi).1
    obtain ⟨_, xs, h1, _⟩ := x.row i y _ hi (List.getElem?_eq_getElem hl)
    exact ne_of_none h1.h hp
  refine ⟨⟨x.o.i, upd_same⟩, x.h0, by rw [List.length_append, List.length_append, x.n]; rfl, ?_, fun y hy => ?_, fun i y r h1 h2 => ?_⟩
  · rw [List.nodup_append]
    refine ⟨x.nd, by simp, fun a ha b hb => ?_⟩
    rw [List.mem_singleton] at hb
    subst hb
    exact nas a ha
  · rcases List.mem_append.mp hy with z | z
    · exact x.ne y z
    · rw [List.mem_singleton] at z
      subst z
      exact npl.symm
  · by_cases q : i < as.length
    · rw [List.getElem?_append_left q] at h1
      rw [List.getElem?_append_left (by rw [← x.n]; exact q)] at h2
      obtain ⟨h3, xs, h4, h5⟩ := x.row i y r h1 h2
      have hy := List.mem_of_getElem? h1
      exact ⟨h3, xs, (h4.put (nas y hy)).put (x.ne y hy), h5⟩
    · have hl := (List.getElem?_eq_some_iff.mp h1).1
      rw [List.length_append] at hl
      have : i = as.length := by
        have : [p].length = 1 := rfl
        omega
      subst this
      rw [List.getElem?_append_right (Nat.le_refl _), Nat.sub_self] at h1
      rw [x.n, List.getElem?_append_right (Nat.le_refl _), Nat.sub_self] at h2
      cases h1
      cases h2
      exact ⟨h0, [], ⟨hi, by rw [upd_ne npl.symm, upd_same]⟩, .nil⟩
theorem lv_put {j : Nat} {y : Addr} {r : List K3} {v : V} {k : K3} {xs : List V} (x : Lv H0 I H pl as lv) (hy : as[j]? = some y) (hr : lv[j]? = some r) (hxs : Own I H y xs) (hk : IsAll I xs (r.map k3D)) (kv : Is I v (k3D k)) : Lv H0 I (upd H y (.lst (xs ++ [v]))) pl as (lv.set j (r ++ [k])) := by
  have hmem := List.mem_of_getElem? hy
  refine ⟨x.o.put (x.ne y hmem).symm, x.h0, by rw [List.length_set, x.n], x.nd, x.ne, fun i z r2 h1 h2 => ?_⟩
  by_cases q : i = j
  · subst q
    rw [hy] at h1
    cases h1
    rw [List.getElem?_set_self (List.getElem?_eq_some_iff.mp hr).1] at h2
    cases h2
    refine ⟨(x.row i y r hy hr).1, xs ++ [v], ⟨hxs.i, upd_same⟩, ?_⟩
    rw [List.map_append]
    exact hk.append (.cons kv .nil)
  · rw [List.getElem?_set_ne (fun e => q e.symm)] at h2
    obtain ⟨h3, ys, h4, h5⟩ := x.row i z r2 h1 h2
    refine ⟨h3, ys, h4.put (fun e => ?_), h5⟩
    subst e
    have hi := (List.getElem?_eq_some_iff.mp h1).1
    exact q ((List.getElem?_inj hi x.nd).mp (h1.trans hy.symm))
end
end K84
namespace K84
open PySem PySem.Spec PyProof.Rows L2 KD NK ND
/-- all that the search holds -/
structure Sr (P : Program) (w : World) (H0 I H : Hp) (a pl : Addr) (as : List Addr) (s : BF × List (List K3)) (n : Nat) : Prop where
  d : SD P w I H a s.1 n
  ai : I a = none
  a0 : H0 a = none
  l : Lv H0 I H pl as s.2
  apl : a ≠ pl
  aas : ∀ y ∈ as, y ≠ a
  ln : s.2.length ≤ n
  rn : ∀ r ∈ s.2, r.length ≤ n
section
variable {P : Program} {w : World} {H0 I0 I H I2 H2 : Hp} {a pl : Addr} {as : List Addr} {s : BF × List (List K3)} {n : Nat} {K : PySem.W.Frag} {σ : L2.St} {D : Ends} {tz : TS} {te td ty tv ta tb tx : TE} {k : K3}
theorem Sr.da (x : Sr P w H0 I H a pl as s n) : ∃ o, H a = some o := by
  obtain ⟨kvs, h1, _⟩ := x.d
  exact ⟨_, h1⟩
theorem Sr.go (x : Sr P w H0 I H a pl as s n) (g : Go I H I2 H2) : Sr P w H0 I2 H2 a pl as s n := by
  obtain ⟨o, ho⟩ := x.da
  exact ⟨x.d.go g, g.n.none ho x.ai, x.a0, x.l.go g, x.apl, x.aas, x.ln, x.rn⟩
theorem Sr.step (x : Sr P w H0 I H a pl as s n) (e : Ex H H2) (o : Ex I H) : Sr P w H0 I H2 a pl as s n := x.go ((Go.refl o).step e)
theorem Sr.more {m : Nat} (x : Sr P w H0 I H a pl as s n) (h : n ≤ m) : Sr P w H0 I H a pl as s m := by
  obtain ⟨kvs, h1, h2, h3, h4⟩ := x.d
  exact ⟨⟨kvs, h1, h2, h3, by omega⟩, x.ai, x.a0, x.l, x.apl, x.aas, Nat.le_trans x.ln h, fun r hr => Nat.le_trans (x.rn r hr) h⟩
/-- d[k] -/
theorem ed_nget {m : BF} {v : Int} (x : SD P w I H a m n) (hm : m k = some v) (ha : Ev td σ H (.ref a)) (hk : Ed ty σ H I (k3D k)) : Ed (tNGet P w td ty) σ H I (.int v) := fun H1 e1 b Q q =>
  ha H1 e1 _ fun H2 e2 => hk H2 (e1.trans e2) (b.trans e2) _ fun y I3 H3 a1 a2 a3 nw ky => by
    obtain ⟨kvs, h1, h2, h3, h4⟩ := x
    obtain ⟨b2, rfl⟩ : ∃ b2, y = .ref b2 := by
      cases ky with
      | tup _ _ => exact ⟨_, rfl⟩
    refine ⟨a, b2, kvs, k, .int v, rfl, rfl, a2 _ _ (e2 _ _ (e1 _ _ h1)), fun p hp => keyAt_ex (h3 p hp) (b.trans (e2.trans a2)), keyAt_ex (keyAt_of ky) a3, ?_, q _ I H3 (Ex.refl _) (e2.trans a2) (b.trans (e2.trans a2)) (New.refl _ _) (.int v)⟩
    rw [h2, hm]
    rfl
/-- d.get(k, x) -/
theorem ed_nget2 {m : BF} {v : Int} (x : SD P w I H a m n) (ha : Ev td σ H (.ref a)) (hk : Ed ty σ H I (k3D k)) (hx : Ev tx σ H (.int v)) : Ed (tNGet2 P w td ty tx) σ H I (.int ((m k).getD v)) := fun H1 e1 b Q q =>
  ha H1 e1 _ fun H2 e2 => by
    obtain ⟨kvs, h1, h2, h3, h4⟩ := x
    refine ⟨a, kvs, rfl, e2 _ _ (e1 _ _ h1), fun p hp => keyAt_ex (h3 p hp) (b.trans e2), ?_⟩
    refine hk H2 (e1.trans e2) (b.trans e2) _ fun y I3 H3 a1 a2 a3 nw ky => hx H3 ((e1.trans e2).trans a2) _ fun H4 e4 => ?_
    obtain ⟨b2, rfl⟩ : ∃ b2, y = .ref b2 := by
      cases ky with
      | tup _ _ => exact ⟨_, rfl⟩
    refine ⟨b2, kvs, k, rfl, e4 _ _ (a2 _ _ (e2 _ _ (e1 _ _ h1))), fun p hp => keyAt_ex (h3 p hp) (b.trans ((e2.trans a2).trans e4)), keyAt_ex (keyAt_of ky) (a3.trans e4), ?_⟩
    rw [h2]
    have e : ((m k).map V.int).getD (.int v) = .int ((m k).getD v) := by cases m k <;> rfl
    rw [e]
    exact q _ I H4 (Ex.refl _) ((e2.trans a2).trans e4) (b.trans ((e2.trans a2).trans e4)) (New.refl _ _) (.int _)
/-- d[k] = v -/
theorem g_nput {v : Int} (x : Sr P w H0 I H a pl as s n) (hz : n < 100000) (g : Go I0 H0 I H) (ha : Ev td σ H (.ref a)) (hk : Ed ty σ H I (k3D k)) (hv : Ev tv σ H (.int v))
    (kk : ∀ I2 H2, Go I0 H0 I2 H2 → Ex I I2 → Sr P w H0 I2 H2 a pl as (fPut s.1 k v, s.2) (n + 1) → D.nx σ H2) : sNPut P w td ty tv D σ H :=
  hv H (Ex.refl _) _ fun H1 e1 => ha H1 e1 _ fun H2 e2 => hk H2 (e1.trans e2) (g.o.trans (e1.trans e2)) _ fun y I3 H3 a1 a2 a3 nw ky => by
    have e3 : Ex H H3 := (e1.trans e2).trans a2
    have g3 : Go I H I3 H3 := ⟨a1, (fun p o h => (nw p o h).imp id fun z => (e1.trans e2).free z), e3, a3⟩
    have x3 := x.go g3
    obtain ⟨kvs, h1, h2, h3, h4⟩ := x3.d
    obtain ⟨b2, rfl⟩ : ∃ b2, y = .ref b2 := by
      cases ky with
      | tup _ _ => exact ⟨_, rfl⟩
    refine ⟨a, b2, kvs, k, rfl, rfl, h1, fun p hp => keyAt_ex (h3 p hp) a3, keyAt_ex (keyAt_of ky) a3, sz_lt (by omega), kk I3 _ ((g.trans g3).mut x3.ai x3.a0) a1 ⟨sd_put h2 h3 h4 (keyAt_of ky), x3.ai, x3.a0, x3.l.other x3.apl x3.aas, x3.apl, x3.aas, Nat.le_succ_of_le x3.ln, fun r hr => Nat.le_succ_of_le (x3.rn r hr)⟩⟩
theorem q_nput {v : Int} (x : Sr P w H0 I H a pl as s n) (hz : n < 100000) (g : Go I0 H0 I H) (ha : Ev td σ H (.ref a)) (hk : Ed ty σ H I (k3D k)) (hv : Ev tv σ H (.int v))
    (kk : ∀ I2 H2, Go I0 H0 I2 H2 → Ex I I2 → Sr P w H0 I2 H2 a pl as (fPut s.1 k v, s.2) (n + 1) → tz D σ H2) : tSeq (sNPut P w td ty tv) tz D σ H := g_nput (D := { D with nx := tz D }) x hz g ha hk hv kk
/-- len of a list of one's own -/
theorem ed_lenOwn {l : Addr} {xs : List V} (h : H l = some (.lst xs)) (ha : Ev ta σ H (.ref l)) : Ed (tCB (rLenSq K) (tCons ta tNil)) σ H I (.int xs.length) := fun H1 e1 b Q q =>
  ha H1 e1 _ fun H2 e2 => ⟨l, xs, rfl, .inl (SqL.of (e2 _ _ (e1 _ _ h))), q _ I H2 (Ex.refl _) e2 (b.trans e2) (New.refl _ _) (.int _)⟩
/-- xs[i], a list of one's own: the value itself -/
theorem ev_ixOwn {l : Addr} {xs : List V} {i : Int} {v : V} (h : H l = some (.lst xs)) (ha : Ev ta σ H (.ref l)) (hb : Ev tb σ H (.int i)) (hi : atI xs i = some v) : Ev (tOp (rIxL K) ta tb) σ H v := fun H1 e1 Q q =>
  ha H1 e1 _ fun H2 e2 => hb H2 (e1.trans e2) _ fun H3 e3 => ⟨l, xs, i, v, rfl, rfl, SqL.of (e3 _ _ (e2 _ _ (e1 _ _ h))), hi, q H3 (e2.trans e3)⟩
theorem atI_ref {as : List Addr} {i : Int} {j : Nat} {y : Addr} (hi : i = j) (h : as[j]? = some y) : atI (as.map V.ref) i = some (.ref y) := by
  subst hi
  have hj := (List.getElem?_eq_some_iff.mp h).1
  rw [atI_nat (by omega) (by rw [List.length_map]; omega), Int.toNat_natCast, List.getElem?_map, h]
  rfl
/-- sorted(xs), ints -/
theorem ed_sortI {ns : List Int} (h : Ed te σ H I (.list (ns.map PyData.int))) : Ed (tCB (rSortedI K) (tCons te tNil)) σ H I (.list ((sorI ns).map PyData.int)) := fun H1 e b Q q =>
  h H1 e b _ fun v I2 H2 a1 a2 a3 nw k => by
    cases k with
    | @lst l xs _ ka kb =>
      have ex := ints_of kb
      subst ex
      refine ⟨l, ns, rfl, SqL.of (a3 _ _ ka), fun ns' p h1 h2 hp => ?_⟩
      have e := sorI_eq h1 h2
      subst e
      exact q _ (upd I2 p (.lst ((sorI ns).map V.int))) _ (a1.trans (Ex.new (a3.free hp))) (a2.trans (Ex.new hp)) a3.both (nw.lay a2 hp) (.lst upd_same (isAll_ints _))
/-- x = xs + ys, a list of one's own -/
theorem q_catO {i : Nat} {ds es : List PyData} (g : Go I0 H0 I H) (ha : Ed ta σ H I (.list ds)) (hb : Ed tb σ H I (.list es)) (hz : ds.length + es.length ≤ 100000) (k : ∀ p vs I2 H2, Go I0 H0 I2 H2 → Go I H I2 H2 → Own I2 H2 p vs → IsAll I2 vs (ds ++ es) → H p = none → tz D (σ.set i (some (.ref p))) H2) : tSeq (tAsg (tOp rCat ta tb) (gName i)) tz D σ H :=
  ha H (Ex.refl _) g.o _ fun v I2 H2 a1 a2 a3 nw k1 => (hb.more a1) H2 a2 a3 _ fun v2 I3 H3 b1 b2 b3 nw2 k2 => by
    cases k1 with
    | @lst l xs _ ka kb =>
      cases k2 with
      | @lst l2 ys _ kc kd =>
        refine ⟨l, l2, xs, ys, rfl, rfl, b2 _ _ (a3 _ _ ka), b3 _ _ kc, by rw [kb.length, kd.length]; exact sz_of hz, fun p hp => ?_⟩
        have fr := b3.free hp
        have gg : Go I H I3 (upd H3 p (.lst (xs ++ ys))) := ⟨a1.trans b1, nw.trans nw2 a2, (a2.trans b2).trans (Ex.new hp), b3.mut fr⟩
        exact k p (xs ++ ys) I3 _ (g.trans gg) gg ⟨fr, upd_same⟩ ((kb.mono b1).append kd) ((a2.trans b2).free hp)
/-- if t: xs.append(e) -/
theorem q_ifApp {i : Nat} {l : Addr} {xs : List V} {ds : List PyData} {d : PyData} {b : Bool} {tt : TT} (g : Go I0 H0 I H) (hs : σ[i]? = some (some (.ref l))) (o : Own I H l xs) (kv : IsAll I xs ds) (h0 : H0 l = none) (ht : Et tt σ H b) (h : b = true → ∀ H1, Go I0 H0 I H1 → Ed te σ H1 I d) (hz : xs.length < 100000)
    (k : ∀ vs I2 H2, Go I0 H0 I2 H2 → (∀ p o, p ≠ l → H p = some o → H2 p = some o) → Ex I I2 → New I H I2 → Own I2 H2 l vs → IsAll I2 vs (ds ++ if b = true then [d] else []) → tz D σ H2) : tSeq (tIfS tt (tDrop (tBM K "list" rAppend (tVar i) (tCons te tNil))) tNext) tz D σ H := by
  refine q_when g ht (fun hb H1 g1 e1 => ?_) fun hb H1 g1 e1 => ?_
  · refine g_app (D := { D with nx := tz D }) g1 hs (o.step e1) h0 (h hb H1 g1) hz fun v I2 H2 g2 g2' o2 kv2 => ?_
    refine k (xs ++ [v]) I2 _ g2 (fun p o hp ho => by rw [upd_ne hp]; exact g2'.h _ _ (e1 _ _ ho)) g2'.i (fun p o h => (g2'.n p o h).imp id fun z => e1.free z) o2 ?_
    rw [if_pos hb]
    exact (kv.mono g2'.i).append (.cons kv2 .nil)
  · refine k xs I H1 g1 (fun p o _ ho => e1 _ _ ho) (Ex.refl _) (New.refl _ _) (o.step e1) ?_
    rw [if_neg (by rw [hb]; simp), List.append_nil]
    exact kv
end
end K84
namespace K84
open PySem PySem.Spec PyProof.Rows L2 KD NK ND
section
variable {P : Program} {w : World} {K : PySem.W.Frag} {mg : Str → Option Value} {base : Heap} {C : Addr}
abbrev N__law_searched : List Str := ["kinds", "c", "l", "best", "levels", "at", "row", "k", "here", "kept", "left", "one", "moves", "slots", "rest", "cost", "state", "slot"]
theorem sc__law_searched : FnScope N__law_searched ["kinds", "c"] (defScope s__law_searched) := ⟨rfl, rfl, rfl, by decide +kernel, rfl, by decide +kernel, by decide +kernel⟩
def nth (b : List Stmt) (i : Nat) : Stmt := b.getD i (.Pass ⟨0, 0, 0, 0⟩)
abbrev seB0 : List Stmt := forBody (stAt s__law_searched 2)
abbrev seB1 : List Stmt := forBody (nth seB0 1)
abbrev seB2 : List Stmt := forBody (nth seB1 8)
abbrev seCx (P : Program) (w : World) (K : PySem.W.Frag) (mg : Str → Option Value) (base : Heap) (f : Addr) (cdv : Value) (A : Around) (outer : List Env) (s0 : Shared) (H : Hp) (E : XK) : Cx := (cxOf CX0 P w K mg base N__law_searched "_law_searched" (defScope s__law_searched) f cdv A outer s0 H E).nox
abbrev seSt (v0 : V) (c l : Int) (pb pl : Addr) (at_ : Nat) (x6 x7 x8 x9 x10 x11 x12 x13 x14 x15 x16 x17 : Option V) : L2.St := [some v0, some (.int c), some (.int l), some (.ref pb), some (.ref pl), some (.int (at_ : Int)), x6, x7, x8, x9, x10, x11, x12, x13, x14, x15, x16, x17]
theorem set_mod {l : List (List K3)} {i : Nat} {r : List K3} {k : K3} (h : l[i]? = some r) : l.set i (r ++ [k]) = l.modify i fun r => r ++ [k] := by
  refine List.ext_getElem? fun j => ?_
  by_cases q : i = j
  · subst q
    rw [mod_eq, h, List.getElem?_set_self (List.getElem?_eq_some_iff.mp h).1]
    rfl
  · rw [mod_ne _ _ q, List.getElem?_set_ne q]
theorem sea_for (T : Txt K mg C) (f : Addr) (cdv : Value) (A : Around) (outer : List Env) (s0 : Shared) (H : Hp) (E : XK) (hu61 : (A.deeper (envOfC "_law_searched" (defScope s__law_searched) s0.heap.objs.size f cdv)).units + 61 < cLine) :
    ∃ t, PSs (seCx P w K mg base f cdv A outer s0 H E) seB2 t ∧
      ∀ {I I2 H' : Hp} {pb pl : Addr} {as : List Addr} {s : BF × List (List K3)} {n at_ : Nat} {mv : Mv} {D : Ends} {v0 vs : V} {c l : Int} {x6 x7 x8 x9 x10 x12 x16 x17 : Option V}, Go I H I2 H' → Sr P w H I2 H' pb pl as s n → n < 90000 → at_ < s.2.length → (mv.2.2.2 = 0 ∨ mv.2.2.2 = 1) → mv.2.1.length ≤ 100 → Is I2 vs (.tuple (mv.2.1.map PyData.int)) →
        (∀ (I3 H3 : Hp) (as2 : List Addr) (y16 : Option V), Go I H I3 H3 → Ex I2 I3 → Sr P w H I3 H3 pb pl as2 (mvStep at_ s mv) (n + 1) → (∀ (i : Nat) (a : Addr), as[i]? = some a → as2[i]? = some a) → D.nx (seSt v0 c l pb pl at_ x6 x7 x8 x9 x10 (some (.int mv.1)) x12 (some vs) (some (.int mv.2.2.1)) (some (.int mv.2.2.2)) y16 x17) H3) →
        t D (seSt v0 c l pb pl at_ x6 x7 x8 x9 x10 (some (.int mv.1)) x12 (some vs) (some (.int mv.2.2.1)) (some (.int mv.2.2.2)) x16 x17) H' := by
  refine ⟨_, (pss_cons (ps_set (i := 16) sc__law_searched.nd rfl (Or.inl rfl) (pe_tup (pa_cons (pe_callB (call_min2 rfl) (by rfl) T.b_min (by decide +kernel) (pa_cons (pv 11) (pa_cons (pv 14) pa_nil))) (pa_cons (pe_callTy call_tuple_of (by rfl) T.b_tuple (by decide +kernel) (pa_cons (pe_callB cr_sortedI (by rfl) T.b_sorted (by decide +kernel) (pa_cons (pe_lc (own := [("slot", 17)]) (by rfl) sc__law_searched.nd (pi_tup (pv 13)) (blkOk_by (N := N__law_searched) (own := [("slot", 17)]) (sc := defScope s__law_searched) (by decide +kernel)) (fun _ _ _ _ _ => (pg_name (i := 17) sc__law_searched.nd rfl (Or.inl rfl))) (fun _ _ _ _ _ => pts_nil) (fun _ _ _ _ _ => (pe_ifExp (pt_cmpR op_le (pv 17) (pv 14) (nomark _)) (pv 17) (pe_un un_neg pe_int)))) pa_nil)) pa_nil)) (pa_cons (pv 14) pa_nil))))) (pss_one (ps_if (PW.pt (pw_and (pt_cmpR op_le (pv 11) (pv 14) (nomark _)) (pw_and1 (pt_cmpR op_gt (pe_nget2 hu61 (pv 3) (pv 16) (pe_op op_pow pe_int pe_int) ⟨by rfl, by rfl, by rfl, by rfl⟩) (pe_op op_add (pv 5) (pv 15)) (nomark _))))) (pss_cons (ps_nput hu61 (pv 3) (pv 16) (pe_op op_add (pv 5) (pv 15)) (by rfl)) (pss_cons (ps_while PassesOwn.never (pt_cmpR op_le (pe_callB call_len_seq (by rfl) T.b_len (by decide +kernel) (pa_cons (pv 4) pa_nil)) (pe_op op_add (pv 5) (pv 15)) (nomark _)) (pss_one (ps_expr (pe_bm PySem.F.plainAttrs_list PySem.F.slot_list_append PySem.F.type_list_append mt_append (pv 4) (pa_cons (pe_lst pa_nil) pa_nil))))) (pss_one (ps_expr (pe_bm PySem.F.plainAttrs_list PySem.F.slot_list_append PySem.F.type_list_append mt_append (pe_ix ix_list (pv 4) (pe_op op_add (pv 5) (pv 15)) (fun _ _ => rfl)) (pa_cons (pv 16) pa_nil)))))) pss_nil))), ?_⟩
  intro I I2 H' pb pl as s n at_ mv D v0 vs c l x6 x7 x8 x9 x10 x12 x16 x17 g sr hn hat hc hsl ks hk
  obtain ⟨one, slots, rest, cost⟩ := mv
  dsimp only at hc hsl ks hk ⊢
  generalize hst : stOf (one, slots, rest, cost) = st at hk
  have hlc : Ed (tLc (iTup K (tVar 13)) (gName 17) tYes (tIf (tTest (tOp (rI0 fun i j => V.bl (decide (i ≤ j))) (tVar 17) (tVar 14))) (tVar 17) (tUn (rU fun i => V.int (-i)) (tC (V.int 1)))) (List.map (fun (x : Str × Nat) => x.snd) [("slot", 17)])) (seSt v0 c l pb pl at_ x6 x7 x8 x9 x10 (some (.int one)) x12 (some vs) (some (.int rest)) (some (.int cost)) x16 x17) H' I2 (.list ((slots.map fun s => if s ≤ rest then s else -1).map PyData.int)) := by
    refine Ed.is (ed_lcAT (K := K) slots PyData.int (fun s => PyData.int (if s ≤ rest then s else -1)) (ed_var rfl ks) (by omega) (fun _ => rfl) fun i a x I' H'' ha a1 a2 a3 kx => ?_) (by rw [List.map_map]; rfl)
    cases kx
    refine ed_if (b := decide (a ≤ rest)) (et_test (J := I') (ad_le (ed_var rfl (.int _)) (ed_var rfl (.int _)) a2) a2) (fun hb => ?_) fun hb => ?_
    · rw [if_pos (of_decide_eq_true hb)]
      exact ed_var rfl (.int _)
    · rw [if_neg (of_decide_eq_false hb)]
      exact ad_neg ed_int a2
  refine q_set g (d := k3D st) (by
    rw [← hst]
    exact ad_tup (ds := [.int (if rest < one then rest else one), .tuple ((sorI (slots.map fun s => if s ≤ rest then s else -1)).map PyData.int), .int rest]) (ea_cons (ed_min2 (J := I2) (ed_var rfl (.int _)) (ed_var rfl (.int _)) g.o) (ea_cons (ed_tupL (ed_sortI hlc)) (ea_cons (ed_var rfl (.int _)) ea_nil))) (by show 3 ≤ 100000; decide)) fun v16 I3 H3 g3 g3' k16 => ?_
  have sr3 := sr.go g3'
  have hadd : ∀ {H4 : Hp} {σ : L2.St} {I4 : Hp}, Ex I4 H4 → σ[5]? = some (some (.int (at_ : Int))) → σ[15]? = some (some (.int cost)) → Ed (tOp (rI0 fun i j => V.int (i + j)) (tVar 5) (tVar 15)) σ H4 I4 (.int ((at_ : Int) + cost)) := fun e h1 h2 => ad_add (ed_var h1 (.int _)) (ed_var h2 (.int _)) e
  refine g_if (b := decide (one ≤ rest) && decide ((at_ : Int) + cost < (s.1 st).getD 1000000000)) g3 (et_and (et_test (J := I3) (ad_le (ed_var rfl (.int _)) (ed_var rfl (.int _)) g3.o) g3.o) fun _ => et_test (J := I3) (ad_gt (ed_nget2 sr3.d (ev_var rfl) (ed_var rfl k16) (Ed.int (I := I3) (Ed.is (ad_pow (i := 10) (j := 9) (by unfold CPow; decide) ed_int ed_int g3.o) (by rfl)) g3.o)) (hadd g3.o rfl rfl) g3.o) g3.o) (fun hb H4 g4 e4 => ?_) fun hb H4 g4 e4 => ?_
  · rw [Bool.and_eq_true, decide_eq_true_eq, decide_eq_true_eq] at hb
    have em : mvStep at_ s (one, slots, rest, cost) = (fPut s.1 st (at_ + cost), putLv s.2 (at_ + cost.toNat) st) := by
      unfold mvStep
      rw [if_pos (by dsimp only; rw [hst]; exact hb)]
      dsimp only
      rw [hst]
    rw [em] at hk
    have sr4 := sr3.step e4 g3.o
    refine q_nput sr4 (by omega) g4 (ev_var rfl) (ed_var rfl k16) ((hadd g4.o rfl rfl).int g4.o) fun I5 H5 g5 e5 sr5 => ?_
    have k16 := k16.mono e5
    generalize hJ : at_ + cost.toNat + 1 - s.2.length = J
    have hJ1 : J ≤ 1 := by rcases hc with rfl | rfl <;> simp at hJ <;> omega
    have hcn : (at_ : Int) + cost = ((at_ + cost.toNat : Nat) : Int) := by rcases hc with rfl | rfl <;> simp
    refine q_while (fun m σ' H'' => ∃ (j : Nat) (as2 : List Addr), σ' = seSt v0 c l pb pl at_ x6 x7 x8 x9 x10 (some (.int one)) x12 (some vs) (some (.int rest)) (some (.int cost)) (some v16) x17 ∧ Go I H I5 H'' ∧ Sr P w H I5 H'' pb pl as2 (fPut s.1 st (at_ + cost), s.2 ++ List.replicate j []) (n + 1) ∧ (∀ (i : Nat) (a : Addr), as[i]? = some a → as2[i]? = some a) ∧ j ≤ J ∧ m = J - j) J ⟨0, as, rfl, g5, by rw [List.replicate_zero, List.append_nil]; exact sr5, fun i a h => h, Nat.zero_le _, rfl⟩ ?_
    rintro m σ' H6 ⟨j, as2, rfl, g6, sr6, hpre, hj, rfl⟩
    have hlen : as2.length = s.2.length + j := by
      rw [sr6.l.n, List.length_append, List.length_replicate]
    refine ⟨decide ((as2.length : Int) ≤ (at_ : Int) + cost), et_test (J := I5) (ad_le (Ed.is (ed_lenOwn sr6.l.o.h (ev_var rfl)) (by rw [List.length_map])) (hadd g6.o rfl rfl) g6.o) g6.o, fun hb7 H7 e7 => ?_, fun hb7 H7 e7 => ?_⟩
    · -- one level more
      have hlt := of_decide_eq_true hb7
      have sr7 := sr6.step e7 g6.o
      refine ⟨_, rfl, .inl ⟨rfl, _, SqL.of sr7.l.o.h⟩, (by show 0 ≤ sizeLine; decide), fun p hp => ⟨pl, as2.map V.ref, .ref p, rfl, rfl, ?_, sz_lt (by rw [List.length_map]; have := sr7.ln; dsimp only at this; rw [List.length_append, List.length_replicate] at this; omega), ?_⟩⟩
      · rw [upd_ne (ne_of_none sr7.l.o.h hp)]
        exact sr7.l.o.h
      have hpH : H p = none := (g6.h.trans e7).free hp
      have hpI : I5 p = none := (g6.o.trans e7).free hp
      obtain ⟨od, hod⟩ := sr7.da
      have nbp : pb ≠ p := ne_of_none hod hp
      have hln := sr.ln
      refine ⟨J - (j + 1), by omega, j + 1, as2 ++ [p], rfl, ((g6.step e7).mut hpI hpH).mut sr7.l.o.i sr7.l.h0, ⟨(sr7.d.other nbp).other sr7.apl, sr7.ai, sr7.a0, ?_, sr7.apl, fun y hy => ?_, ?_, fun r hr => ?_⟩, fun i a h => ?_, by omega, rfl⟩
      · have := lv_grow sr7.l hp hpH hpI
        rw [List.map_append] at this
        show Lv H I5 _ pl (as2 ++ [p]) (s.2 ++ List.replicate (j + 1) [])
        rw [show s.2 ++ List.replicate (j + 1) ([] : List K3) = s.2 ++ List.replicate j [] ++ [[]] by rw [List.replicate_succ', List.append_assoc]]
        exact this
      · rcases List.mem_append.mp hy with z | z
        · exact sr7.aas y z
        · rw [List.mem_singleton] at z
          subst z
          exact nbp.symm
      · show (s.2 ++ List.replicate (j + 1) ([] : List K3)).length ≤ n + 1
        rw [List.length_append, List.length_replicate]
        omega
      · rcases List.mem_append.mp hr with z | z
        · exact sr7.rn r (List.mem_append.mpr (.inl z))
        · rw [List.eq_of_mem_replicate z]
          exact Nat.zero_le _
      · have := hpre i a h
        rw [List.getElem?_append_left (List.getElem?_eq_some_iff.mp this).1]
        exact this
    · -- the level is there
      have hge := of_decide_eq_false hb7
      have sr7 := sr6.step e7 g6.o
      have ej : j = J := by omega
      subst ej
      have hat2 : at_ + cost.toNat < as2.length := by omega
      have hy := List.getElem?_eq_getElem hat2
      generalize as2[at_ + cost.toNat] = y at hy
      have hat3 : at_ + cost.toNat < (s.2 ++ List.replicate j ([] : List K3)).length := by rw [← sr7.l.n]; exact hat2
      have hr := List.getElem?_eq_getElem hat3
      generalize (s.2 ++ List.replicate j ([] : List K3))[at_ + cost.toNat] = r at hr
      obtain ⟨hy0, xs, oy, ky⟩ := sr7.l.row _ y r hy hr
      have hrl : r.length ≤ n := by
        rcases List.mem_append.mp (List.mem_of_getElem? hr) with z | z
        · exact sr.rn r z
        · rw [List.eq_of_mem_replicate z]
          exact Nat.zero_le _
      have hxl : xs.length = r.length := by rw [ky.length, List.length_map]
      refine s_app oy.h oy.i (g6.o.trans e7) (ev_ixOwn sr7.l.o.h (ev_var rfl) ((hadd (I4 := I5) (g6.o.trans e7) rfl rfl).int (g6.o.trans e7)) (atI_ref hcn hy)) (ed_var rfl k16) (by omega) fun v I8 H8 a1 a2 a3 nw oi kv hl => ?_
      have g78 : Go I5 H7 I8 H8 := ⟨a1, nw, a2, a3⟩
      have sr8 := sr7.go g78
      have hmem := List.mem_of_getElem? hy
      refine hk I8 _ as2 _ (((g6.step e7).trans g78).mut oi hy0) ((g3'.i.trans e5).trans a1) ⟨sr8.d.other (sr8.aas y hmem).symm, sr8.ai, sr8.a0, ?_, sr8.apl, sr8.aas, ?_, fun r2 hr2 => ?_⟩ hpre
      · have := lv_put sr8.l hy hr ⟨oi, hl⟩ (ky.mono a1) kv
        show Lv H I8 _ pl as2 (putLv s.2 (at_ + cost.toNat) st)
        unfold putLv
        rw [hJ, ← set_mod hr]
        exact this
      · show (putLv s.2 (at_ + cost.toNat) st).length ≤ n + 1
        unfold putLv
        rw [hJ, List.length_modify, List.length_append, List.length_replicate]
        have := sr.ln
        omega
      · unfold putLv at hr2
        rw [hJ, ← set_mod hr] at hr2
        rcases List.mem_or_eq_of_mem_set hr2 with z | z
        · rcases List.mem_append.mp z with z | z
          · exact Nat.le_succ_of_le (sr.rn r2 z)
          · rw [List.eq_of_mem_replicate z]
            exact Nat.zero_le _
        · subst z
          rw [List.length_append, List.length_singleton]
          omega
  · refine hk I3 H4 as _ g4 g3'.i ?_ fun i a h => h
    have e : mvStep at_ s (one, slots, rest, cost) = s := by
      unfold mvStep
      rw [if_neg]
      rintro ⟨z1, z2⟩
      dsimp only at z1 z2
      rw [hst] at z2
      rw [decide_eq_true z1, decide_eq_true z2] at hb
      cases hb
    rw [e]
    exact (sr3.step e4 g3.o).more (by omega)
end
end K84
namespace K84
open PySem PySem.Spec PyProof.Rows L2 KD NK ND
section
variable {P : Program} {w : World} {H0 I0 I H I2 H2 : Hp} {a pl : Addr} {as : List Addr} {s : BF × List (List K3)} {n : Nat}
theorem Sr.mv (x : Sr P w H0 I H a pl as s n) (hH : ∀ q, (q = a ∨ q = pl ∨ q ∈ as) → ∀ o, H q = some o → H2 q = some o) (hI : Ex I I2) (hN : ∀ q, (q = a ∨ q = pl ∨ q ∈ as) → I2 q = none) : Sr P w H0 I2 H2 a pl as s n := by
  obtain ⟨kvs, h1, h2, h3, h4⟩ := x.d
  refine ⟨⟨kvs, hH _ (.inl rfl) _ h1, h2, fun p hp => keyAt_ex (h3 p hp) hI, h4⟩, hN _ (.inl rfl), x.a0, ⟨⟨hN _ (.inr (.inl rfl)), hH _ (.inr (.inl rfl)) _ x.l.o.h⟩, x.l.h0, x.l.n, x.l.nd, x.l.ne, fun i y r e1 e2 => ?_⟩, x.apl, x.aas, x.ln, x.rn⟩
  obtain ⟨b1, xs, b2, b3⟩ := x.l.row i y r e1 e2
  have hm : y ∈ as := List.mem_of_getElem? e1
  exact ⟨b1, xs, ⟨hN _ (.inr (.inr hm)), hH _ (.inr (.inr hm)) _ b2.h⟩, b3.mono hI⟩
theorem Sr.got (x : Sr P w H0 I H a pl as s n) {q : Addr} (h : q = a ∨ q = pl ∨ q ∈ as) : ∃ o, H q = some o ∧ I q = none := by
  rcases h with rfl | rfl | h
  · obtain ⟨o, ho⟩ := x.da
    exact ⟨o, ho, x.ai⟩
  · exact ⟨_, x.l.o.h, x.l.o.i⟩
  · obtain ⟨i, hi⟩ := List.getElem?_of_mem h
    have hl : i < s.2.length := by
      rw [← x.l.n]
      exact (List.getElem?_eq_some_iff.mp hi).1
    obtain ⟨_, xs, b2, _⟩ := x.l.row i q _ hi (List.getElem?_eq_getElem hl)
    exact ⟨_, b2.h, b2.i⟩
/-- another list changes -/
theorem Sr.exl {p : Addr} (x : Sr P w H0 I H a pl as s n) (hp : ∀ q, (q = a ∨ q = pl ∨ q ∈ as) → q ≠ p) (hH : ∀ q o, q ≠ p → H q = some o → H2 q = some o) (hI : Ex I I2) (hN : New I H I2) : Sr P w H0 I2 H2 a pl as s n :=
  x.mv (fun q hq o ho => hH q o (hp q hq) ho) hI fun q hq => by
    obtain ⟨o, h1, h2⟩ := x.got hq
    exact hN.none h1 h2
/-- another list becomes data -/
theorem Sr.lay {p : Addr} {o : HO} (x : Sr P w H0 I H a pl as s n) (hp : ∀ q, (q = a ∨ q = pl ∨ q ∈ as) → q ≠ p) (hi : I p = none) : Sr P w H0 (upd I p o) H a pl as s n :=
  x.mv (fun q hq o ho => ho) (Ex.new hi) fun q hq => by
    obtain ⟨o, h1, h2⟩ := x.got hq
    rw [upd_ne (hp q hq)]
    exact h2
def mvD (m : Mv) : PyData := .tuple [.int m.1, .tuple (m.2.1.map PyData.int), .int m.2.2.1, .int m.2.2.2]
theorem fm_filter (f : Int → PyData) : ∀ l : List Int, l.filterMap (fun o => if 0 ≤ o then some (f o) else none) = (l.filter fun o => decide (0 ≤ o)).map f
  | [] => rfl
  | a :: r => by
    have ih := fm_filter f r
    rw [List.filterMap_cons, List.filter_cons]
    by_cases q : 0 ≤ a
    · rw [if_pos q, if_pos (decide_eq_true q), List.map_cons]
      show f a :: _ = _
      rw [ih]
    · rw [if_neg q, if_neg (by rw [decide_eq_false q]; simp)]
      exact ih
theorem moves_in {ks : List Int} {c : Nat} {key : K3} (hb : Bits ks) (hk : key.2.1.length ≤ 2) (hc : c ≤ 2) : (movesF ks c key).length ≤ 7 ∧ ∀ m ∈ movesF ks c key, (m.2.2.2 = 0 ∨ m.2.2.2 = 1) ∧ m.2.1.length ≤ 100 := by
  unfold movesF
  refine ⟨?_, fun m hm => ?_⟩
  · have h1 := List.length_filter_le (fun o => decide ((0 : Int) ≤ o)) key.2.1
    simp only [List.length_append, List.length_map, List.length_range]
    split <;> split <;> split <;> simp <;> omega
  · simp only [List.mem_append, List.mem_map, List.mem_range] at hm
    rcases hm with (((⟨i, _, rfl⟩ | ⟨o, _, rfl⟩) | hm) | hm) | hm
    · refine ⟨.inl rfl, ?_⟩
      have h1 := cutA_len key.2.1 none (some (i : Int))
      have h2 := cutA_len key.2.1 (some ((i : Int) + 1)) none
      simp only [List.length_append, List.length_cons, List.length_nil]
      omega
    · exact ⟨.inl rfl, by dsimp only; omega⟩
    · split at hm
      · rw [List.mem_singleton] at hm
        subst hm
        exact ⟨kAt_bit hb _, by dsimp only; omega⟩
      · cases hm
    · split at hm
      · rw [List.mem_singleton] at hm
        subst hm
        exact ⟨.inl rfl, by dsimp only; omega⟩
      · cases hm
    · split at hm
      · rw [List.mem_singleton] at hm
        subst hm
        exact ⟨.inl rfl, by dsimp only; omega⟩
      · cases hm
end
section
variable {P : Program} {w : World} {K : PySem.W.Frag} {mg : Str → Option Value} {base : Heap} {C : Addr}
theorem sea_in (T : Txt K mg C) (f : Addr) (cdv : Value) (A : Around) (outer : List Env) (s0 : Shared) (H : Hp) (E : XK) (hu61 : (A.deeper (envOfC "_law_searched" (defScope s__law_searched) s0.heap.objs.size f cdv)).units + 61 < cLine) :
    ∃ t, PSs (seCx P w K mg base f cdv A outer s0 H E) seB1 t ∧
      ∀ {I I2 H' : Hp} {pb pl y : Addr} {as : List Addr} {s : BF × List (List K3)} {n at_ k c : Nat} {ks : List Int} {key : K3} {row : List K3} {b l : Int} {D : Ends} {v0 : V} {x8 x9 x10 x11 x12 x13 x14 x15 x16 x17 : Option V}, Go I H I2 H' → Sr P w H I2 H' pb pl as s n → n + 20 < 90000 → s.2[at_]? = some row → row[k]? = some key → as[at_]? = some y → okK ks.length key = true → s.1 key = some b → Is I2 v0 (kD ks) → Bits ks → ks.length ≤ 12 → c ≤ 2 →
        (b < at_ → ∀ (I3 H3 : Hp) (x8 x9 x10 x11 x12 x13 x14 x15 x16 x17 : Option V), Go I H I3 H3 → Ex I2 I3 → Sr P w H I3 H3 pb pl as s n → D.ct (seSt v0 c l pb pl at_ (some (.ref y)) (some (.int ((k + 1 : Nat) : Int))) x8 x9 x10 x11 x12 x13 x14 x15 x16 x17) H3) →
        (¬ b < at_ → key.2.2 = 0 → ∀ I3 H3 : Hp, Go I H I3 H3 → D.rt (.int (at_ : Int)) H3) →
        (¬ b < at_ → key.2.2 ≠ 0 → ∀ (I3 H3 : Hp) (as2 : List Addr) (x8 x9 x10 x11 x12 x13 x14 x15 x16 x17 : Option V), Go I H I3 H3 → Ex I2 I3 → Sr P w H I3 H3 pb pl as2 ((movesF ks c key).foldl (mvStep at_) s) (n + 20) → (∀ (i : Nat) (a : Addr), as[i]? = some a → as2[i]? = some a) → D.nx (seSt v0 c l pb pl at_ (some (.ref y)) (some (.int ((k + 1 : Nat) : Int))) x8 x9 x10 x11 x12 x13 x14 x15 x16 x17) H3) →
        t D (seSt v0 c l pb pl at_ (some (.ref y)) (some (.int (k : Int))) x8 x9 x10 x11 x12 x13 x14 x15 x16 x17) H' := by
  obtain ⟨tb, hb, hgood⟩ := sea_for (P := P) (w := w) (mg := mg) (base := base) T f cdv A outer s0 H E hu61
  refine ⟨_, (pss_cons (ps_asg (pe_ix ix_list (pv 6) (pv 7) (fun _ _ => rfl)) (pg_tup (by rfl) (pgs_cons (pg_name (i := 8) sc__law_searched.nd rfl (Or.inr rfl)) (pgs_cons (pg_name (i := 9) sc__law_searched.nd rfl (Or.inr rfl)) (pgs_cons (pg_name (i := 10) sc__law_searched.nd rfl (Or.inr rfl)) pgs_nil))))) (pss_cons (ps_set (i := 7) sc__law_searched.nd rfl (Or.inl rfl) (pe_op op_add (pv 7) pe_int)) (pss_cons (ps_if (pt_cmpR op_lt (pe_nget hu61 (pv 3) (pe_tup (pa_cons (pv 8) (pa_cons (pv 9) (pa_cons (pv 10) pa_nil)))) (fun _ _ => rfl)) (pv 5) (nomark _)) (pss_one ps_continue) pss_nil) (pss_cons (ps_if (pt_cmpR op_eq (pv 10) pe_int (nomark _)) (pss_one (ps_ret (pv 5))) pss_nil) (pss_cons (ps_set (i := 12) sc__law_searched.nd rfl (Or.inl rfl) (pe_op op_cat (pe_lc (own := [("slot", 17)]) (by rfl) sc__law_searched.nd (pi_range1 (by rfl) T.b_range (pa_cons (pv 1) pa_nil)) (blkOk_by (N := N__law_searched) (own := [("slot", 17)]) (sc := defScope s__law_searched) (by decide +kernel)) (fun _ _ _ _ _ => (pg_name (i := 17) sc__law_searched.nd rfl (Or.inl rfl))) (fun _ _ _ _ _ => pts_nil) (fun _ _ _ _ _ => (pe_tup (pa_cons (pv 8) (pa_cons (pe_op (show OpR _ _ (rCatA K) from op_catA) (pe_op (show OpR _ _ (rCatA K) from op_catA) (pe_slice (show SlR _ (rSlA K) from sl_tupA) (pv 9) po_none (po_some (pv 17))) (pe_tup (pa_cons (pv 8) pa_nil))) (pe_slice (show SlR _ (rSlA K) from sl_tupA) (pv 9) (po_some (pe_op op_add (pv 17) pe_int)) po_none)) (pa_cons (pv 10) (pa_cons pe_int pa_nil))))))) (pe_lc (own := [("one", 11)]) (by rfl) sc__law_searched.nd (pi_tup (pv 9)) (blkOk_by (N := N__law_searched) (own := [("one", 11)]) (sc := defScope s__law_searched) (by decide +kernel)) (fun _ _ _ _ _ => (pg_name (i := 11) sc__law_searched.nd rfl (Or.inl rfl))) (fun _ _ _ _ _ => (pts_one (pt_cmpR op_ge (pv 11) pe_int (nomark _)))) (fun _ _ _ _ _ => (pe_tup (pa_cons (pv 11) (pa_cons (pv 9) (pa_cons (pv 10) (pa_cons pe_int pa_nil))))))))) (pss_cons (ps_if (pt_cmpR op_lt (pv 8) (pv 10) (nomark _)) (pss_one (ps_expr (pe_bm PySem.F.plainAttrs_list PySem.F.slot_list_append PySem.F.type_list_append mt_append (pv 12) (pa_cons (pe_tup (pa_cons (pe_op op_add (pv 8) pe_int) (pa_cons (pv 9) (pa_cons (pv 10) (pa_cons (pe_ix ix_list (pv 0) (pv 8) (fun _ _ => rfl)) pa_nil))))) pa_nil)))) pss_nil) (pss_cons (ps_if (PW.pt (pw_and (pt_cmpR op_gt (pv 8) pe_int (nomark _)) (pw_and1 (pt_cmpR op_eq (pe_ix ix_list (pv 0) (pe_op op_sub (pv 8) pe_int) (fun _ _ => rfl)) pe_int (nomark _))))) (pss_one (ps_expr (pe_bm PySem.F.plainAttrs_list PySem.F.slot_list_append PySem.F.type_list_append mt_append (pv 12) (pa_cons (pe_tup (pa_cons (pe_op op_sub (pv 8) pe_int) (pa_cons (pv 9) (pa_cons (pv 10) (pa_cons pe_int pa_nil))))) pa_nil)))) pss_nil) (pss_cons (ps_if (PW.pt (pw_or (pt_cmpR op_eq (pv 8) (pe_op op_sub (pv 10) pe_int) (nomark _)) (pw_or1 (PW.pt (pw_and (pt_cmpR op_eq (pv 8) (pv 10) (nomark _)) (pw_and1 (pt_cmpR op_eq (pe_ix ix_list (pv 0) (pe_op op_sub (pv 10) pe_int) (fun _ _ => rfl)) pe_int (nomark _)))))))) (pss_one (ps_expr (pe_bm PySem.F.plainAttrs_list PySem.F.slot_list_append PySem.F.type_list_append mt_append (pv 12) (pa_cons (pe_tup (pa_cons (pe_op op_sub (pv 10) pe_int) (pa_cons (pv 9) (pa_cons (pe_op op_sub (pv 10) pe_int) (pa_cons pe_int pa_nil))))) pa_nil)))) pss_nil) (pss_one (ps_for PassesOwn.never rfl (pi_list (pv 12)) (pg_tup (by rfl) (pgs_cons (pg_name (i := 11) sc__law_searched.nd rfl (Or.inl rfl)) (pgs_cons (pg_name (i := 13) sc__law_searched.nd rfl (Or.inl rfl)) (pgs_cons (pg_name (i := 14) sc__law_searched.nd rfl (Or.inr rfl)) (pgs_cons (pg_name (i := 15) sc__law_searched.nd rfl (Or.inl rfl)) pgs_nil))))) hb)))))))))), ?_⟩
  intro I I2 H' pb pl y as s n at_ k c ks key row b l D v0 x8 x9 x10 x11 x12 x13 x14 x15 x16 x17 g sr hn hrow hkey hy hok hbk k0 hbits hlen hc hct hrt hnx
  obtain ⟨here, kept, left⟩ := key
  have hok2 : 0 ≤ here ∧ here ≤ ks.length ∧ 0 ≤ left ∧ left ≤ ks.length ∧ kept.length ≤ 2 := by
    unfold okK at hok
    simp only [Bool.and_eq_true, decide_eq_true_eq] at hok
    exact hok
  obtain ⟨o1, o2, o3, o4, o5⟩ := hok2
  dsimp only at hrt hnx
  -- the key
  obtain ⟨hy0, xs, oy, ky⟩ := sr.l.row at_ y row hy hrow
  refine (ed_ownAt (K := K) (I := I2) (d := k3D (here, kept, left)) oy ky g.o rfl (ed_var rfl (.int _)) (atI_gA rfl hkey)) H' (Ex.refl _) g.o _ fun v I1 H1 a1 a2 a3 nw kv => ?_
  cases kv with
  | @tup p ys _ kp kx =>
  obtain ⟨v1, v9, v3, rfl, k1, k9, k3⟩ := isAll3 kx
  cases k1
  cases k3
  refine ⟨p, _, rfl, SqT.of (a3 _ _ kp), rfl, _, _, rfl, _, _, rfl, _, _, rfl, rfl, ?_⟩
  have g1 : Go I H I1 H1 := g.trans ⟨a1, nw, a2, a3⟩
  have sr1 := sr.go ⟨a1, nw, a2, a3⟩
  have k0 := k0.mono a1
  refine q_int g1 (n := ((k + 1 : Nat) : Int)) (Ed.is (ad_add (ed_var rfl (.int _)) ed_int g1.o) (by rfl)) fun H2 g2 e2 => ?_
  have sr2 := sr1.step e2 g1.o
  refine q_when g2 (b := decide (b < at_)) (et_test (J := I1) (ad_lt (ed_nget sr2.d hbk (ev_var rfl) (ad_tup (ds := [.int here, .tuple (kept.map PyData.int), .int left]) (ea_cons (ed_var rfl (.int _)) (ea_cons (ed_var rfl k9) (ea_cons (ed_var rfl (.int _)) ea_nil))) (by show 3 ≤ 100000; decide))) (ed_var rfl (.int _)) g2.o) g2.o) (fun hb3 H3 g3 e3 => hct (of_decide_eq_true hb3) I1 H3 _ _ _ _ _ _ _ _ _ _ g3 a1 (sr2.step e3 g2.o)) fun hb3 H3 g3 e3 => ?_
  have hb3 := of_decide_eq_false hb3
  have sr3 := sr2.step e3 g2.o
  refine q_when g3 (b := decide (left = 0)) (et_test (J := I1) (ad_eqI (ed_var rfl (.int _)) ed_int g3.o) g3.o) (fun hl H4 g4 e4 => (ev_var (v := .int (at_ : Int)) rfl) H4 (Ex.refl _) _ fun H5 e5 => hrt hb3 (of_decide_eq_true hl) I1 H5 (g4.step e5)) fun hl H4 g4 e4 => ?_
  have hl := of_decide_eq_false hl
  have sr4 := sr3.step e4 g3.o
  -- the moves
  have hA : Ed (tLc (iRng1 (tCons (tVar 1) tNil)) (gName 17) tYes (tTup (tCons (tVar 8) (tCons (tOp (rCatA K) (tOp (rCatA K) (tSl (rSlA K) (tVar 9) tNoPart (tPart (tVar 17))) (tTup (tCons (tVar 8) tNil))) (tSl (rSlA K) (tVar 9) (tPart (tOp (rI0 fun i j => V.int (i + j)) (tVar 17) (tC (V.int 1)))) tNoPart)) (tCons (tVar 10) (tCons (tC (V.int 0)) tNil))))) (List.map (fun (x : Str × Nat) => x.snd) [("slot", 17)])) (seSt v0 c l pb pl at_ (some (.ref y)) (some (.int ((k + 1 : Nat) : Int))) (some (.int here)) (some v9) (some (.int left)) x11 x12 x13 x14 x15 x16 x17) H4 I1 (.list (((List.range c).map fun (slot : Nat) => ((here, cutA kept none (some (slot : Int)) ++ [here] ++ cutA kept (some ((slot : Int) + 1)) none, left, 0) : Mv)).map mvD)) := by
    refine Ed.is (ed_lcR (I := I1) (J := I1) (n := (c : Int)) (fun slot => mvD (here, cutA kept none (some (slot : Int)) ++ [here] ++ cutA kept (some ((slot : Int) + 1)) none, left, 0)) (ea_cons (ed_var rfl (.int _)) ea_nil) g4.o (by omega) (fun _ => rfl) fun i I' H'' hi b1 b2 b3 => ?_) (by rw [List.map_map, Int.toNat_natCast]; rfl)
    have k9 := k9.mono b1
    refine ad_tup (ds := [.int here, .tuple ((cutA kept none (some (i : Int)) ++ [here] ++ cutA kept (some ((i : Int) + 1)) none).map PyData.int), .int left, .int 0]) (ea_cons (ed_var rfl (.int _)) (ea_cons ?_ (ea_cons (ed_var rfl (.int _)) (ea_cons ed_int ea_nil)))) (by show 4 ≤ 100000; decide)
    rw [List.map_append, List.map_append, ← cutD_map, ← cutD_map]
    have z1 : (KD.cutD (kept.map PyData.int) none (some (i : Int))).length ≤ 100 := by rw [cutD_map, List.length_map]; have := cutA_len kept none (some (i : Int)); omega
    have z2 : (KD.cutD (kept.map PyData.int) (some ((i : Int) + 1)) none).length ≤ 100 := by rw [cutD_map, List.length_map]; have := cutA_len kept (some ((i : Int) + 1)) none; omega
    refine ed_catT (ed_catT (ed_slT (ed_var rfl k9) eo_none (eo_some (J := I') (ed_var rfl (.int _)) b2)) (ad_tup (ds := [.int here]) (ea_cons (ed_var rfl (.int _)) ea_nil) (by show 1 ≤ 100000; decide)) b2 (by rw [List.length_map, List.length_singleton]; omega)) (ed_slT (ed_var rfl k9) (eo_some (J := I') (ad_add (ed_var rfl (.int _)) ed_int b2) b2) eo_none) b2 (by rw [List.length_append, List.length_map (as := [here]), List.length_singleton]; omega)
  have hB : Ed (tLc (iTup K (tVar 9)) (gName 11) (tTest (tOp (rI0 fun i j => V.bl (decide (j ≤ i))) (tVar 11) (tC (V.int 0)))) (tTup (tCons (tVar 11) (tCons (tVar 9) (tCons (tVar 10) (tCons (tC (V.int 0)) tNil))))) (List.map (fun (x : Str × Nat) => x.snd) [("one", 11)])) (seSt v0 c l pb pl at_ (some (.ref y)) (some (.int ((k + 1 : Nat) : Int))) (some (.int here)) (some v9) (some (.int left)) x11 x12 x13 x14 x15 x16 x17) H4 I1 (.list (((kept.filter fun o => decide (0 ≤ o)).map fun o => ((o, kept, left, 0) : Mv)).map mvD)) := by
    refine Ed.is (ed_lcFT (K := K) (I := I1) kept PyData.int (fun o => if 0 ≤ o then some (mvD (o, kept, left, 0)) else none) (ed_var rfl k9) (by omega) (fun _ => rfl) fun i a x I' H'' ha b1 b2 b3 kx => ?_) ?_
    · cases kx
      by_cases q : 0 ≤ a
      · rw [if_pos q]
        refine ⟨Et.is (et_test (J := I') (ad_ge (ed_var rfl (.int _)) ed_int b2) b2) (decide_eq_true q), ad_tup (ds := [.int a, .tuple (kept.map PyData.int), .int left, .int 0]) (ea_cons (ed_var rfl (.int _)) (ea_cons (ed_var rfl (k9.mono b1)) (ea_cons (ed_var rfl (.int _)) (ea_cons ed_int ea_nil)))) (by show 4 ≤ 100000; decide)⟩
      · rw [if_neg q]
        exact Et.is (et_test (J := I') (ad_ge (ed_var rfl (.int _)) ed_int b2) b2) (decide_eq_false q)
    · rw [List.map_map]
      congr 1
      exact fm_filter _ kept
  have hmv := moves_in (key := (here, kept, left)) hbits o5 hc
  refine q_catO g4 hA hB (by
    have h1 := List.length_filter_le (fun o => decide ((0 : Int) ≤ o)) kept
    simp only [List.length_map, List.length_range]
    omega) fun pm vs5 I5 H5 g5 g45 o5' kv5 hpm => ?_
  have sr5 := sr4.go g45
  have hne : ∀ q, (q = pb ∨ q = pl ∨ q ∈ as) → q ≠ pm := fun q hq => by
    obtain ⟨o, h1, _⟩ := sr4.got hq
    exact ne_of_none h1 hpm
  have hpm0 : H pm = none := g4.h.free hpm
  have k0 := k0.mono g45.i
  have k9 := k9.mono g45.i
  have hl5 : vs5.length ≤ 10 := by
    rw [kv5.length]
    have h1 := List.length_filter_le (fun o => decide ((0 : Int) ≤ o)) kept
    simp only [List.length_append, List.length_map, List.length_range]
    omega
  refine q_ifApp (b := decide (here < left)) (d := mvD (here + 1, kept, left, kAt ks here)) g5 rfl o5' kv5 hpm0 (et_test (J := I5) (ad_lt (ed_var rfl (.int _)) (ed_var rfl (.int _)) g5.o) g5.o) (fun hb6 H6 g6 => ?_) (by omega) fun vs6 I6 H6 g6 hx6 i6 nw6 o6 kv6 => ?_
  · have hb6 := of_decide_eq_true hb6
    exact ad_tup (ds := [.int (here + 1), .tuple (kept.map PyData.int), .int left, .int (kAt ks here)]) (ea_cons (ad_add (ed_var rfl (.int _)) ed_int g6.o) (ea_cons (ed_var rfl k9) (ea_cons (ed_var rfl (.int _)) (ea_cons (ed_ixL (ed_var rfl k0) (ed_var rfl (.int _)) g6.o (atI_k o1 (by omega))) ea_nil)))) (by show 4 ≤ 100000; decide)
  have sr6 := sr5.exl hne hx6 i6 nw6
  have k0 := k0.mono i6
  have k9 := k9.mono i6
  have hl6 : vs6.length ≤ 11 := by
    rw [kv6.length, List.length_append, ← kv5.length]
    split <;> simp <;> omega
  refine q_ifApp (b := decide (0 < here) && decide (kAt ks (here - 1) = 0)) (d := mvD (here - 1, kept, left, 0)) g6 rfl o6 kv6 hpm0 (et_and (et_test (J := I6) (ad_gt (ed_var rfl (.int _)) ed_int g6.o) g6.o) fun hq => et_test (J := I6) (ad_eqI (ed_ixL (ed_var rfl k0) (ad_sub (ed_var rfl (.int _)) ed_int g6.o) g6.o (atI_k (by have := of_decide_eq_true hq; omega) (by omega))) ed_int g6.o) g6.o) (fun hb7 H7 g7 => ?_) (by omega) fun vs7 I7 H7 g7 hx7 i7 nw7 o7 kv7 => ?_
  · exact ad_tup (ds := [.int (here - 1), .tuple (kept.map PyData.int), .int left, .int 0]) (ea_cons (ad_sub (ed_var rfl (.int _)) ed_int g7.o) (ea_cons (ed_var rfl k9) (ea_cons (ed_var rfl (.int _)) (ea_cons ed_int ea_nil)))) (by show 4 ≤ 100000; decide)
  have sr7 := sr6.exl hne hx7 i7 nw7
  have k0 := k0.mono i7
  have k9 := k9.mono i7
  have hl7 : vs7.length ≤ 12 := by
    rw [kv7.length, List.length_append, ← kv6.length]
    split <;> simp <;> omega
  refine q_ifApp (b := decide (here = left - 1) || (decide (here = left) && decide (kAt ks (left - 1) = 0))) (d := mvD (left - 1, kept, left - 1, 0)) g7 rfl o7 kv7 hpm0 (et_or (et_test (J := I7) (ad_eqI (ed_var rfl (.int _)) (ad_sub (ed_var rfl (.int _)) ed_int g7.o) g7.o) g7.o) fun _ => et_and (et_test (J := I7) (ad_eqI (ed_var rfl (.int _)) (ed_var rfl (.int _)) g7.o) g7.o) fun hq => et_test (J := I7) (ad_eqI (ed_ixL (i := left - 1) (ed_var rfl k0) (ad_sub (ed_var rfl (.int _)) ed_int g7.o) g7.o (atI_k (by omega) (by omega))) ed_int g7.o) g7.o) (fun hb8 H8 g8 => ?_) (by omega) fun vs8 I8 H8 g8 hx8 i8 nw8 o8 kv8 => ?_
  · exact ad_tup (ds := [.int (left - 1), .tuple (kept.map PyData.int), .int (left - 1), .int 0]) (ea_cons (ad_sub (ed_var rfl (.int _)) ed_int g8.o) (ea_cons (ed_var rfl k9) (ea_cons (ad_sub (ed_var rfl (.int _)) ed_int g8.o) (ea_cons ed_int ea_nil)))) (by show 4 ≤ 100000; decide)
  have sr8 := sr7.exl hne hx8 i8 nw8
  have kv8 : IsAll I8 vs8 ((movesF ks c (here, kept, left)).map mvD) := by
    have e : (movesF ks c (here, kept, left)).map mvD = (((((List.range c).map fun (slot : Nat) => ((here, cutA kept none (some (slot : Int)) ++ [here] ++ cutA kept (some ((slot : Int) + 1)) none, left, 0) : Mv)).map mvD ++ ((kept.filter fun o => decide (0 ≤ o)).map fun o => ((o, kept, left, 0) : Mv)).map mvD) ++ if decide (here < left) = true then [mvD (here + 1, kept, left, kAt ks here)] else []) ++ if (decide (0 < here) && decide (kAt ks (here - 1) = 0)) = true then [mvD (here - 1, kept, left, 0)] else []) ++ if (decide (here = left - 1) || (decide (here = left) && decide (kAt ks (left - 1) = 0))) = true then [mvD (left - 1, kept, left - 1, 0)] else [] := by
      unfold movesF
      simp only [List.map_append, Bool.and_eq_true, Bool.or_eq_true, decide_eq_true_eq]
      congr 1
      · congr 1
        · congr 1
          split <;> rfl
        · split <;> rfl
      · split <;> rfl
    rw [e]
    exact kv8
  generalize hms : movesF ks c (here, kept, left) = ms at kv8 hmv hnx
  obtain ⟨g9, k12⟩ := o8.lay kv8 g8 hpm0
  have sr9 := sr8.lay (o := .lst vs8) hne o8.i
  have ex28 : Ex I2 I8 := (((a1.trans g45.i).trans i6).trans i7).trans i8
  have ex29 : Ex I2 (upd I8 pm (.lst vs8)) := ex28.trans (Ex.new o8.i)
  generalize (upd I8 pm (.lst vs8) : Hp) = I9 at g9 k12 sr9 ex29
  refine s_forL (I := I9) (ds := ms.map mvD) (ed_var rfl k12) g9.o (fun I2' i σ' H'' => ∃ (I' : Hp) (as2 : List Addr) (y11 y13 y14 y15 y16 : Option V), σ' = seSt v0 c l pb pl at_ (some (.ref y)) (some (.int ((k + 1 : Nat) : Int))) (some (.int here)) (some v9) (some (.int left)) y11 (some (.ref pm)) y13 y14 y15 y16 x17 ∧ Ex I9 I2' ∧ Ex I2' I' ∧ Go I H I' H'' ∧ Sr P w H I' H'' pb pl as2 ((ms.take i).foldl (mvStep at_) s) (n + i) ∧ (∀ (i : Nat) (a : Addr), as[i]? = some a → as2[i]? = some a)) ?_ ?_ ?_ ?_
  · rintro I2' i σ' H'' ⟨I', as2, y11, y13, y14, y15, y16, rfl, b0, b1, b2, b3, b4⟩
    exact b1.trans b2.o
  · intro I2' H2' b1 b2 b3 b4
    exact ⟨I2', as, x11, x13, x14, x15, x16, rfl, b1, Ex.refl _, g9.trans ⟨b1, b4, b2, b3⟩, sr9.go ⟨b1, b4, b2, b3⟩, fun i a h => h⟩
  · rintro I2' i d v σ' H'' c0 hd kx ⟨I', as2, y11, y13, y14, y15, y16, rfl, b0, b1, b2, b3, b4⟩
    obtain ⟨m, hm, rfl⟩ := map_get hd
    obtain ⟨hm1, hm2⟩ := hmv.2 m (List.mem_of_getElem? hm)
    have hil := (List.getElem?_eq_some_iff.mp hm).1
    have hmv1 := hmv.1
    have kx := kx.mono b1
    obtain ⟨m1, m2, m3, m4⟩ := m
    cases kx with
    | @tup p2 zs _ kp2 kz =>
    obtain ⟨w1, w2, w3, w4, rfl, q1, q2, q3, q4⟩ := isAll4 kz
    cases q1
    cases q3
    cases q4
    refine ⟨p2, _, rfl, SqT.of (b2.o _ _ kp2), rfl, _, _, rfl, _, _, rfl, _, _, rfl, _, _, rfl, rfl, ?_⟩
    refine hgood (mv := (m1, m2, m3, m4)) b2 b3 (by omega) ?_ hm1 hm2 q2 fun I3 H3 as3 y16 d1 d2 d3 d4 => ?_
    · rw [← b3.l.n]
      exact (List.getElem?_eq_some_iff.mp (b4 _ _ hy)).1
    · refine ⟨I3, as3, _, _, _, _, y16, rfl, b0, b1.trans d2, d1, ?_, fun i a h => d4 i a (b4 i a h)⟩
      have e : (ms.take (i + 1)).foldl (mvStep at_) s = mvStep at_ ((ms.take i).foldl (mvStep at_) s) (m1, m2, m3, m4) := by
        rw [List.take_add_one, hm, List.foldl_append]
        rfl
      rw [e]
      exact d3
  · rintro I2' σ' H'' c0 ⟨I', as2, y11, y13, y14, y15, y16, rfl, b0, b1, b2, b3, b4⟩
    rw [List.length_map, List.take_length] at b3
    have hmv1 := hmv.1
    exact hnx hb3 hl I' H'' as2 _ _ _ _ _ _ _ _ _ _ b2 ((ex29.trans b0).trans b1) (b3.more (by omega)) b4
end
end K84
namespace K84
open PySem PySem.Spec PyProof.Rows L2 KD NK ND
section
variable {P : Program} {w : World} {K : PySem.W.Frag} {I0 H0 I H : Hp} {σ : L2.St} {D : Ends} {tz : TS} {te ta tb tk : TE}
/-- (x,) * n -/
theorem ed_repT {x n : Int} (ha : Ed ta σ H I (.tuple [.int x])) (hb : Ed tb σ H I (.int n)) (ei : Ex I H) (hn : 1 ≤ n ∧ n ≤ 1000) : Ed (tOp (rRepN K) ta tb) σ H I (.tuple ((List.replicate n.toNat x).map PyData.int)) := fun H1 e b Q q =>
  ha H1 e b _ fun v I2 H2 a1 a2 a3 nw k => hb.int ei H2 (e.trans a2) _ fun H3 e3 => by
    cases k with
    | @tup l xs _ ka kb =>
      obtain ⟨y, rfl, ky⟩ := isAll1 kb
      cases ky
      have e1 : (List.replicate n.toNat [V.int x]).flatten = (List.replicate n.toNat x).map V.int := by
        rw [List.map_replicate]
        generalize n.toNat = m
        induction m with
        | zero => rfl
        | succ m ih => rw [List.replicate_succ, List.flatten_cons, ih, List.replicate_succ]; rfl
      refine ⟨l, n, [.int x], rfl, rfl, SqT.of (e3 _ _ (a3 _ _ ka)), by simp, hn.1, hn.2, by show 1 ≤ 1000; decide, fun z => ?_, fun z p hp => ?_⟩
      · subst z
        exact q _ I2 H3 a1 (a2.trans e3) (a3.trans e3) nw (.tup ka kb)
      · have fr := (a3.trans e3).free hp
        rw [e1]
        refine q _ (upd I2 p (.tup ((List.replicate n.toNat x).map V.int))) _ (a1.trans (Ex.new fr)) ((a2.trans e3).trans (Ex.new hp)) (a3.trans e3).both (nw.lay (a2.trans e3) hp) (.tup upd_same (isAll_ints _))
theorem q_start {i j l : Nat} {kk : K3} (g : Go I0 H0 I H) (hk : ∀ H1, Ex H H1 → ∀ I1, Ex I I1 → Ex I1 H1 → Ed tk σ H1 I1 (k3D kk))
    (k : ∀ (pb pl p1 : Addr) (I2 H2 : Hp), Go I0 H0 I2 H2 → Sr P w H0 I2 H2 pb pl [p1] (fPut (fun _ => none) kk 0, [[kk]]) 1 → tz D (((σ.set i (some (.ref pb))).set j (some (.ref pl))).set l (some (.int 0))) H2) :
    tSeq (tPar3 i j l (tCons (tNDisp P w tk (tC (.int 0))) (tCons (tLst (tCons (tLst (tCons tk tNil)) tNil)) (tCons (tC (.int 0)) tNil)))) tz D σ H := fun pb hpb => by
  have hpI : I pb = none := g.o.free hpb
  have hpH : H0 pb = none := g.h.free hpb
  refine hk _ (Ex.new hpb) I (Ex.refl _) (g.o.mut hpI) _ (Ex.refl _) (g.o.mut hpI) _ fun y I1 H1 a1 a2 a3 nw ky => ?_
  obtain ⟨b, rfl⟩ : ∃ b, y = .ref b := by
    cases ky with
    | tup _ _ => exact ⟨_, rfl⟩
  have hd1 : H1 pb = some (NDo P w pb []) := a2 _ _ upd_same
  have hI1 : I1 pb = none := nw.none upd_same hpI
  refine ⟨b, kk, rfl, hd1, keyAt_ex (keyAt_of ky) a3, ?_⟩
  -- the dict stands
  generalize hH2 : upd H1 pb (NDo P w pb [(kk, b, V.int 0)]) = H2
  have e02 : Ex H H2 := by
    rw [← hH2]
    exact ((Ex.new hpb).trans a2).mut hpb
  have o2 : Ex I1 H2 := by
    rw [← hH2]
    exact a3.mut hI1
  have hd2 : H2 pb = some (NDo P w pb [(kk, b, V.int 0)]) := by rw [← hH2]; exact upd_same
  have nw2 : New I H I1 := fun p o h => by
    rcases nw p o h with z | z
    · exact .inl z
    · right
      by_cases q : p = pb
      · subst q; exact hpb
      · rw [upd_ne q] at z; exact z
  have g2 : Go I0 H0 I1 H2 := g.trans ⟨a1, nw2, e02, o2⟩
  -- the row
  refine hk H2 e02 I1 a1 o2 H2 (Ex.refl _) o2 _ fun y2 I3 H3 b1 b2 b3 nw3 ky2 => ?_
  refine ⟨(by show 1 ≤ sizeLine; decide), fun p1 hp1 => ⟨(by show 1 ≤ sizeLine; decide), fun pl hpl => ⟨.ref pb, .ref pl, .int 0, rfl, ?_⟩⟩⟩
  have n1 : p1 ≠ pl := ne_of_none (upd_same (H := H3) (a := p1) (o := .lst [y2])) hpl
  have hp1' : H2 p1 = none := b2.free hp1
  have hpl3 : H3 pl = none := by
    have := hpl
    rw [upd_ne n1.symm] at this
    exact this
  have d3 : H3 pb = some (NDo P w pb [(kk, b, V.int 0)]) := b2 _ _ hd2
  have npb1 : pb ≠ p1 := ne_of_none d3 hp1
  have npbl : pb ≠ pl := ne_of_none d3 hpl3
  have I3b : I3 pb = none := nw3.none hd2 hI1
  have g4 : Go I0 H0 I3 (upd (upd H3 p1 (.lst [y2])) pl (.lst [.ref p1])) := ((g2.trans ⟨b1, nw3, b2, b3⟩).step (Ex.new hp1)).step (Ex.new hpl)
  refine k pb pl p1 I3 _ g4 ⟨⟨[(kk, b, .int 0)], by rw [upd_ne npbl, upd_ne npb1]; exact d3, fun k2 => ?_, fun p hp => ?_, Nat.le_refl _⟩, I3b, hpH, ⟨⟨b3.free hpl3, upd_same⟩, (g2.h.trans b2).free hpl3, rfl, (by simp), (fun x hx => by rw [List.mem_singleton] at hx; subst hx; exact n1), fun i x r h1 h2 => ?_⟩, npbl, (fun x hx => by rw [List.mem_singleton] at hx; subst hx; exact npb1.symm), Nat.le_refl _, fun r hr => by rw [List.mem_singleton] at hr; subst hr; exact Nat.le_refl _⟩
  · rw [nget_cons]
    unfold fPut
    dsimp only
    by_cases q : k2 = kk
    · rw [if_pos q.symm, if_pos q]; rfl
    · rw [if_neg (fun z => q z.symm), if_neg q]; rfl
  · rw [List.mem_singleton] at hp
    subst hp
    exact keyAt_ex (keyAt_of ky) b1 |> fun z => z
  · cases i with
    | zero =>
      cases h1
      cases h2
      refine ⟨(g2.h.trans b2).free hp1, [y2], ⟨b3.free hp1, by rw [upd_ne n1, upd_same]⟩, .cons ky2 .nil⟩
    | succ i => cases h1
end
def Ssea (ks : List Int) (c : Nat) (r : Int) : Prop := KsOk ks ∧ 1 ≤ c ∧ c ≤ 2 ∧ seaF ks c = some r
section
variable {P : Program} {w : World} {K : PySem.W.Frag} {mg : Str → Option Value} {base : Heap} {C : Addr}
theorem ok__law_searched (T : Txt K mg C) (F : Fn K mg "_law_searched" s__law_searched) : CSEA P w K mg base Ssea := by
  refine cal_mk F sc__law_searched (fun _ _ _ _ _ _ us hl => match us, hl with | [_, _], _ => rfl) (fun vs H Q E h => spOf_len (n := 2) (fun _ => rfl) h) (fun f cdv A outer s H vs Q E hr h => ?_)
  obtain ⟨⟨ks, c, r⟩, I, e, k, ⟨hk, hc1, hc2, hs⟩, q⟩ := spOf_out h
  dsimp only at k hk hc1 hc2 hs q
  obtain ⟨v0, v2, rfl, kv0, k2⟩ := isAll2 k
  cases k2
  have hu61 : (A.deeper (envOfC "_law_searched" (defScope s__law_searched) s.heap.objs.size f cdv)).units + 61 < cLine := by
    have := hr.un
    omega
  obtain ⟨tb, hb, hgood⟩ := sea_in (P := P) (w := w) (mg := mg) (base := base) T f cdv A outer s H E hu61
  refine ⟨_, (pss_cons (ps_set (i := 2) sc__law_searched.nd rfl (Or.inl rfl) (pe_callB call_len_seq (by rfl) T.b_len (by decide +kernel) (pa_cons (pv 0) pa_nil))) (pss_cons (ps_par3 (i := 3) (j := 4) (l := 5) (by rfl) sc__law_searched.nd rfl rfl rfl (by decide) (by decide) (by decide) rfl rfl rfl (pa_cons (pe_ndisp hu61 (pe_tup (pa_cons pe_int (pa_cons (pe_op op_repN (pe_tup (pa_cons (pe_un un_neg pe_int) pa_nil)) (pv 1)) (pa_cons (pv 2) pa_nil)))) pe_int) (pa_cons (pe_lst (pa_cons (pe_lst (pa_cons (pe_tup (pa_cons pe_int (pa_cons (pe_op op_repN (pe_tup (pa_cons (pe_un un_neg pe_int) pa_nil)) (pv 1)) (pa_cons (pv 2) pa_nil)))) pa_nil)) pa_nil)) (pa_cons pe_int pa_nil))) (by rfl)) (pss_cons (ps_while PassesOwn.never (pt_cmpR op_lt (pv 5) (pe_callB call_len_seq (by rfl) T.b_len (by decide +kernel) (pa_cons (pv 4) pa_nil)) (nomark _)) (pss_cons (ps_par (i := 6) (j := 7) (by rfl) sc__law_searched.nd rfl rfl (by decide) rfl rfl (pa_cons (pe_ix ix_list (pv 4) (pv 5) (fun _ _ => rfl)) (pa_cons pe_int pa_nil)) (by rfl)) (pss_cons (ps_while PassesOwn.never (pt_cmpR op_lt (pv 7) (pe_callB call_len_seq (by rfl) T.b_len (by decide +kernel) (pa_cons (pv 6) pa_nil)) (nomark _)) hb) (pss_one (ps_set (i := 5) sc__law_searched.nd rfl (Or.inl rfl) (pe_op op_add (pv 5) pe_int)))))) (pss_one (ps_ret pe_non))))), ?_⟩
  refine q_int (Go.refl e) (n := (ks.length : Int)) (Ed.is (ed_lenL (I := I) (ed_var rfl kv0) e) (by rw [List.length_map])) fun H1 g1 e1 => ?_
  refine q_start (kk := k0 ks c) g1 (fun H2 e2 I2 i2 o2 => ad_tup (ds := [.int 0, .tuple ((List.replicate c (-1)).map PyData.int), .int (ks.length : Int)]) (ea_cons ed_int (ea_cons (Ed.is (ed_repT (x := -1) (n := (c : Int)) (ad_tup (ds := [.int (-1)]) (ea_cons (ad_neg ed_int o2) ea_nil) (by show 1 ≤ 100000; decide)) (ed_var rfl (.int _)) o2 (by omega)) (by rw [Int.toNat_natCast])) (ea_cons (ed_var rfl (.int _)) ea_nil))) (by show 3 ≤ 100000; decide)) fun pb pl p1 I2 H2 g2 sr2 => ?_
  have hgo : seaGo ks c 400 (fPut (fun _ => none) (k0 ks c) 0, [[k0 ks c]]) 0 0 = some r := hs
  refine q_while (fun m σ' H' => ∃ (at_ : Nat) (s : BF × List (List K3)) (n : Nat) (I3 : Hp) (as : List Addr) (x6 x7 x8 x9 x10 x11 x12 x13 x14 x15 x16 x17 : Option V), σ' = seSt v0 c (ks.length : Int) pb pl at_ x6 x7 x8 x9 x10 x11 x12 x13 x14 x15 x16 x17 ∧ Go I H I3 H' ∧ Sr P w H I3 H' pb pl as s n ∧ n + 20 * m ≤ 9000 ∧ seaGo ks c m s at_ 0 = some r) 400 ⟨0, _, 1, I2, [p1], none, none, none, none, none, none, none, none, none, none, none, none, rfl, g2, sr2, by decide, hgo⟩ ?_
  rintro m σ' H' ⟨at_, ⟨best, lv⟩, n, I3, as, x6, x7, x8, x9, x10, x11, x12, x13, x14, x15, x16, x17, rfl, g, sr, hn, hm⟩
  have hlen := sr.l.n
  dsimp only at hlen
  have hat : at_ < as.length := by
    cases m with
    | zero => cases hm
    | succ m =>
      unfold seaGo at hm
      cases q1 : lv[at_]? with
      | none => rw [q1] at hm; cases hm
      | some row =>
        have := (List.getElem?_eq_some_iff.mp q1).1
        omega
  refine ⟨decide ((at_ : Int) < (as.length : Int)), et_test (J := I3) (ad_lt (ed_var rfl (.int _)) (Ed.is (ed_lenOwn sr.l.o.h (ev_var rfl)) (by rw [List.length_map])) g.o) g.o, fun _ H4 e4 => ?_, fun hb4 H4 e4 => ?_⟩
  · have sr4 := sr.step e4 g.o
    have g4 := g.step e4
    have hy := List.getElem?_eq_getElem hat
    generalize as[at_] = y at hy
    -- row, k
    refine (ev_ixOwn (K := K) sr4.l.o.h (ev_var rfl) (ev_var rfl) (atI_ref rfl hy)) H4 (Ex.refl _) _ fun H5 e5 => ⟨_, _, rfl, ?_⟩
    have sr5 := sr4.step e5 g4.o
    have g5 := g4.step e5
    refine q_while (fun m' σ'' H'' => m' ≤ m ∧ ∃ (k : Nat) (s : BF × List (List K3)) (n : Nat) (I4 : Hp) (as : List Addr) (x8 x9 x10 x11 x12 x13 x14 x15 x16 x17 : Option V), σ'' = seSt v0 c (ks.length : Int) pb pl at_ (some (.ref y)) (some (.int (k : Int))) x8 x9 x10 x11 x12 x13 x14 x15 x16 x17 ∧ Go I H I4 H'' ∧ Sr P w H I4 H'' pb pl as s n ∧ n + 20 * m' ≤ 9000 ∧ as[at_]? = some y ∧ seaGo ks c m' s at_ k = some r) m ⟨Nat.le_refl _, 0, _, n, I3, as, x8, x9, x10, x11, x12, x13, x14, x15, x16, x17, rfl, g5, sr5, hn, hy, hm⟩ ?_
    rintro m' σ'' H6 ⟨hmm, k, ⟨best2, lv2⟩, n2, I6, as6, y8, y9, y10, y11, y12, y13, y14, y15, y16, y17, rfl, g6, sr6, hn6, hy6, hm6⟩
    cases m' with
    | zero => cases hm6
    | succ f' =>
      unfold seaGo at hm6
      have hl6 := sr6.l.n
      dsimp only at hl6
      have hat6 : at_ < lv2.length := by
        have := (List.getElem?_eq_some_iff.mp hy6).1
        omega
      have hrow := List.getElem?_eq_getElem hat6
      generalize lv2[at_] = row at hrow
      rw [hrow] at hm6
      dsimp only at hm6
      obtain ⟨_, xs, oy, ky⟩ := sr6.l.row at_ y row hy6 hrow
      have hxl : xs.length = row.length := by rw [ky.length, List.length_map]
      refine ⟨decide ((k : Int) < (row.length : Int)), et_test (J := I6) (ad_lt (ed_var rfl (.int _)) (Ed.is (ed_lenOwn oy.h (ev_var rfl)) (by rw [hxl])) g6.o) g6.o, fun hb7 H7 e7 => ?_, fun hb7 H7 e7 => ?_⟩
      · have hkl : k < row.length := by
          have := of_decide_eq_true hb7
          omega
        have hkey := List.getElem?_eq_getElem hkl
        generalize row[k] = key at hkey
        rw [hkey] at hm6
        dsimp only at hm6
        cases hok : okK ks.length key with
        | false => rw [hok] at hm6; cases hm6
        | true =>
          rw [hok] at hm6
          dsimp only at hm6
          cases hbk : best2 key with
          | none => rw [hbk] at hm6; cases hm6
          | some b =>
            rw [hbk] at hm6
            dsimp only at hm6
            refine hgood (s := (best2, lv2)) (g6.step e7) (sr6.step e7 g6.o) (by omega) hrow hkey hy6 hok hbk (kv0.mono g6.i) hk.2.2 hk.2.1 hc2 (fun hlt I8 H8 z8 z9 z10 z11 z12 z13 z14 z15 z16 z17 g8 i8 sr8 => ?_) (fun hlt hz I8 H8 g8 => ?_) fun hlt hz I8 H8 as8 z8 z9 z10 z11 z12 z13 z14 z15 z16 z17 g8 i8 sr8 hpre => ?_
            · rw [if_pos hlt] at hm6
              exact ⟨f', by omega, by omega, k + 1, _, n2, I8, as6, z8, z9, z10, z11, z12, z13, z14, z15, z16, z17, rfl, g8, sr8, by omega, hy6, hm6⟩
            · rw [if_neg hlt, if_pos hz] at hm6
              cases hm6
              exact q _ I8 H8 g8.i g8.h g8.o g8.n (.int _)
            · rw [if_neg hlt, if_neg hz] at hm6
              exact ⟨f', by omega, by omega, k + 1, _, n2 + 20, I8, as8, z8, z9, z10, z11, z12, z13, z14, z15, z16, z17, rfl, g8, sr8, by omega, hpre _ _ hy6, hm6⟩
      · have hkl : ¬ k < row.length := by
          have := of_decide_eq_false hb7
          omega
        rw [List.getElem?_eq_none (by omega)] at hm6
        dsimp only at hm6
        refine g_int (g6.step e7) (n := ((at_ + 1 : Nat) : Int)) (Ed.is (ad_add (ed_var rfl (.int _)) ed_int (g6.step e7).o) (by rfl)) fun H8 g8 e8 => ?_
        exact ⟨f', by omega, at_ + 1, _, n2, I6, as6, _, _, _, _, _, _, _, _, _, _, _, _, rfl, g8, (sr6.step e7 g6.o).step e8 (g6.step e7).o, by omega, hm6⟩
  · exfalso
    have := of_decide_eq_false hb4
    omega
end
end K84
set_option maxHeartbeats 0
namespace K84
open PySem PySem.Spec PyProof.Rows L2 KD
def d_is_integer : He.DefD := ⟨("is_integer", none), "is_integer", "is_integer", defArgs s_is_integer, defBody s_is_integer, defScope s_is_integer, [], []⟩
def d_is_between : He.DefD := ⟨("is_between", none), "is_between", "is_between", defArgs s_is_between, defBody s_is_between, defScope s_is_between, [], []⟩
def d_is_list : He.DefD := ⟨("is_list", none), "is_list", "is_list", defArgs s_is_list, defBody s_is_list, defScope s_is_list, [], []⟩
def d_is_word : He.DefD := ⟨("is_word", none), "is_word", "is_word", defArgs s_is_word, defBody s_is_word, defScope s_is_word, [], []⟩
def d_are_costs : He.DefD := ⟨("are_costs", none), "are_costs", "are_costs", defArgs s_are_costs, defBody s_are_costs, defScope s_are_costs, [], []⟩
def d_check_costs : He.DefD := ⟨("check_costs", none), "check_costs", "check_costs", defArgs s_check_costs, defBody s_check_costs, defScope s_check_costs, [], []⟩
def d_check_slots : He.DefD := ⟨("check_slots", none), "check_slots", "check_slots", defArgs s_check_slots, defBody s_check_slots, defScope s_check_slots, [], []⟩
def d_is_command : He.DefD := ⟨("is_command", none), "is_command", "is_command", defArgs s_is_command, defBody s_is_command, defScope s_is_command, [], []⟩
def d_are_commands : He.DefD := ⟨("are_commands", none), "are_commands", "are_commands", defArgs s_are_commands, defBody s_are_commands, defScope s_are_commands, [], []⟩
def d_walked : He.DefD := ⟨("walked", none), "walked", "walked", defArgs s_walked, defBody s_walked, defScope s_walked, [], []⟩
def d_walk_of : He.DefD := ⟨("walk_of", none), "walk_of", "walk_of", defArgs s_walk_of, defBody s_walk_of, defScope s_walk_of, [], []⟩
def d_is_schedule : He.DefD := ⟨("is_schedule", none), "is_schedule", "is_schedule", defArgs s_is_schedule, defBody s_is_schedule, defScope s_is_schedule, [], []⟩
def d_schedule_cost : He.DefD := ⟨("schedule_cost", none), "schedule_cost", "schedule_cost", defArgs s_schedule_cost, defBody s_schedule_cost, defScope s_schedule_cost, [], []⟩
def d_lone_row : He.DefD := ⟨("lone_row", none), "lone_row", "lone_row", defArgs s_lone_row, defBody s_lone_row, defScope s_lone_row, [], []⟩
def d_split_costs : He.DefD := ⟨("split_costs", none), "split_costs", "split_costs", defArgs s_split_costs, defBody s_split_costs, defScope s_split_costs, [], []⟩
def d_table_of : He.DefD := ⟨("table_of", none), "table_of", "table_of", defArgs s_table_of, defBody s_table_of, defScope s_table_of, [], []⟩
def d_least_cost : He.DefD := ⟨("least_cost", none), "least_cost", "least_cost", defArgs s_least_cost, defBody s_least_cost, defScope s_least_cost, [], []⟩
def d_lone_commands : He.DefD := ⟨("lone_commands", none), "lone_commands", "lone_commands", defArgs s_lone_commands, defBody s_lone_commands, defScope s_lone_commands, [], []⟩
def d_schedule_of : He.DefD := ⟨("schedule_of", none), "schedule_of", "schedule_of", defArgs s_schedule_of, defBody s_schedule_of, defScope s_schedule_of, [], []⟩
def d_best_schedule : He.DefD := ⟨("best_schedule", none), "best_schedule", "best_schedule", defArgs s_best_schedule, defBody s_best_schedule, defScope s_best_schedule, [], []⟩
def d_choices : He.DefD := ⟨("choices", none), "choices", "choices", defArgs s_choices, defBody s_choices, defScope s_choices, [], []⟩
def d_least_runs : He.DefD := ⟨("least_runs", none), "least_runs", "least_runs", defArgs s_least_runs, defBody s_least_runs, defScope s_least_runs, [], []⟩
def d_alike_in : He.DefD := ⟨("alike_in", none), "alike_in", "alike_in", defArgs s_alike_in, defBody s_alike_in, defScope s_alike_in, [], []⟩
def d_check_kinds : He.DefD := ⟨("check_kinds", none), "check_kinds", "check_kinds", defArgs s_check_kinds, defBody s_check_kinds, defScope s_check_kinds, [], []⟩
def d_undo_walk : He.DefD := ⟨("undo_walk", none), "undo_walk", "undo_walk", defArgs s_undo_walk, defBody s_undo_walk, defScope s_undo_walk, [], []⟩
def d_is_undo_schedule : He.DefD := ⟨("is_undo_schedule", none), "is_undo_schedule", "is_undo_schedule", defArgs s_is_undo_schedule, defBody s_is_undo_schedule, defScope s_is_undo_schedule, [], []⟩
def d_undo_count : He.DefD := ⟨("undo_count", none), "undo_count", "undo_count", defArgs s_undo_count, defBody s_undo_count, defScope s_undo_count, [], []⟩
def d_places_of : He.DefD := ⟨("places_of", none), "places_of", "places_of", defArgs s_places_of, defBody s_places_of, defScope s_places_of, [], []⟩
def d_least_count : He.DefD := ⟨("least_count", none), "least_count", "least_count", defArgs s_least_count, defBody s_least_count, defScope s_least_count, [], []⟩
def d_unit_turned : He.DefD := ⟨("unit_turned", none), "unit_turned", "unit_turned", defArgs s_unit_turned, defBody s_unit_turned, defScope s_unit_turned, [], []⟩
def d_moved : He.DefD := ⟨("moved", none), "moved", "moved", defArgs s_moved, defBody s_moved, defScope s_moved, [], []⟩
def d_undoing_of : He.DefD := ⟨("undoing_of", none), "undoing_of", "undoing_of", defArgs s_undoing_of, defBody s_undoing_of, defScope s_undoing_of, [], []⟩
def d_best_undoing : He.DefD := ⟨("best_undoing", none), "best_undoing", "best_undoing", defArgs s_best_undoing, defBody s_best_undoing, defScope s_best_undoing, [], []⟩
def d__law_cell : He.DefD := ⟨("_law_cell", none), "_law_cell", "_law_cell", defArgs s__law_cell, defBody s__law_cell, defScope s__law_cell, [], []⟩
def d__law_box : He.DefD := ⟨("_law_box", none), "_law_box", "_law_box", defArgs s__law_box, defBody s__law_box, defScope s__law_box, [], []⟩
def d__law_take : He.DefD := ⟨("_law_take", none), "_law_take", "_law_take", defArgs s__law_take, defBody s__law_take, defScope s__law_take, [], []⟩
def d__law_same : He.DefD := ⟨("_law_same", none), "_law_same", "_law_same", defArgs s__law_same, defBody s__law_same, defScope s__law_same, [], []⟩
def d__law_alike_cost : He.DefD := ⟨("_law_alike_cost", none), "_law_alike_cost", "_law_alike_cost", defArgs s__law_alike_cost, defBody s__law_alike_cost, defScope s__law_alike_cost, [], []⟩
def d__law_due : He.DefD := ⟨("_law_due", none), "_law_due", "_law_due", defArgs s__law_due, defBody s__law_due, defScope s__law_due, [], []⟩
def d__law_walked : He.DefD := ⟨("_law_walked", none), "_law_walked", "_law_walked", defArgs s__law_walked, defBody s__law_walked, defScope s__law_walked, [], []⟩
def d__law_searched : He.DefD := ⟨("_law_searched", none), "_law_searched", "_law_searched", defArgs s__law_searched, defBody s__law_searched, defScope s__law_searched, [], []⟩
def d__law_slow : He.DefD := ⟨("_law_slow", none), "_law_slow", "_law_slow", defArgs s__law_slow, defBody s__law_slow, defScope s__law_slow, [], []⟩
def d__law_near : He.DefD := ⟨("_law_near", none), "_law_near", "_law_near", defArgs s__law_near, defBody s__law_near, defScope s__law_near, [], []⟩
def d__law_kinds_right : He.DefD := ⟨("_law_kinds_right", none), "_law_kinds_right", "_law_kinds_right", defArgs s__law_kinds_right, defBody s__law_kinds_right, defScope s__law_kinds_right, [], []⟩
def d__law_plain_right : He.DefD := ⟨("_law_plain_right", none), "_law_plain_right", "_law_plain_right", defArgs s__law_plain_right, defBody s__law_plain_right, defScope s__law_plain_right, [], []⟩
def d_law : He.DefD := ⟨("law", none), "law", "law", defArgs s_law, defBody s_law, defScope s_law, [], []⟩
def d_Walk___init__ : He.DefD := ⟨("Walk", some "__init__"), "__init__", "Walk.__init__", defArgs s_Walk___init__, defBody s_Walk___init__, defScope s_Walk___init__, [], []⟩
def d_Walk_does_turn : He.DefD := ⟨("Walk", some "does_turn"), "does_turn", "Walk.does_turn", defArgs s_Walk_does_turn, defBody s_Walk_does_turn, defScope s_Walk_does_turn, [], []⟩
def d_Walk_does_move : He.DefD := ⟨("Walk", some "does_move"), "does_move", "Walk.does_move", defArgs s_Walk_does_move, defBody s_Walk_does_move, defScope s_Walk_does_move, [], []⟩
def d_Walk_does : He.DefD := ⟨("Walk", some "does"), "does", "Walk.does", defArgs s_Walk_does, defBody s_Walk_does, defScope s_Walk_does, [], []⟩
def fn : List He.DefD := [d_is_integer, d_is_between, d_is_list, d_is_word, d_are_costs, d_check_costs, d_check_slots, d_is_command, d_are_commands, d_walked, d_walk_of, d_is_schedule, d_schedule_cost, d_lone_row, d_split_costs, d_table_of, d_least_cost, d_lone_commands, d_schedule_of, d_best_schedule, d_choices, d_least_runs, d_alike_in, d_check_kinds, d_undo_walk, d_is_undo_schedule, d_undo_count, d_places_of, d_least_count, d_unit_turned, d_moved, d_undoing_of, d_best_undoing, d__law_cell, d__law_box, d__law_take, d__law_same, d__law_alike_cost, d__law_due, d__law_walked, d__law_searched, d__law_slow, d__law_near, d__law_kinds_right, d__law_plain_right, d_law, d_Walk___init__, d_Walk_does_turn, d_Walk_does_move, d_Walk_does]
def fa0 : List He.Fa := [.glo "is_integer", .glo "is_between", .glo "is_list", .glo "is_word", .glo "are_costs", .glo "check_costs", .glo "check_slots", .glo "is_command", .glo "are_commands", .glo "walked", .glo "walk_of", .glo "is_schedule", .glo "schedule_cost", .glo "lone_row", .glo "split_costs", .glo "table_of", .glo "least_cost", .glo "lone_commands", .glo "schedule_of", .glo "best_schedule", .glo "choices", .glo "least_runs", .glo "alike_in", .glo "check_kinds", .glo "undo_walk", .glo "is_undo_schedule", .glo "undo_count", .glo "places_of", .glo "least_count", .glo "unit_turned", .glo "moved", .glo "undoing_of", .glo "best_undoing", .glo "_law_cell", .glo "_law_box", .glo "_law_take", .glo "_law_same", .glo "_law_alike_cost", .glo "_law_due", .glo "_law_walked"]
def fa1 : List He.Fa := [.glo "_law_searched", .glo "_law_slow", .glo "_law_near", .glo "_law_kinds_right", .glo "_law_plain_right", .glo "law", .glo "Walk", .free "isinstance", .free "all", .free "sum", .free "range", .free "len", .free "bool", .free "int", .free "str", .free "dict", .free "list", .free "tuple", .free "abs", .free "max", .free "enumerate", .free "min", .free "sorted", .int "MOST_ROUNDS" 60, .int "MOST_COST" 1000000, .int "MOST_SLOTS" 40, .int "MOST_COMMANDS" 4000, .str "KEEP" "keep", .str "TAKE" "take", .str "RUN" "run", .str "TURN" "turn", .str "UNDO" "undo", .cls "Walk", .mkr "Walk", .meth "Walk" "does_turn", .meth "Walk" "does_move", .meth "Walk" "does", .noat "Walk" "kinds", .noat "Walk" "here", .noat "Walk" "left"]
def fa2 : List He.Fa := [.noat "Walk" "slots", .noat "Walk" "runs"]
def fa : List He.Fa := fa0 ++ fa1 ++ fa2
def nm0 : List Str := ["DiffError", "InvalidCosts", "InvalidKinds", "InvalidSchedule", "InvalidSlots", "is_integer", "is_between", "is_list", "is_word", "MOST_ROUNDS", "MOST_COST", "MOST_SLOTS", "MOST_COMMANDS", "KEEP", "TAKE", "RUN", "TURN", "UNDO", "are_costs", "check_costs", "check_slots", "is_command", "are_commands", "Walk", "walked", "walk_of", "is_schedule", "schedule_cost", "lone_row", "split_costs"]
def nm1 : List Str := ["table_of", "least_cost", "lone_commands", "schedule_of", "best_schedule", "choices", "least_runs", "alike_in", "check_kinds", "undo_walk", "is_undo_schedule", "undo_count", "places_of", "least_count", "unit_turned", "moved", "undoing_of", "best_undoing", "_law_cell", "_law_box", "_law_take", "_law_same", "_law_alike_cost", "_law_due", "_law_walked", "_law_searched", "_law_slow", "_law_near", "_law_kinds_right", "_law_plain_right"]
def nm : List Str := nm0 ++ nm1
abbrev R : PySem.W.OpenRow := PySem.W.OpenLaw.row PySem.Challenge.rw_diffcompiler_k84_undo_schedules_against
abbrev hk : PySem.W.Hook := He.hookD 6 fa fn
def ob (s : PySem.W.SharedT) : He.AlD := He.obsDG 6 fa fn (HandSHeadRun.getT s)
theorem ob_eq (s : PySem.W.SharedT) : ob s = hk.obs s.abs := He.obsDG_eq (HandSHeadRun.getT_eq s)
theorem run (w : World) : HandSHeadRun.RunEq R (PySem.W.view R.prog [66]) hk ob 12000 nm w := by
  intro os
  kernel_rfl
theorem fd_one {K : PySem.W.Frag} {x qual : Str} {params : Arguments} {body : List Stmt} {scope : Scope} {f : Addr} {fd fd2 : FuncData} (a : FunD K x qual params body scope [] [] f fd) (b : FunD K x qual params body scope [] [] f fd2) : fd2 = fd := by
  obtain ⟨_, _, _, _, _, _, _, _, _, _, _, l1, _⟩ := a.ex
  obtain ⟨_, _, _, _, _, _, _, _, _, _, _, l2, _⟩ := b.ex
  rw [l1] at l2
  cases l2
  rfl
theorem txt {K : PySem.W.Frag} {h : Heap} {mg : Str → Option Value} (X : K.In h) (G : h.Ns mainGlobals mg) (c : He.SaysD fa fn K) : Txt K mg (He.ga K "Walk") where
  b_isinstance := He.free_ok X G (c.fact 47 (f := .free "isinstance") rfl)
  b_all := He.free_ok X G (c.fact 48 (f := .free "all") rfl)
  b_sum := He.free_ok X G (c.fact 49 (f := .free "sum") rfl)
  b_range := He.free_ok X G (c.fact 50 (f := .free "range") rfl)
  b_len := He.free_ok X G (c.fact 51 (f := .free "len") rfl)
  b_bool := He.free_ok X G (c.fact 52 (f := .free "bool") rfl)
  b_int := He.free_ok X G (c.fact 53 (f := .free "int") rfl)
  b_str := He.free_ok X G (c.fact 54 (f := .free "str") rfl)
  b_dict := He.free_ok X G (c.fact 55 (f := .free "dict") rfl)
  b_list := He.free_ok X G (c.fact 56 (f := .free "list") rfl)
  b_tuple := He.free_ok X G (c.fact 57 (f := .free "tuple") rfl)
  b_abs := He.free_ok X G (c.fact 58 (f := .free "abs") rfl)
  b_max := He.free_ok X G (c.fact 59 (f := .free "max") rfl)
  b_enumerate := He.free_ok X G (c.fact 60 (f := .free "enumerate") rfl)
  b_min := He.free_ok X G (c.fact 61 (f := .free "min") rfl)
  b_sorted := He.free_ok X G (c.fact 62 (f := .free "sorted") rfl)
  k_MOST_ROUNDS := by
    obtain ⟨t, e⟩ := He.int_ok X G (c.fact 63 (f := .int "MOST_ROUNDS" 60) rfl)
    exact ⟨_, e, t, rfl⟩
  k_MOST_COST := by
    obtain ⟨t, e⟩ := He.int_ok X G (c.fact 64 (f := .int "MOST_COST" 1000000) rfl)
    exact ⟨_, e, t, rfl⟩
  k_MOST_SLOTS := by
    obtain ⟨t, e⟩ := He.int_ok X G (c.fact 65 (f := .int "MOST_SLOTS" 40) rfl)
    exact ⟨_, e, t, rfl⟩
  k_MOST_COMMANDS := by
    obtain ⟨t, e⟩ := He.int_ok X G (c.fact 66 (f := .int "MOST_COMMANDS" 4000) rfl)
    exact ⟨_, e, t, rfl⟩
  k_KEEP := by
    obtain ⟨t, e⟩ := He.str_ok X G (c.fact 67 (f := .str "KEEP" "keep") rfl)
    exact ⟨_, e, t, rfl⟩
  k_TAKE := by
    obtain ⟨t, e⟩ := He.str_ok X G (c.fact 68 (f := .str "TAKE" "take") rfl)
    exact ⟨_, e, t, rfl⟩
  k_RUN := by
    obtain ⟨t, e⟩ := He.str_ok X G (c.fact 69 (f := .str "RUN" "run") rfl)
    exact ⟨_, e, t, rfl⟩
  k_TURN := by
    obtain ⟨t, e⟩ := He.str_ok X G (c.fact 70 (f := .str "TURN" "turn") rfl)
    exact ⟨_, e, t, rfl⟩
  k_UNDO := by
    obtain ⟨t, e⟩ := He.str_ok X G (c.fact 71 (f := .str "UNDO" "undo") rfl)
    exact ⟨_, e, t, rfl⟩
  cl := He.cls_ok (c.fact 72 (f := .cls "Walk") rfl)
  n_kinds := He.noat_ok (c.fact 77 (f := .noat "Walk" "kinds") rfl)
  n_here := He.noat_ok (c.fact 78 (f := .noat "Walk" "here") rfl)
  n_left := He.noat_ok (c.fact 79 (f := .noat "Walk" "left") rfl)
  n_slots := He.noat_ok (c.fact 80 (f := .noat "Walk" "slots") rfl)
  n_runs := He.noat_ok (c.fact 81 (f := .noat "Walk" "runs") rfl)
theorem facts {P : Program} {w : World} {K : PySem.W.Frag} {h : Heap} {mg : Str → Option Value} {f : Addr} (X : K.In h) (G : h.Ns mainGlobals mg) (hfa : mg ("law" : Str) = some (.ref f)) (c : He.SaysD fa fn K) :
    ∃ fd : FuncData, (∀ (s : Shared) (v : Value), BindsTo s fd ⟨[v], []⟩ [("script", v)]) ∧ ∀ base : Heap, K.In base → base.Ns mainGlobals mg → FnOk P w K mg base CX0 8 f fd ["script"] (spLaw K) := by
  have T := txt X G c
  have F_is_integer : Fn K mg "is_integer" s_is_integer := by
    obtain ⟨fd, F⟩ := c.def_ 0 (d := d_is_integer) rfl
    exact ⟨_, fd, F, He.glo_ok X G (c.fact 0 (f := .glo "is_integer") rfl)⟩
  have F_is_between : Fn K mg "is_between" s_is_between := by
    obtain ⟨fd, F⟩ := c.def_ 1 (d := d_is_between) rfl
    exact ⟨_, fd, F, He.glo_ok X G (c.fact 1 (f := .glo "is_between") rfl)⟩
  have F_is_list : Fn K mg "is_list" s_is_list := by
    obtain ⟨fd, F⟩ := c.def_ 2 (d := d_is_list) rfl
    exact ⟨_, fd, F, He.glo_ok X G (c.fact 2 (f := .glo "is_list") rfl)⟩
  have F_is_word : Fn K mg "is_word" s_is_word := by
    obtain ⟨fd, F⟩ := c.def_ 3 (d := d_is_word) rfl
    exact ⟨_, fd, F, He.glo_ok X G (c.fact 3 (f := .glo "is_word") rfl)⟩
  have F_are_costs : Fn K mg "are_costs" s_are_costs := by
    obtain ⟨fd, F⟩ := c.def_ 4 (d := d_are_costs) rfl
    exact ⟨_, fd, F, He.glo_ok X G (c.fact 4 (f := .glo "are_costs") rfl)⟩
  have F_check_costs : Fn K mg "check_costs" s_check_costs := by
    obtain ⟨fd, F⟩ := c.def_ 5 (d := d_check_costs) rfl
    exact ⟨_, fd, F, He.glo_ok X G (c.fact 5 (f := .glo "check_costs") rfl)⟩
  have F_check_slots : Fn K mg "check_slots" s_check_slots := by
    obtain ⟨fd, F⟩ := c.def_ 6 (d := d_check_slots) rfl
    exact ⟨_, fd, F, He.glo_ok X G (c.fact 6 (f := .glo "check_slots") rfl)⟩
  have F_is_command : Fn K mg "is_command" s_is_command := by
    obtain ⟨fd, F⟩ := c.def_ 7 (d := d_is_command) rfl
    exact ⟨_, fd, F, He.glo_ok X G (c.fact 7 (f := .glo "is_command") rfl)⟩
  have F_are_commands : Fn K mg "are_commands" s_are_commands := by
    obtain ⟨fd, F⟩ := c.def_ 8 (d := d_are_commands) rfl
    exact ⟨_, fd, F, He.glo_ok X G (c.fact 8 (f := .glo "are_commands") rfl)⟩
  have F_walked : Fn K mg "walked" s_walked := by
    obtain ⟨fd, F⟩ := c.def_ 9 (d := d_walked) rfl
    exact ⟨_, fd, F, He.glo_ok X G (c.fact 9 (f := .glo "walked") rfl)⟩
  have F_walk_of : Fn K mg "walk_of" s_walk_of := by
    obtain ⟨fd, F⟩ := c.def_ 10 (d := d_walk_of) rfl
    exact ⟨_, fd, F, He.glo_ok X G (c.fact 10 (f := .glo "walk_of") rfl)⟩
  have F_is_schedule : Fn K mg "is_schedule" s_is_schedule := by
    obtain ⟨fd, F⟩ := c.def_ 11 (d := d_is_schedule) rfl
    exact ⟨_, fd, F, He.glo_ok X G (c.fact 11 (f := .glo "is_schedule") rfl)⟩
  have F_schedule_cost : Fn K mg "schedule_cost" s_schedule_cost := by
    obtain ⟨fd, F⟩ := c.def_ 12 (d := d_schedule_cost) rfl
    exact ⟨_, fd, F, He.glo_ok X G (c.fact 12 (f := .glo "schedule_cost") rfl)⟩
  have F_lone_row : Fn K mg "lone_row" s_lone_row := by
    obtain ⟨fd, F⟩ := c.def_ 13 (d := d_lone_row) rfl
    exact ⟨_, fd, F, He.glo_ok X G (c.fact 13 (f := .glo "lone_row") rfl)⟩
  have F_split_costs : Fn K mg "split_costs" s_split_costs := by
    obtain ⟨fd, F⟩ := c.def_ 14 (d := d_split_costs) rfl
    exact ⟨_, fd, F, He.glo_ok X G (c.fact 14 (f := .glo "split_costs") rfl)⟩
  have F_table_of : Fn K mg "table_of" s_table_of := by
    obtain ⟨fd, F⟩ := c.def_ 15 (d := d_table_of) rfl
    exact ⟨_, fd, F, He.glo_ok X G (c.fact 15 (f := .glo "table_of") rfl)⟩
  have F_least_cost : Fn K mg "least_cost" s_least_cost := by
    obtain ⟨fd, F⟩ := c.def_ 16 (d := d_least_cost) rfl
    exact ⟨_, fd, F, He.glo_ok X G (c.fact 16 (f := .glo "least_cost") rfl)⟩
  have F_lone_commands : Fn K mg "lone_commands" s_lone_commands := by
    obtain ⟨fd, F⟩ := c.def_ 17 (d := d_lone_commands) rfl
    exact ⟨_, fd, F, He.glo_ok X G (c.fact 17 (f := .glo "lone_commands") rfl)⟩
  have F_schedule_of : Fn K mg "schedule_of" s_schedule_of := by
    obtain ⟨fd, F⟩ := c.def_ 18 (d := d_schedule_of) rfl
    exact ⟨_, fd, F, He.glo_ok X G (c.fact 18 (f := .glo "schedule_of") rfl)⟩
  have F_best_schedule : Fn K mg "best_schedule" s_best_schedule := by
    obtain ⟨fd, F⟩ := c.def_ 19 (d := d_best_schedule) rfl
    exact ⟨_, fd, F, He.glo_ok X G (c.fact 19 (f := .glo "best_schedule") rfl)⟩
  have F_choices : Fn K mg "choices" s_choices := by
    obtain ⟨fd, F⟩ := c.def_ 20 (d := d_choices) rfl
    exact ⟨_, fd, F, He.glo_ok X G (c.fact 20 (f := .glo "choices") rfl)⟩
  have F_least_runs : Fn K mg "least_runs" s_least_runs := by
    obtain ⟨fd, F⟩ := c.def_ 21 (d := d_least_runs) rfl
    exact ⟨_, fd, F, He.glo_ok X G (c.fact 21 (f := .glo "least_runs") rfl)⟩
  have F_alike_in : Fn K mg "alike_in" s_alike_in := by
    obtain ⟨fd, F⟩ := c.def_ 22 (d := d_alike_in) rfl
    exact ⟨_, fd, F, He.glo_ok X G (c.fact 22 (f := .glo "alike_in") rfl)⟩
  have F_check_kinds : Fn K mg "check_kinds" s_check_kinds := by
    obtain ⟨fd, F⟩ := c.def_ 23 (d := d_check_kinds) rfl
    exact ⟨_, fd, F, He.glo_ok X G (c.fact 23 (f := .glo "check_kinds") rfl)⟩
  have F_undo_walk : Fn K mg "undo_walk" s_undo_walk := by
    obtain ⟨fd, F⟩ := c.def_ 24 (d := d_undo_walk) rfl
    exact ⟨_, fd, F, He.glo_ok X G (c.fact 24 (f := .glo "undo_walk") rfl)⟩
  have F_is_undo_schedule : Fn K mg "is_undo_schedule" s_is_undo_schedule := by
    obtain ⟨fd, F⟩ := c.def_ 25 (d := d_is_undo_schedule) rfl
    exact ⟨_, fd, F, He.glo_ok X G (c.fact 25 (f := .glo "is_undo_schedule") rfl)⟩
  have F_undo_count : Fn K mg "undo_count" s_undo_count := by
    obtain ⟨fd, F⟩ := c.def_ 26 (d := d_undo_count) rfl
    exact ⟨_, fd, F, He.glo_ok X G (c.fact 26 (f := .glo "undo_count") rfl)⟩
  have F_places_of : Fn K mg "places_of" s_places_of := by
    obtain ⟨fd, F⟩ := c.def_ 27 (d := d_places_of) rfl
    exact ⟨_, fd, F, He.glo_ok X G (c.fact 27 (f := .glo "places_of") rfl)⟩
  have F_least_count : Fn K mg "least_count" s_least_count := by
    obtain ⟨fd, F⟩ := c.def_ 28 (d := d_least_count) rfl
    exact ⟨_, fd, F, He.glo_ok X G (c.fact 28 (f := .glo "least_count") rfl)⟩
  have F_unit_turned : Fn K mg "unit_turned" s_unit_turned := by
    obtain ⟨fd, F⟩ := c.def_ 29 (d := d_unit_turned) rfl
    exact ⟨_, fd, F, He.glo_ok X G (c.fact 29 (f := .glo "unit_turned") rfl)⟩
  have F_moved : Fn K mg "moved" s_moved := by
    obtain ⟨fd, F⟩ := c.def_ 30 (d := d_moved) rfl
    exact ⟨_, fd, F, He.glo_ok X G (c.fact 30 (f := .glo "moved") rfl)⟩
  have F_undoing_of : Fn K mg "undoing_of" s_undoing_of := by
    obtain ⟨fd, F⟩ := c.def_ 31 (d := d_undoing_of) rfl
    exact ⟨_, fd, F, He.glo_ok X G (c.fact 31 (f := .glo "undoing_of") rfl)⟩
  have F_best_undoing : Fn K mg "best_undoing" s_best_undoing := by
    obtain ⟨fd, F⟩ := c.def_ 32 (d := d_best_undoing) rfl
    exact ⟨_, fd, F, He.glo_ok X G (c.fact 32 (f := .glo "best_undoing") rfl)⟩
  have F__law_cell : Fn K mg "_law_cell" s__law_cell := by
    obtain ⟨fd, F⟩ := c.def_ 33 (d := d__law_cell) rfl
    exact ⟨_, fd, F, He.glo_ok X G (c.fact 33 (f := .glo "_law_cell") rfl)⟩
  have F__law_box : Fn K mg "_law_box" s__law_box := by
    obtain ⟨fd, F⟩ := c.def_ 34 (d := d__law_box) rfl
    exact ⟨_, fd, F, He.glo_ok X G (c.fact 34 (f := .glo "_law_box") rfl)⟩
  have F__law_take : Fn K mg "_law_take" s__law_take := by
    obtain ⟨fd, F⟩ := c.def_ 35 (d := d__law_take) rfl
    exact ⟨_, fd, F, He.glo_ok X G (c.fact 35 (f := .glo "_law_take") rfl)⟩
  have F__law_same : Fn K mg "_law_same" s__law_same := by
    obtain ⟨fd, F⟩ := c.def_ 36 (d := d__law_same) rfl
    exact ⟨_, fd, F, He.glo_ok X G (c.fact 36 (f := .glo "_law_same") rfl)⟩
  have F__law_alike_cost : Fn K mg "_law_alike_cost" s__law_alike_cost := by
    obtain ⟨fd, F⟩ := c.def_ 37 (d := d__law_alike_cost) rfl
    exact ⟨_, fd, F, He.glo_ok X G (c.fact 37 (f := .glo "_law_alike_cost") rfl)⟩
  have F__law_due : Fn K mg "_law_due" s__law_due := by
    obtain ⟨fd, F⟩ := c.def_ 38 (d := d__law_due) rfl
    exact ⟨_, fd, F, He.glo_ok X G (c.fact 38 (f := .glo "_law_due") rfl)⟩
  have F__law_walked : Fn K mg "_law_walked" s__law_walked := by
    obtain ⟨fd, F⟩ := c.def_ 39 (d := d__law_walked) rfl
    exact ⟨_, fd, F, He.glo_ok X G (c.fact 39 (f := .glo "_law_walked") rfl)⟩
  have F__law_searched : Fn K mg "_law_searched" s__law_searched := by
    obtain ⟨fd, F⟩ := c.def_ 40 (d := d__law_searched) rfl
    exact ⟨_, fd, F, He.glo_ok X G (c.fact 40 (f := .glo "_law_searched") rfl)⟩
  have F__law_slow : Fn K mg "_law_slow" s__law_slow := by
    obtain ⟨fd, F⟩ := c.def_ 41 (d := d__law_slow) rfl
    exact ⟨_, fd, F, He.glo_ok X G (c.fact 41 (f := .glo "_law_slow") rfl)⟩
  have F__law_near : Fn K mg "_law_near" s__law_near := by
    obtain ⟨fd, F⟩ := c.def_ 42 (d := d__law_near) rfl
    exact ⟨_, fd, F, He.glo_ok X G (c.fact 42 (f := .glo "_law_near") rfl)⟩
  have F__law_kinds_right : Fn K mg "_law_kinds_right" s__law_kinds_right := by
    obtain ⟨fd, F⟩ := c.def_ 43 (d := d__law_kinds_right) rfl
    exact ⟨_, fd, F, He.glo_ok X G (c.fact 43 (f := .glo "_law_kinds_right") rfl)⟩
  have F__law_plain_right : Fn K mg "_law_plain_right" s__law_plain_right := by
    obtain ⟨fd, F⟩ := c.def_ 44 (d := d__law_plain_right) rfl
    exact ⟨_, fd, F, He.glo_ok X G (c.fact 44 (f := .glo "_law_plain_right") rfl)⟩
  have F_law : Fn K mg "law" s_law := by
    obtain ⟨fd, F⟩ := c.def_ 45 (d := d_law) rfl
    exact ⟨_, fd, F, He.glo_ok X G (c.fact 45 (f := .glo "law") rfl)⟩
  have M_does_turn : MFn K (He.ga K "Walk") "does_turn" "Walk.does_turn" s_Walk_does_turn := by
    obtain ⟨fd, F⟩ := c.def_ 47 (d := d_Walk_does_turn) rfl
    exact ⟨_, fd, F, He.meth_ok (c.fact 74 (f := .meth "Walk" "does_turn") rfl)⟩
  have M_does_move : MFn K (He.ga K "Walk") "does_move" "Walk.does_move" s_Walk_does_move := by
    obtain ⟨fd, F⟩ := c.def_ 48 (d := d_Walk_does_move) rfl
    exact ⟨_, fd, F, He.meth_ok (c.fact 75 (f := .meth "Walk" "does_move") rfl)⟩
  have M_does : MFn K (He.ga K "Walk") "does" "Walk.does" s_Walk_does := by
    obtain ⟨fd, F⟩ := c.def_ 49 (d := d_Walk_does) rfl
    exact ⟨_, fd, F, He.meth_ok (c.fact 76 (f := .meth "Walk" "does") rfl)⟩
  have N_Walk : IFn K mg (He.ga K "Walk") "Walk" "Walk.__init__" s_Walk___init__ := by
    obtain ⟨fd, F⟩ := c.def_ 46 (d := d_Walk___init__) rfl
    exact ⟨_, fd, F, He.mkr_ok (c.fact 73 (f := .mkr "Walk") rfl), He.glo_ok X G (c.fact 46 (f := .glo "Walk") rfl)⟩
  obtain ⟨fdL, FL⟩ := c.def_ 45 (d := d_law) rfl
  have e := hfa.symm.trans (He.glo_ok X G (c.fact 45 (f := .glo "law") rfl))
  cases e
  have b := FunD.bindsA (ps := ["script"]) FL fun _ _ _ _ _ _ us hl => match us, hl with | [_], _ => rfl
  refine ⟨fdL, fun s v => b s [v] rfl, fun base _ _ => ?_⟩
  have cm_turn := ok_turn (P := P) (w := w) (base := base) T M_does_turn
  have cm_move := ok_move (P := P) (w := w) (base := base) T M_does_move
  have c_DOES := ok_does (P := P) (w := w) (base := base) T M_does cm_turn cm_move
  have c_WALK := ok_init (P := P) (w := w) (base := base) T N_Walk
  have c_is_integer := ok_is_integer (P := P) (w := w) (base := base) T F_is_integer 
  have c_is_between := ok_is_between (P := P) (w := w) (base := base) T F_is_between c_is_integer
  have c_is_list := ok_is_list (P := P) (w := w) (base := base) T F_is_list 
  have c_is_word := ok_is_word (P := P) (w := w) (base := base) T F_is_word 
  have c_choices := ok_choices (P := P) (w := w) (base := base) T F_choices 
  have c_least_runs := ok_least_runs (P := P) (w := w) (base := base) T F_least_runs c_choices
  have c_alike_in := ok_alike_in (P := P) (w := w) (base := base) T F_alike_in c_choices c_least_runs
  have c_are_costs := ok_are_costs (P := P) (w := w) (base := base) T F_are_costs c_is_list c_is_between
  have c_check_costs := ok_check_costs (P := P) (w := w) (base := base) T F_check_costs c_are_costs
  have c_check_slots := ok_check_slots (P := P) (w := w) (base := base) T F_check_slots c_is_between
  have c_is_command := ok_is_command (P := P) (w := w) (base := base) T F_is_command c_is_word c_is_between
  have c_are_commands := ok_are_commands (P := P) (w := w) (base := base) T F_are_commands c_is_list c_is_command
  have c_walked := ok_walked (P := P) (w := w) (base := base) T F_walked c_WALK c_DOES
  have c_undo_walk := ok_undo_walk (P := P) (w := w) (base := base) T F_undo_walk c_are_commands c_walked
  have c_check_kinds := ok_check_kinds (P := P) (w := w) (base := base) T F_check_kinds c_is_list c_is_between
  have c_is_undo_schedule := ok_is_undo_schedule (P := P) (w := w) (base := base) T F_is_undo_schedule c_check_kinds c_check_slots c_undo_walk
  have c_undo_count := ok_undo_count (P := P) (w := w) (base := base) T F_undo_count c_check_kinds c_check_slots c_undo_walk
  have c_walk_of := ok_walk_of (P := P) (w := w) (base := base) T F_walk_of c_are_commands c_walked
  have c_is_schedule := ok_is_schedule (P := P) (w := w) (base := base) T F_is_schedule c_check_costs c_check_slots c_walk_of
  have c_schedule_cost := ok_schedule_cost (P := P) (w := w) (base := base) T F_schedule_cost c_check_costs c_check_slots c_walk_of
  have c_lone_row := ok_lone_row (P := P) (w := w) (base := base) T F_lone_row 
  have c_split_costs := ok_split_costs (P := P) (w := w) (base := base) T F_split_costs 
  have c_table_of := ok_table_of (P := P) (w := w) (base := base) T F_table_of c_lone_row c_split_costs
  have c_least_cost := ok_least_cost (P := P) (w := w) (base := base) T F_least_cost c_check_costs c_check_slots c_table_of
  have c_lone_commands := ok_lone_commands (P := P) (w := w) (base := base) T F_lone_commands 
  have c_schedule_of := ok_schedule_of (P := P) (w := w) (base := base) T F_schedule_of c_table_of c_lone_commands c_split_costs
  have c_best_schedule := ok_best_schedule (P := P) (w := w) (base := base) T F_best_schedule c_check_costs c_check_slots c_schedule_of
  have c_places_of := ok_places_of (P := P) (w := w) (base := base) T F_places_of 
  have c_least_count := ok_least_count (P := P) (w := w) (base := base) T F_least_count c_check_kinds c_check_slots c_places_of c_alike_in
  have c_moved := ok_moved (P := P) (w := w) (base := base) T F_moved 
  have c_unit_turned := ok_unit_turned (P := P) (w := w) (base := base) T F_unit_turned 
  have c_undoing_of := ok_undoing_of (P := P) (w := w) (base := base) T F_undoing_of c_places_of c_schedule_of c_moved c_unit_turned
  have c_best_undoing := ok_best_undoing (P := P) (w := w) (base := base) T F_best_undoing c_check_kinds c_check_slots c_undoing_of
  have c__law_box := ok__law_box (P := P) (w := w) (base := base) T F__law_box 
  have c__law_take := ok__law_take (P := P) (w := w) (base := base) T F__law_take 
  have c__law_cell := ok__law_cell (P := P) (w := w) (base := base) T F__law_cell 
  have c__law_alike_cost := ok__law_alike_cost (P := P) (w := w) (base := base) T F__law_alike_cost 
  have c__law_due := ok__law_due (P := P) (w := w) (base := base) T F__law_due c__law_alike_cost
  have c__law_slow := ok__law_slow (P := P) (w := w) (base := base) T F__law_slow 
  have c__law_walked := ok__law_walked (P := P) (w := w) (base := base) T F__law_walked 
  have c__law_near := ok__law_near (P := P) (w := w) (base := base) T F__law_near c__law_take c__law_slow
  have c__law_searched := ok__law_searched (P := P) (w := w) (base := base) T F__law_searched 
  have c_same0 := ok__law_same0 (P := P) (w := w) (base := base) T F__law_same
  have c_same1 := ok__law_same1 0 T F__law_same c_same0
  have c__law_same := ok__law_same1 1 T F__law_same c_same1
  have c_kinds := ok__law_kinds_right T F__law_kinds_right c__law_due c__law_searched c_least_count c_best_undoing c__law_same c__law_walked c__law_near c_is_undo_schedule c_undo_count c_is_schedule c_schedule_cost
  have c_plain := ok__law_plain_right T F__law_plain_right c_least_count c_least_cost c__law_alike_cost c__law_same c__law_due c_best_schedule c__law_walked c_is_undo_schedule c_undo_count
  have hp : Plain Ssea := plain_of fun ks c hk h5 h1 h3 => ⟨hk, h1, by omega, sea_all hk h5 h1 h3⟩
  obtain ⟨f2, fd2, L1, L2, _, _, L5⟩ := (ok_law hp T F_law c__law_box c__law_cell c__law_take c_kinds c_plain).ex
  have e2 := hfa.symm.trans L2
  cases e2
  have e3 := fd_one FL L5
  subst e3
  exact L1
end K84
open PySem PySem.W PySem.Calls PyProof.Rows
set_option maxRecDepth 100000 in
set_option maxHeartbeats 0 in
theorem PySem.Challenge.cw_diffcompiler_k84_undo_schedules_against_holds : PySem.Challenge.rw_diffcompiler_k84_undo_schedules_against.Holds := by
  w_on; o_law
  refine HandSHeadRun.head_any (r := OpenLaw.row PySem.Challenge.rw_diffcompiler_k84_undo_schedules_against) (q := view (OpenLaw.row PySem.Challenge.rw_diffcompiler_k84_undo_schedules_against).prog [66]) (H := K84.hk) (ob := K84.ob) (M := 12000) (loose := K84.nm) (d := HandSHeadRun.topDef (OpenLaw.row PySem.Challenge.rw_diffcompiler_k84_undo_schedules_against).prog 66) (kwd := []) K84.ob_eq
    (by kernel_rfl) (fun s => by kernel_rfl) K84.run (by kernel_rfl) (by kernel_rfl) (by kernel_rfl) (by rfl) (by first | assumption | decide +kernel) (by decide +kernel) ⟨rfl, rfl, rfl, rfl, rfl, by decide +kernel⟩ ?hw ?hc
  case hw => w_witness2
  case hc =>
    refine L2.walk_ofE (l := PySem.Challenge.rw_diffcompiler_k84_undo_schedules_against) (n := 63) (k := 8) (x := "script") (CX := L2.CX0) rfl (by decide) (by kernel_rfl) ⟨rfl, by decide, by decide⟩ ?F (fun _ _ _ _ z => z)
    intro w mg fa h Y G hmg0
    obtain ⟨K, KX, c⟩ := Y
    have hmg : mg ("law" : PySem.Str) = some (.ref fa) := by
      have e : (HandSHeadRun.topDef (OpenLaw.row PySem.Challenge.rw_diffcompiler_k84_undo_schedules_against).prog 66).name = ("law" : PySem.Str) := by kernel_rfl
      rw [← e]
      exact hmg0
    obtain ⟨fd, hb, hF⟩ := K84.facts (P := (PySem.Challenge.rw_diffcompiler_k84_undo_schedules_against).prog) (w := w) KX G hmg c
    exact ⟨K, fd, K84.spLaw K, KX, hb, fun H a ns hl _ hS => ⟨a, ns, rfl, hS, fun _ => rfl⟩, hF⟩
