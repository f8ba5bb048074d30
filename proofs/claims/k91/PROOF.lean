import PyProof.Rows.All
import Wide.All
import OpenK.AllK
import Wide.FinOn
import HandS.ForMost
import HandS.Deep
import HandS.TupAny
import HandS.IsInst
import HandS.SortKw
import KE.SortData
import KE.SortKeyHeap
import KE.KDictKeyed
import PyProof.ReprReads
import KE.GoesMore
import KE.GoesEnum
import HandS.Conv
import HandS.TupLe
import HandS.More
import PyProof.MinMaxWalk
import HandS.Style
import HandS.DictComp
import PySem.Challenge.RW_whoiswho_k91_whole_plain_rule_over_many
import HandS.SetKeys
import HandS.Zip
set_option Elab.async false
set_option maxRecDepth 100000
set_option maxHeartbeats 4000000
set_option linter.all false
/-! Who: values that stand for nested data over a base that is never changed, and how readings evaluate to them. -/
namespace Who
open PySem L2
abbrev Stt := List (Option V)

/-- all that the one heap tracks, the other tracks alike -/
def Sub (B H : Hp) : Prop := ∀ a o, B a = some o → H a = some o
theorem Sub.refl (H : Hp) : Sub H H := fun _ _ h => h
theorem Sub.trans {A B C : Hp} (x : Sub A B) (y : Sub B C) : Sub A C := fun a o h => y a o (x a o h)
theorem Sub.none {B H : Hp} (x : Sub B H) {a : Addr} (h : H a = Option.none) : B a = Option.none := by
  cases e : B a with
  | none => rfl
  | some o => rw [x a o e] at h; cases h
theorem Sub.upd {B H : Hp} (x : Sub B H) {a : Addr} {o : HO} (h : B a = Option.none) : Sub B (upd H a o) := fun b u e => by
  by_cases q : b = a
  · subst q; rw [h] at e; cases e
  · rw [upd_ne q]; exact x b u e
theorem Sub.upd2 {B H : Hp} (x : Sub B H) {a : Addr} {o : HO} (h : H a = Option.none) : Sub (L2.upd B a o) (L2.upd H a o) := fun b u e => by
  by_cases q : b = a
  · subst q; rw [upd_same] at e ⊢; exact e
  · rw [upd_ne q] at e ⊢; exact x b u e
theorem Sub.updL {B : Hp} {a : Addr} {o : HO} (h : B a = Option.none) : Sub B (L2.upd B a o) := (Sub.refl B).upd h
theorem sub_rd {B H : Hp} {a : Addr} {u : HO} (e : Sub B H) (h : Rd B a u) : Rd H a u := by
  rcases h with h | ⟨o, h⟩
  · exact Or.inl (e a _ h)
  · exact Or.inr ⟨o, e a _ h⟩
theorem sub_l {K : PySem.W.Frag} {B H : Hp} {a : Addr} {xs : List V} (e : Sub B H) (h : SqL K B a xs) : SqL K H a xs := by
  rcases h with h | h
  · exact Or.inl (sub_rd e h)
  · exact Or.inr h
theorem sub_t {K : PySem.W.Frag} {B H : Hp} {a : Addr} {xs : List V} (e : Sub B H) (h : SqT K B a xs) : SqT K H a xs := by
  rcases h with h | h
  · exact Or.inl (sub_rd e h)
  · exact Or.inr h

/-- two heaps of one: the first, else the second -/
def Un2 (A B : Hp) : Hp := fun a => match A a with | some o => some o | none => B a
theorem un2_l (A B : Hp) : Sub A (Un2 A B) := fun a o h => by unfold Un2; rw [h]
theorem un2_r {A B H : Hp} (x : Sub A H) (y : Sub B H) : Sub B (Un2 A B) := fun a o h => by
  unfold Un2
  cases e : A a with
  | none => exact h
  | some u =>
    have h1 := x a u e
    rw [y a o h] at h1
    exact h1.symm
theorem un2_in {A B H : Hp} (x : Sub A H) (y : Sub B H) : Sub (Un2 A B) H := fun a o h => by
  unfold Un2 at h
  cases e : A a with
  | none => rw [e] at h; exact y a o h
  | some u => rw [e] at h; cases h; exact x a _ e
theorem un2_none {A B : Hp} {a : Addr} (x : A a = none) (y : B a = none) : Un2 A B a = none := by
  unfold Un2; rw [x]; exact y

/-- from a base B within H1 to a base B2 within H2: what is new in the base is new in the heap -/
structure Nxt (B H1 B2 H2 : Hp) : Prop where
  b : Sub B B2
  h : Sub H1 H2
  i : Sub B2 H2
  av : ∀ a o, H1 a = some o → B a = none → B2 a = none
theorem Nxt.refl {B H : Hp} (x : Sub B H) : Nxt B H B H := ⟨Sub.refl B, Sub.refl H, x, fun _ _ _ h => h⟩
theorem Nxt.trans {B B2 B3 H1 H2 H3 : Hp} (x : Nxt B H1 B2 H2) (y : Nxt B2 H2 B3 H3) : Nxt B H1 B3 H3 :=
  ⟨x.b.trans y.b, x.h.trans y.h, y.i, fun a o h n => y.av a o (x.h a o h) (x.av a o h n)⟩
theorem Nxt.new {B H : Hp} (x : Sub B H) {p : Addr} {o : HO} (h : H p = none) : Nxt B H (upd B p o) (upd H p o) :=
  ⟨Sub.updL (x.none h), Sub.updL h, x.upd2 h, fun a u e n => by
    by_cases q : a = p
    · subst q; rw [h] at e; cases e
    · rw [upd_ne q]; exact n⟩
/-- the new object lies in the heap, not in the base -/
theorem Nxt.mut {B H : Hp} (x : Sub B H) {p : Addr} {o : HO} (h : H p = none) : Nxt B H B (upd H p o) :=
  ⟨Sub.refl B, Sub.updL h, x.upd (x.none h), fun _ _ _ n => n⟩
theorem Nxt.lift {B B1 H1 B2 H2 : Hp} (y : Sub B B1) (z : Sub B1 H1) (x : Nxt B H1 B2 H2) : Nxt B1 H1 (Un2 B1 B2) H2 ∧ Sub B2 (Un2 B1 B2) :=
  ⟨⟨un2_l _ _, x.h, un2_in (z.trans x.h) x.i, fun a o h n => un2_none n (x.av a o h (y.none n))⟩, un2_r (z.trans x.h) x.i⟩

end Who
namespace L2
open PySem Who
mutual
theorem Dp.mono {K : PySem.W.Frag} {B H : Hp} (e : Sub B H) : ∀ (d : PyData) (v : V), Dp K B v d → Dp K H v d
  | .none, _, h => by cases h; exact .non
  | .bool b, _, h => by cases h; exact .bl b
  | .int i, _, h => by cases h; exact .int i
  | .str x, _, h => by cases h; exact .str x
  | .list ds, _, h => by
    cases h with
    | lst hs ha => exact .lst (sub_l e hs) (DpAll.mono e ds _ ha)
  | .tuple ds, _, h => by
    cases h with
    | tup hs ha => exact .tup (sub_t e hs) (DpAll.mono e ds _ ha)
  | .dict _, _, h => by cases h
theorem DpAll.mono {K : PySem.W.Frag} {B H : Hp} (e : Sub B H) : ∀ (ds : List PyData) (vs : List V), DpAll K B vs ds → DpAll K H vs ds
  | [], _, h => by cases h; exact .nil
  | d :: ds, _, h => by
    cases h with
    | cons h1 h2 => exact .cons (Dp.mono e d _ h1) (DpAll.mono e ds _ h2)
end
section
variable {K : PySem.W.Frag} {B B1 H H1 : Hp} {v : V} {vs ws : List V} {d : PyData} {ds es : List PyData}
theorem Dp.up (h : Dp K B v d) (e : Sub B H) : Dp K H v d := Dp.mono e d v h
theorem DpAll.up (h : DpAll K B vs ds) (e : Sub B H) : DpAll K H vs ds := DpAll.mono e ds vs h
theorem DpAll.len : ∀ {vs : List V} {ds : List PyData}, DpAll K B vs ds → vs.length = ds.length
  | _, _, .nil => rfl
  | _, _, .cons _ t => congrArg (· + 1) (DpAll.len t)
theorem DpAll.at : ∀ {vs : List V} {ds : List PyData} {i : Nat} {d : PyData}, DpAll K B vs ds → ds[i]? = some d → ∃ v, vs[i]? = some v ∧ Dp K B v d
  | _, _, _, _, .nil, e => by simp at e
  | _, _, 0, _, .cons h _, e => by simp at e; subst e; exact ⟨_, by simp, h⟩
  | _, _, i + 1, _, .cons _ t, e => by
    obtain ⟨v, h1, h2⟩ := DpAll.at (i := i) t (by simpa using e)
    exact ⟨v, by simpa using h1, h2⟩
theorem DpAll.at' : ∀ {vs : List V} {ds : List PyData} {i : Nat} {v : V}, DpAll K B vs ds → vs[i]? = some v → ∃ d, ds[i]? = some d ∧ Dp K B v d
  | _, _, _, _, .nil, e => by simp at e
  | _, _, 0, _, .cons h _, e => by simp at e; subst e; exact ⟨_, by simp, h⟩
  | _, _, i + 1, _, .cons _ t, e => by
    obtain ⟨d, h1, h2⟩ := DpAll.at' (i := i) t (by simpa using e)
    exact ⟨d, by simpa using h1, h2⟩
theorem DpAll.app : ∀ {vs ws : List V} {ds es : List PyData}, DpAll K B vs ds → DpAll K B ws es → DpAll K B (vs ++ ws) (ds ++ es)
  | _, _, _, _, .nil, h => h
  | _, _, _, _, .cons h t, g => .cons h (DpAll.app t g)
theorem DpAll.drop : ∀ {vs : List V} {ds : List PyData} (n : Nat), DpAll K B vs ds → DpAll K B (vs.drop n) (ds.drop n)
  | _, _, 0, h => h
  | _, _, _ + 1, .nil => .nil
  | _, _, n + 1, .cons _ t => DpAll.drop n t
theorem DpAll.take : ∀ {vs : List V} {ds : List PyData} (n : Nat), DpAll K B vs ds → DpAll K B (vs.take n) (ds.take n)
  | _, _, 0, _ => .nil
  | _, _, _ + 1, .nil => .nil
  | _, _, n + 1, .cons h t => .cons h (DpAll.take n t)
theorem DpAll.rev : ∀ {vs : List V} {ds : List PyData}, DpAll K B vs ds → DpAll K B vs.reverse ds.reverse
  | _, _, .nil => .nil
  | _, _, .cons h t => by
    rw [List.reverse_cons, List.reverse_cons]
    exact (DpAll.rev t).app (.cons h .nil)
theorem Dp.int_inv {i : Int} (h : Dp K B v (.int i)) : v = .int i := by cases h; rfl
theorem Dp.bl_inv {b : Bool} (h : Dp K B v (.bool b)) : v = .bl b := by cases h; rfl
theorem Dp.str_inv {x : Str} (h : Dp K B v (.str x)) : v = .str x := by cases h; rfl
theorem Dp.non_inv (h : Dp K B v .none) : v = .non := by cases h; rfl
theorem Dp.tup_inv (h : Dp K B v (.tuple ds)) : ∃ a xs, v = .ref a ∧ SqT K B a xs ∧ DpAll K B xs ds := by
  cases h with
  | tup hs ha => exact ⟨_, _, rfl, hs, ha⟩
theorem Dp.lst_inv (h : Dp K B v (.list ds)) : ∃ a xs, v = .ref a ∧ SqL K B a xs ∧ DpAll K B xs ds := by
  cases h with
  | lst hs ha => exact ⟨_, _, rfl, hs, ha⟩
theorem dpT {a : Addr} {xs : List V} (h : B a = some (.tup xs)) (g : DpAll K B xs ds) : Dp K B (.ref a) (.tuple ds) := .tup (SqT.of h) g
theorem dpL {a : Addr} {xs : List V} (h : B a = some (.lst xs)) (g : DpAll K B xs ds) : Dp K B (.ref a) (.list ds) := .lst (SqL.of h) g
end

end L2
namespace Who
open PySem L2
/-! ### what evaluates to what -/
section
variable (K : PySem.W.Frag)
/-- whatever heap has the base: a value with P, over a base that may have grown -/
def EG (te : TE) (σ : Stt) (B : Hp) (P : V → Hp → Prop) : Prop := ∀ H1, Sub B H1 → ∀ Q : VK, (∀ v B2 H2, Nxt B H1 B2 H2 → P v B2 → Q v H2) → te σ H1 Q
def ED (te : TE) (σ : Stt) (B : Hp) (d : PyData) : Prop := EG te σ B fun v B2 => Dp K B2 v d
def ET (tt : TT) (σ : Stt) (B : Hp) (b : Bool) : Prop := ∀ H1, Sub B H1 → ∀ Q : Bool → Hp → Prop, (∀ B2 H2, Nxt B H1 B2 H2 → Q b H2) → tt σ H1 Q
def EA (ta : TA) (σ : Stt) (B : Hp) (ds : List PyData) : Prop := ∀ H1, Sub B H1 → ∀ Q : List V → Hp → Prop, (∀ vs B2 H2, Nxt B H1 B2 H2 → DpAll K B2 vs ds → Q vs H2) → ta σ H1 Q
def EO (to : TO) (σ : Stt) (B : Hp) (o : Option Int) : Prop := ∀ H1, Sub B H1 → ∀ Q : Option Int → Hp → Prop, (∀ B2 H2, Nxt B H1 B2 H2 → Q o H2) → to σ H1 Q
/-- an operation on two values, a call on values -/
def RD (r : R2) (d e f : PyData) : Prop := ∀ (x y : V) (B H : Hp), Sub B H → Dp K B x d → Dp K B y e → ∀ Q : VK, (∀ v B2 H2, Nxt B H B2 H2 → Dp K B2 v f → Q v H2) → r x y H Q
def RC (r : List V → Hp → VK → Prop) (ds : List PyData) (f : PyData) : Prop := ∀ (xs : List V) (B H : Hp), Sub B H → DpAll K B xs ds → ∀ Q : VK, (∀ v B2 H2, Nxt B H B2 H2 → Dp K B2 v f → Q v H2) → r xs H Q
/-- the promise of a def that changes nothing: R its arguments and its result -/
def spR (R : List PyData → PyData → Prop) : Sp := fun vs H Q _ => ∃ B ds r, Sub B H ∧ DpAll K B vs ds ∧ R ds r ∧ ∀ v B2 H2, Nxt B H B2 H2 → Dp K B2 v r → Q v H2
end

section
variable {K : PySem.W.Frag} {σ : Stt} {B B1 H H1 : Hp} {ta tb tc te : TE} {tt tu : TT} {d e f : PyData} {ds es : List PyData} {v x y : V} {r : R2}
theorem EG.mono {P : V → Hp → Prop} (hP : ∀ v A C, Sub A C → P v A → P v C) (h : EG te σ B P) (s : Sub B B1) : EG te σ B1 P := fun H1 z Q q => h H1 (s.trans z) Q fun v B2 H2 n p => by
  obtain ⟨n', u⟩ := Nxt.lift s z n
  exact q v _ H2 n' (hP v _ _ u p)
theorem ED.mono (h : ED K te σ B d) (s : Sub B B1) : ED K te σ B1 d := EG.mono (fun _ _ _ u p => p.up u) h s
theorem ET.mono {b : Bool} (h : ET tt σ B b) (s : Sub B B1) : ET tt σ B1 b := fun H1 z Q q => h H1 (s.trans z) Q fun B2 H2 n => q _ H2 (Nxt.lift s z n).1
theorem EO.mono {to : TO} {o : Option Int} (h : EO to σ B o) (s : Sub B B1) : EO to σ B1 o := fun H1 z Q q => h H1 (s.trans z) Q fun B2 H2 n => q _ H2 (Nxt.lift s z n).1
theorem EA.mono {ta : TA} (h : EA K ta σ B ds) (s : Sub B B1) : EA K ta σ B1 ds := fun H1 z Q q => h H1 (s.trans z) Q fun vs B2 H2 n p => q vs _ H2 (Nxt.lift s z n).1 (p.up (Nxt.lift s z n).2)
theorem ED.is (h : ED K te σ B d) (q : d = e) : ED K te σ B e := q ▸ h
theorem ET.is {b c : Bool} (h : ET tt σ B b) (q : b = c) : ET tt σ B c := q ▸ h

theorem ed_var {i : Nat} (h : σ[i]? = some (some v)) (g : Dp K B v d) : ED K (tVar i) σ B d := fun H1 z Q q => ⟨v, h, q v B H1 (Nxt.refl z) g⟩
theorem ed_c (g : Dp K B v d) : ED K (tC v) σ B d := fun H1 z Q q => q v B H1 (Nxt.refl z) g
theorem ed_int {i : Int} : ED K (tC (.int i)) σ B (.int i) := ed_c (.int i)
theorem ed_str {s : Str} : ED K (tC (.str s)) σ B (.str s) := ed_c (.str s)
theorem ed_bl {b : Bool} : ED K (tC (.bl b)) σ B (.bool b) := ed_c (.bl b)
theorem ed_non : ED K (tC .non) σ B .none := ed_c .non
theorem ed_op (ha : ED K ta σ B d) (hb : ED K tb σ B e) (hr : RD K r d e f) : ED K (tOp r ta tb) σ B f := fun H1 z Q q =>
  ha H1 z _ fun v B2 H2 n p => (hb.mono n.b) H2 n.i _ fun w B3 H3 m p' => hr v w B3 H3 m.i (p.up m.b) p' Q fun u B4 H4 k p2 => q u B4 H4 ((n.trans m).trans k) p2
theorem rd_I0 {g : Int → Int → V} {i j : Int} (h : ∀ B, Dp K B (g i j) f) : RD K (rI0 g) (.int i) (.int j) f := fun x y B H s hx hy Q q => by
  rw [hx.int_inv, hy.int_inv]
  exact ⟨i, j, rfl, rfl, q _ B H (Nxt.refl s) (h B)⟩
theorem rd_I {C : Int → Int → Prop} {g : Int → Int → V} {i j : Int} (hc : C i j) (h : ∀ B, Dp K B (g i j) f) : RD K (rI C g) (.int i) (.int j) f := fun x y B H s hx hy Q q => by
  rw [hx.int_inv, hy.int_inv]
  exact ⟨i, j, rfl, rfl, hc, q _ B H (Nxt.refl s) (h B)⟩
theorem ed_I0 {g : Int → Int → Int} {i j : Int} (ha : ED K ta σ B (.int i)) (hb : ED K tb σ B (.int j)) : ED K (tOp (rI0 fun i j => .int (g i j)) ta tb) σ B (.int (g i j)) := ed_op ha hb (rd_I0 fun _ => .int _)
theorem ed_B0 {g : Int → Int → Bool} {i j : Int} (ha : ED K ta σ B (.int i)) (hb : ED K tb σ B (.int j)) : ED K (tOp (rI0 fun i j => .bl (g i j)) ta tb) σ B (.bool (g i j)) := ed_op ha hb (rd_I0 fun _ => .bl _)
theorem ed_I {C : Int → Int → Prop} {g : Int → Int → Int} {i j : Int} (hc : C i j) (ha : ED K ta σ B (.int i)) (hb : ED K tb σ B (.int j)) : ED K (tOp (rI C fun i j => .int (g i j)) ta tb) σ B (.int (g i j)) := ed_op ha hb (rd_I hc fun _ => .int _)
theorem beqI (i j : Int) : (i == j) = decide (i = j) := by
  rw [Bool.eq_iff_iff]
  simp
theorem ed_eqI {i j : Int} (ha : ED K ta σ B (.int i)) (hb : ED K tb σ B (.int j)) : ED K (tOp rEq ta tb) σ B (.bool (decide (i = j))) := ed_op ha hb fun x y A H s hx hy Q q => by
  rw [hx.int_inv, hy.int_inv]
  exact ⟨rfl, q _ A H (Nxt.refl s) (by rw [dec_int, beqI]; exact .bl _)⟩
theorem ed_neI {i j : Int} (ha : ED K ta σ B (.int i)) (hb : ED K tb σ B (.int j)) : ED K (tOp rNe ta tb) σ B (.bool (!decide (i = j))) := ed_op ha hb fun x y A H s hx hy Q q => by
  rw [hx.int_inv, hy.int_inv]
  exact ⟨rfl, q _ A H (Nxt.refl s) (by rw [dec_int, beqI]; exact .bl _)⟩
theorem ed_eqS {i j : Str} (ha : ED K ta σ B (.str i)) (hb : ED K tb σ B (.str j)) : ED K (tOp rEq ta tb) σ B (.bool (decide (i = j))) := ed_op ha hb fun x y A H s hx hy Q q => by
  rw [hx.str_inv, hy.str_inv]
  refine ⟨rfl, q _ A H (Nxt.refl s) ?_⟩
  have e : decide (V.str i = V.str j) = decide (i = j) := decide_eq_decide.mpr ⟨fun z => by cases z; rfl, fun z => by rw [z]⟩
  rw [e]
  exact .bl _
theorem ed_neS {i j : Str} (ha : ED K ta σ B (.str i)) (hb : ED K tb σ B (.str j)) : ED K (tOp rNe ta tb) σ B (.bool (!decide (i = j))) := ed_op ha hb fun x y A H s hx hy Q q => by
  rw [hx.str_inv, hy.str_inv]
  refine ⟨rfl, q _ A H (Nxt.refl s) ?_⟩
  have e : decide (V.str i = V.str j) = decide (i = j) := decide_eq_decide.mpr ⟨fun z => by cases z; rfl, fun z => by rw [z]⟩
  rw [e]
  exact .bl _
theorem rd_eqD (hd : SeqAt.shaped d = true) (he : SeqAt.shaped e = true) : RD K (rEqD K) d e (.bool (PyData.eqv d e)) := fun _ _ B H s hx hy _ q => ⟨d, e, hx.up s, hy.up s, hd, he, q _ B H (Nxt.refl s) (.bl _)⟩
theorem rd_neD (hd : SeqAt.shaped d = true) (he : SeqAt.shaped e = true) : RD K (rNeD K) d e (.bool (!PyData.eqv d e)) := fun _ _ B H s hx hy _ q => ⟨d, e, hx.up s, hy.up s, hd, he, q _ B H (Nxt.refl s) (.bl _)⟩

/-! arguments, displays -/
theorem ea_nil : EA K tNil σ B [] := fun H1 z Q q => q [] B H1 (Nxt.refl z) .nil
theorem ea_cons {t : TA} (h : ED K te σ B d) (g : EA K t σ B ds) : EA K (tCons te t) σ B (d :: ds) := fun H1 z Q q =>
  h H1 z _ fun v B2 H2 n p => (g.mono n.b) H2 n.i _ fun vs B3 H3 m p' => q (v :: vs) B3 H3 (n.trans m) (.cons (p.up m.b) p')
theorem ed_tup {t : TA} (h : EA K t σ B ds) (hl : ds.length ≤ 100000) : ED K (tTup t) σ B (.tuple ds) := fun H1 z Q q =>
  h H1 z _ fun vs B2 H2 n p => ⟨by rw [p.len]; exact Nat.le_trans hl (by decide), fun a ha => q (.ref a) _ _ (n.trans (Nxt.new n.i ha)) (dpT upd_same (p.up (Sub.updL (n.i.none ha))))⟩
theorem ed_lst {t : TA} (h : EA K t σ B ds) (hl : ds.length ≤ 100000) : ED K (tLst t) σ B (.list ds) := fun H1 z Q q =>
  h H1 z _ fun vs B2 H2 n p => ⟨by rw [p.len]; exact Nat.le_trans hl (by decide), fun a ha => q (.ref a) _ _ (n.trans (Nxt.new n.i ha)) (dpL upd_same (p.up (Sub.updL (n.i.none ha))))⟩
theorem ed_cb {t : TA} {r : List V → Hp → VK → Prop} (h : EA K t σ B ds) (hr : RC K r ds f) : ED K (tCB r t) σ B f := fun H1 z Q q =>
  h H1 z _ fun vs B2 H2 n p => hr vs B2 H2 n.i p Q fun u B3 H3 m p' => q u B3 H3 (n.trans m) p'
theorem ed_call {R : List PyData → PyData → Prop} {E : XK} {t : TA} (h : EA K t σ B ds) (hR : R ds f) : ED K (tCall (spR K R) [] E t) σ B f := fun H1 z Q q =>
  h H1 z _ fun vs B2 H2 n p => ⟨B2, ds, f, n.i, by rw [List.append_nil]; exact p, hR, fun v B3 H3 m p' => q v B3 H3 (n.trans m) p'⟩

/-! subscripts -/
theorem atI_all : ∀ {vs : List V} {ds : List PyData} {i : Int} {d : PyData}, DpAll K B vs ds → atI ds i = some d → ∃ v, atI vs i = some v ∧ Dp K B v d := fun {vs ds i d} h e => by
  unfold atI at e ⊢
  rw [h.len]
  cases q : ixN ds.length i with
  | none => rw [q] at e; cases e
  | some j => rw [q] at e; exact h.at e
theorem rd_ixL {i : Int} (h : atI ds i = some d) : RD K (rIx K) (.list ds) (.int i) d := fun x y B H s hx hy Q q => by
  obtain ⟨a, xs, rfl, hs, ha⟩ := hx.lst_inv
  obtain ⟨v, hv, p⟩ := atI_all ha h
  rw [hy.int_inv]
  exact Or.inl ⟨a, xs, i, v, rfl, rfl, sub_l s hs, hv, q v B H (Nxt.refl s) p⟩
theorem rd_ixT {i : Int} (h : atI ds i = some d) : RD K (rIx K) (.tuple ds) (.int i) d := fun x y B H s hx hy Q q => by
  obtain ⟨a, xs, rfl, hs, ha⟩ := hx.tup_inv
  obtain ⟨v, hv, p⟩ := atI_all ha h
  rw [hy.int_inv]
  exact Or.inr (Or.inl ⟨a, xs, i, v, rfl, rfl, sub_t s hs, hv, q v B H (Nxt.refl s) p⟩)
/-- the items of a list or a tuple -/
def items : PyData → Option (List PyData)
  | .list ds => some ds
  | .tuple ds => some ds
  | _ => none
theorem items_cases (h : items d = some ds) : d = .list ds ∨ d = .tuple ds := by
  cases d <;> simp [items] at h <;> subst h <;> simp
theorem rd_ix {i : Int} (hi : items d = some ds) (h : atI ds i = some e) : RD K (rIx K) d (.int i) e := by
  rcases items_cases hi with rfl | rfl
  · exact rd_ixL h
  · exact rd_ixT h

/-! truth -/
theorem et_test {b : Bool} (h : ED K te σ B (.bool b)) : ET (tTest te) σ B b := fun H1 z Q q => h H1 z _ fun v B2 H2 n p => ⟨b, p.bl_inv, q B2 H2 n⟩
theorem et_B {b : Bool} (h : ED K te σ B (.bool b)) : ET (tB te) σ B b := fun H1 z Q q => h H1 z _ fun v B2 H2 n p => ⟨b, p.bl_inv, q B2 H2 n⟩
theorem et_and {a b : Bool} (h : ET tt σ B a) (g : a = true → ET tu σ B b) : ET (tAnd tt tu) σ B (a && b) := fun H1 z Q q => h H1 z _ fun B2 H2 n => by
  cases a with
  | true => exact ((g rfl).mono n.b) H2 n.i Q fun B3 H3 m => q B3 H3 (n.trans m)
  | false => exact q B2 H2 n
theorem et_or {a b : Bool} (h : ET tt σ B a) (g : a = false → ET tu σ B b) : ET (tOr tt tu) σ B (a || b) := fun H1 z Q q => h H1 z _ fun B2 H2 n => by
  cases a with
  | true => exact q B2 H2 n
  | false => exact ((g rfl).mono n.b) H2 n.i Q fun B3 H3 m => q B3 H3 (n.trans m)
theorem et_not {a : Bool} (h : ET tt σ B a) : ET (tNot tt) σ B (!a) := fun H1 z Q q => h H1 z _ fun B2 H2 n => q B2 H2 n
theorem ed_and {a b : Bool} (h : ED K ta σ B (.bool a)) (g : a = true → ED K tb σ B (.bool b)) : ED K (tAndV ta tb) σ B (.bool (a && b)) := fun H1 z Q q => h H1 z _ fun v B2 H2 n p => ⟨a, p.bl_inv, by
  cases a with
  | true => exact ((g rfl).mono n.b) H2 n.i Q fun w B3 H3 m p' => q w B3 H3 (n.trans m) p'
  | false => exact q _ B2 H2 n (.bl _)⟩
theorem ed_or {a b : Bool} (h : ED K ta σ B (.bool a)) (g : a = false → ED K tb σ B (.bool b)) : ED K (tOrV ta tb) σ B (.bool (a || b)) := fun H1 z Q q => h H1 z _ fun v B2 H2 n p => ⟨a, p.bl_inv, by
  cases a with
  | true => exact q _ B2 H2 n (.bl _)
  | false => exact ((g rfl).mono n.b) H2 n.i Q fun w B3 H3 m p' => q w B3 H3 (n.trans m) p'⟩
theorem ed_not {a : Bool} (h : ED K ta σ B (.bool a)) : ED K (tNotV ta) σ B (.bool (!a)) := fun H1 z Q q => h H1 z _ fun v B2 H2 n p => ⟨a, p.bl_inv, q _ B2 H2 n (.bl _)⟩
theorem ed_if {b : Bool} (h : ET tt σ B b) (g1 : b = true → ED K ta σ B d) (g2 : b = false → ED K tb σ B d) : ED K (tIf tt ta tb) σ B d := fun H1 z Q q => h H1 z _ fun B2 H2 n => by
  cases b with
  | true => exact ((g1 rfl).mono n.b) H2 n.i Q fun w B3 H3 m p' => q w B3 H3 (n.trans m) p'
  | false => exact ((g2 rfl).mono n.b) H2 n.i Q fun w B3 H3 m p' => q w B3 H3 (n.trans m) p'

/-! slices -/
theorem eo_none : EO tNoPart σ B none := fun H1 z Q q => q B H1 (Nxt.refl z)
theorem eo_some {i : Int} (h : ED K te σ B (.int i)) : EO (tPart te) σ B (some i) := fun H1 z Q q => h H1 z _ fun v B2 H2 n p => ⟨i, p.int_inv, q B2 H2 n⟩
def cutD (ds : List PyData) (lo hi : Option Int) : List PyData := (ds.drop (HT.sIx ds.length 0 lo)).take (HT.sIx ds.length ds.length hi - HT.sIx ds.length 0 lo)
theorem cut_all {lo hi : Option Int} {vs : List V} (h : DpAll K B vs ds) : DpAll K B (cutV vs lo hi) (cutD ds lo hi) := by
  unfold cutV cutD
  rw [h.len]
  exact (h.drop _).take _
/-- a part of a list or a tuple: of its kind -/
def likeD : PyData → List PyData → PyData
  | .list _, ds => .list ds
  | _, ds => .tuple ds
theorem ed_sl {tl th : TO} {lo hi : Option Int} (h : ED K te σ B d) (hi' : items d = some ds) (h1 : EO tl σ B lo) (h2 : EO th σ B hi) : ED K (tSl (fun x l h H Q => rSlL K x l h H Q ∨ rSlA K x l h H Q) te tl th) σ B (likeD d (cutD ds lo hi)) := fun H1 z Q q =>
  h H1 z _ fun v B2 H2 n p => (h1.mono n.b) H2 n.i _ fun B3 H3 m => (h2.mono (n.b.trans m.b)) H3 m.i _ fun B4 H4 k => by
    have nn := (n.trans m).trans k
    have pp := p.up (m.b.trans k.b)
    rcases items_cases hi' with rfl | rfl
    · obtain ⟨a, xs, rfl, hs, ha⟩ := pp.lst_inv
      exact Or.inl ⟨a, xs, rfl, sub_l k.i hs, fun b hb => q _ _ _ (nn.trans (Nxt.new k.i hb)) (dpL upd_same ((cut_all ha).up (Sub.updL (k.i.none hb))))⟩
    · obtain ⟨a, xs, rfl, hs, ha⟩ := pp.tup_inv
      refine Or.inr ⟨a, xs, rfl, sub_t k.i hs, fun w => ?_, fun w b hb => ?_⟩
      · refine q _ B4 H4 nn ?_
        have e : cutD ds lo hi = ds := by
          rw [ha.len] at w
          unfold cutD
          rw [w.1, w.2]
          simp
        show Dp K B4 (.ref a) (.tuple (cutD ds lo hi))
        rw [e]
        exact .tup hs ha
      · exact q _ _ _ (nn.trans (Nxt.new k.i hb)) (dpT upd_same ((cut_all ha).up (Sub.updL (k.i.none hb))))
end
end Who

/-! Who: loops and comprehensions over data. -/
namespace Who
open PySem L2
section
variable {B0 H0 B H : Hp} {p : Addr} {o : HO}
theorem Nxt.put (n : Nxt B0 H0 B H) (h : H0 p = none) (b : B p = none) : Nxt B0 H0 B (upd H p o) :=
  ⟨n.b, n.h.upd h, n.i.upd b, n.av⟩
theorem Nxt.frz (n : Nxt B0 H0 B H) (h0 : H0 p = none) (hp : H p = some o) (b : B p = none) : Nxt B0 H0 (upd B p o) H :=
  ⟨n.b.upd (n.b.none b), n.h, fun a u e => by
    by_cases q : a = p
    · subst q; rw [upd_same] at e; cases e; exact hp
    · rw [upd_ne q] at e; exact n.i a u e, fun a u e m => by
    by_cases q : a = p
    · subst q; rw [h0] at e; cases e
    · rw [upd_ne q]; exact n.av a u e m⟩
end

/-- a target takes a value: what the slots are then -/
def GD (g : TG) (σ : Stt) (B : Hp) (x : V) (P : Stt → Prop) : Prop := ∀ H, Sub B H → ∀ Q : Stt → Hp → Prop, (∀ σ2, P σ2 → Q σ2 H) → g x σ H Q
section
variable {K : PySem.W.Frag} {σ : Stt} {B H : Hp} {x y z : V}
theorem gd_name {i : Nat} : GD (gName i) σ B x (fun σ2 => σ2 = σ.set i (some x)) := fun H _ Q q => q _ rfl
theorem gd_tup2 {i j : Nat} {a : Addr} (h : SqT K B a [x, y]) : GD (gTup K 2 (gCons (gName i) (gCons (gName j) gNil))) σ B (.ref a) (fun σ2 => σ2 = (σ.set i (some x)).set j (some y)) := fun H s Q q =>
  ⟨a, [x, y], rfl, sub_t s h, rfl, x, [y], rfl, y, [], rfl, rfl, q _ rfl⟩
theorem gd_tup3 {i j k : Nat} {a : Addr} (h : SqT K B a [x, y, z]) : GD (gTup K 3 (gCons (gName i) (gCons (gName j) (gCons (gName k) gNil)))) σ B (.ref a) (fun σ2 => σ2 = ((σ.set i (some x)).set j (some y)).set k (some z)) := fun H s Q q =>
  ⟨a, [x, y, z], rfl, sub_t s h, rfl, x, [y, z], rfl, y, [z], rfl, z, [], rfl, rfl, q _ rfl⟩
end

/-! ### comprehensions -/
section
variable {K : PySem.W.Frag} {σ : Stt} {B : Hp} {tl te : TE} {tt : TT} {g : TG} {vs : List Nat}
/-- one turn: from an item of the data d, the target, the test, the value -/
def LcT (K : PySem.W.Frag) (g : TG) (tt : TT) (te : TE) (vs : List Nat) (σ : Stt) (B : Hp) (x : V) (keep : Bool) (val : PyData) : Prop :=
  ∃ P : Stt → Prop, GD g (wipe σ vs) B x P ∧ ∀ σ2, P σ2 → wipe σ2 vs = wipe σ vs ∧ ET tt σ2 B keep ∧ (keep = true → ED K te σ2 B val)
/-- the values of the items that are kept -/
def kept (keep : PyData → Bool) (val : PyData → PyData) (ds : List PyData) : List PyData := (ds.filter keep).map val
theorem kept_take (keep : PyData → Bool) (val : PyData → PyData) {ds : List PyData} {i : Nat} {d : PyData} (h : ds[i]? = some d) :
    kept keep val (ds.take (i + 1)) = kept keep val (ds.take i) ++ (if keep d = true then [val d] else []) := by
  have e : ds.take (i + 1) = ds.take i ++ [d] := by rw [List.take_add_one, h]; rfl
  unfold kept
  rw [e, List.filter_append, List.map_append]
  by_cases q : keep d = true
  · rw [if_pos q]; simp [q]
  · rw [if_neg q]; simp [q]
theorem kept_len (keep : PyData → Bool) (val : PyData → PyData) (ds : List PyData) : (kept keep val ds).length ≤ ds.length := by
  unfold kept
  rw [List.length_map]
  exact List.length_filter_le _ _
/-- the state within a comprehension -/
def LcI (K : PySem.W.Frag) (B H1 : Hp) (D : Addr) (out : List PyData) (H : Hp) : Prop := ∃ B2 acc, Nxt B H1 B2 H ∧ B2 D = none ∧ H D = some (.lst acc) ∧ DpAll K B2 acc out
theorem lcI_start {H1 : Hp} (s : Sub B H1) {D : Addr} (hD : H1 D = none) : LcI K B H1 D [] (upd H1 D (.lst [])) :=
  ⟨B, [], (Nxt.refl s).put hD (s.none hD), s.none hD, upd_same, .nil⟩
theorem lcI_end {H1 H : Hp} {D : Addr} {out : List PyData} (hD : H1 D = none) (h : LcI K B H1 D out H) {Q : VK} (q : ∀ v B2 H2, Nxt B H1 B2 H2 → Dp K B2 v (.list out) → Q v H2) : Q (.ref D) H := by
  obtain ⟨B2, acc, n, b, hh, dd⟩ := h
  exact q (.ref D) _ H (n.frz hD hh b) (dpL upd_same (dd.up (Sub.updL b)))
theorem lcI_turn {H1 H : Hp} {D : Addr} {out : List PyData} {x : V} {keep : Bool} {val : PyData} (hD : H1 D = none) (hz : out.length < 100000) (h : LcI K B H1 D out H) {B1 : Hp} (hB : ∀ B2, Sub B B2 → Sub B2 H → LcT K g tt te vs σ B2 x keep val) {Nx : Hp → Prop}
    (hN : ∀ H', LcI K B H1 D (out ++ (if keep = true then [val] else [])) H' → Nx H') : g x (wipe σ vs) H fun σ2 H2 => wipe σ2 vs = wipe σ vs ∧ tt σ2 H2 fun b H3 =>
      if b = true then te σ2 H3 fun y H4 => ∃ acc, H4 D = some (.lst acc) ∧ acc.length < sizeLine ∧ Nx (upd H4 D (.lst (acc ++ [y]))) else Nx H3 := by
  obtain ⟨B2, acc, n, b, hh, dd⟩ := h
  obtain ⟨P, hg, hP⟩ := hB B2 n.b n.i
  refine hg H n.i _ fun σ2 p => ?_
  obtain ⟨hw, ht, he⟩ := hP σ2 p
  refine ⟨hw, ht H n.i _ fun B3 H3 m => ?_⟩
  have b3 : B3 D = none := m.av D _ hh b
  have h3 : H3 D = some (.lst acc) := m.h D _ hh
  cases keep with
  | false => exact hN H3 ⟨B3, acc, n.trans m, b3, h3, by simpa using dd.up m.b⟩
  | true =>
    refine ((he rfl).mono m.b) H3 m.i _ fun y B4 H4 k p' => ?_
    have b4 : B4 D = none := k.av D _ h3 b3
    refine ⟨acc, k.h D _ h3, by rw [dd.len]; exact Nat.lt_of_lt_of_le hz (by decide), hN _ ⟨B4, acc ++ [y], ((n.trans m).trans k).put hD b4, b4, upd_same, ?_⟩⟩
    exact (dd.up (m.b.trans k.b)).app (.cons p' .nil)

/-- [te for target in a list if tt] -/
theorem ed_lc {ds : List PyData} (keep : PyData → Bool) (val : PyData → PyData) (hs : ED K tl σ B (.list ds)) (hz : ds.length ≤ 100000)
    (ht : ∀ x d B2, d ∈ ds → Sub B B2 → Dp K B2 x d → LcT K g tt te vs σ B2 x (keep d) (val d)) : ED K (tLc (iList K tl) g tt te vs) σ B (.list (kept keep val ds)) := fun H1 z Q q =>
  hs H1 z _ fun v B2 H2 n p => by
    obtain ⟨a, xs, rfl, hl, ha⟩ := p.lst_inv
    refine ⟨a, rfl, ⟨xs, sub_l n.i hl⟩, fun D hD => lc_list (K := K) (a := a) (xs := xs) (fun i H => LcI K B2 H2 D (kept keep val (ds.take i)) H) (by simpa [kept] using lcI_start n.i hD) (fun i H _ ⟨B3, _, m, _⟩ => sub_l (m.b.trans m.i) hl) ?_ ?_⟩
    · intro i x H hx h
      obtain ⟨d, hd, dx⟩ := ha.at' hx
      have hi : i < ds.length := (List.getElem?_eq_some_iff.mp hd).1
      refine lcI_turn (B := B2) (B1 := B2) (keep := keep d) (val := val d) hD ?_ h (fun B3 s3 _ => ht x d B3 (List.mem_of_getElem? hd) (n.b.trans s3) (dx.up s3)) fun H' h' => ?_
      · have := kept_len keep val (ds.take i)
        rw [List.length_take] at this
        omega
      · show LcI K B2 H2 D (kept keep val (ds.take (i + 1))) H'
        rw [kept_take keep val hd]; exact h'
    · intro H h
      rw [ha.len, List.take_length] at h
      exact lcI_end hD h fun w B3 H3 m p' => q w B3 H3 (n.trans m) p'
/-- the same over a tuple -/
theorem ed_lcT {ds : List PyData} (keep : PyData → Bool) (val : PyData → PyData) (hs : ED K tl σ B (.tuple ds)) (hz : ds.length ≤ 100000)
    (ht : ∀ x d B2, d ∈ ds → Sub B B2 → Dp K B2 x d → LcT K g tt te vs σ B2 x (keep d) (val d)) : ED K (tLc (iTup K tl) g tt te vs) σ B (.list (kept keep val ds)) := fun H1 z Q q =>
  hs H1 z _ fun v B2 H2 n p => by
    obtain ⟨a, xs, rfl, hl, ha⟩ := p.tup_inv
    refine ⟨a, rfl, ⟨xs, sub_t n.i hl⟩, fun D hD => lc_tup (K := K) (a := a) (xs := xs) (fun i H => LcI K B2 H2 D (kept keep val (ds.take i)) H) (by simpa [kept] using lcI_start n.i hD) (fun i H _ ⟨B3, _, m, _⟩ => sub_t (m.b.trans m.i) hl) ?_ ?_⟩
    · intro i x H hx h
      obtain ⟨d, hd, dx⟩ := ha.at' hx
      have hi : i < ds.length := (List.getElem?_eq_some_iff.mp hd).1
      refine lcI_turn (B := B2) (B1 := B2) (keep := keep d) (val := val d) hD ?_ h (fun B3 s3 _ => ht x d B3 (List.mem_of_getElem? hd) (n.b.trans s3) (dx.up s3)) fun H' h' => ?_
      · have := kept_len keep val (ds.take i)
        rw [List.length_take] at this
        omega
      · show LcI K B2 H2 D (kept keep val (ds.take (i + 1))) H'
        rw [kept_take keep val hd]; exact h'
    · intro H h
      rw [ha.len, List.take_length] at h
      exact lcI_end hD h fun w B3 H3 m p' => q w B3 H3 (n.trans m) p'
/-- over range(n) -/
theorem ed_lcR {ta : TE} {n : Nat} (val : Nat → PyData) (hs : ED K ta σ B (.int n)) (hz : n ≤ 100000)
    (ht : ∀ (i : Nat) B2, i < n → Sub B B2 → LcT K g tYes te vs σ B2 (.int i) true (val i)) : ED K (tLc (iRng1 (tCons ta tNil)) g tYes te vs) σ B (.list ((List.range n).map val)) := fun H1 z Q q =>
  hs H1 z _ fun v B2 H2 m p => by
    refine ⟨n, by rw [p.int_inv], by omega, by omega, fun D hD => ?_⟩
    have en : (n : Int).toNat = n := by simp
    rw [en]
    refine lc_range (lo := 0) (n := n) (fun i H => LcI K B2 H2 D ((List.range i).map val) H) (by simpa using lcI_start m.i hD) ?_ ?_
    · intro i H hi h
      have e0 : (0 : Int) + (i : Nat) = (i : Nat) := by omega
      rw [e0]
      refine lcI_turn (B := B2) (B1 := B2) (keep := true) (val := val i) hD ?_ h (fun B3 s3 _ => ht i B3 hi (m.b.trans s3)) fun H' h' => ?_
      · rw [List.length_map, List.length_range]; omega
      · show LcI K B2 H2 D ((List.range (i + 1)).map val) H'
        rw [List.range_succ, List.map_append]
        simpa using h'
    · intro H h
      exact lcI_end hD h fun w B3 H3 k p' => q w B3 H3 (m.trans k) p'
end

/-! ### for -/
section
variable {K : PySem.W.Frag} {σ : Stt} {B H : Hp} {tl te : TE} {g : TG} {tb : TS} {D : Ends}
/-- the wish behind a turn -/
def FdN (B : Hp) (Pv : Stt → Hp → Hp → Prop) : Stt → Hp → Prop := fun σ H => ∃ B', Sub B B' ∧ Sub B' H ∧ Pv σ B' H
theorem fd_list {ds : List PyData} (Pv : Nat → Stt → Hp → Hp → Prop) (s : Sub B H) (hs : ED K tl σ B (.list ds)) (h0 : ∀ B2 H2, Nxt B H B2 H2 → Pv 0 σ B2 H2)
    (ht : ∀ B2, Sub B B2 → ∀ i d x σ' B' H', ds[i]? = some d → Pv i σ' B' H' → Sub B2 B' → Sub B' H' → Dp K B' x d → g x σ' H' fun σ2 H2 => tb { D with nx := FdN B2 (Pv (i + 1)), ct := FdN B2 (Pv (i + 1)), bk := D.nx } σ2 H2)
    (hd : ∀ σ' B' H', Pv ds.length σ' B' H' → Sub B B' → Sub B' H' → D.nx σ' H') : tFor (iList K tl) g tb D σ H :=
  hs H s _ fun v B2 H2 n p => by
    obtain ⟨a, xs, rfl, hl, ha⟩ := p.lst_inv
    refine ⟨a, rfl, ⟨xs, sub_l n.i hl⟩, for_list (K := K) (a := a) (xs := xs) (fun i => FdN B2 (Pv i)) ⟨B2, Sub.refl _, n.i, h0 B2 H2 n⟩ (fun i σ' H' _ ⟨B', s1, s2, _⟩ => sub_l (s1.trans s2) hl) ?_ ?_⟩
    · rintro i x σ' H' hx ⟨B', s1, s2, pv⟩
      obtain ⟨d, hd', dx⟩ := ha.at' hx
      exact ht B2 n.b i d x σ' B' H' hd' pv s1 s2 (dx.up s1)
    · rintro σ' H' ⟨B', s1, s2, pv⟩
      rw [ha.len] at pv
      exact hd σ' B' H' pv (n.b.trans s1) s2
theorem fd_tup {ds : List PyData} (Pv : Nat → Stt → Hp → Hp → Prop) (s : Sub B H) (hs : ED K tl σ B (.tuple ds)) (h0 : ∀ B2 H2, Nxt B H B2 H2 → Pv 0 σ B2 H2)
    (ht : ∀ B2, Sub B B2 → ∀ i d x σ' B' H', ds[i]? = some d → Pv i σ' B' H' → Sub B2 B' → Sub B' H' → Dp K B' x d → g x σ' H' fun σ2 H2 => tb { D with nx := FdN B2 (Pv (i + 1)), ct := FdN B2 (Pv (i + 1)), bk := D.nx } σ2 H2)
    (hd : ∀ σ' B' H', Pv ds.length σ' B' H' → Sub B B' → Sub B' H' → D.nx σ' H') : tFor (iTup K tl) g tb D σ H :=
  hs H s _ fun v B2 H2 n p => by
    obtain ⟨a, xs, rfl, hl, ha⟩ := p.tup_inv
    refine ⟨a, rfl, ⟨xs, sub_t n.i hl⟩, for_tup (K := K) (a := a) (xs := xs) (fun i => FdN B2 (Pv i)) ⟨B2, Sub.refl _, n.i, h0 B2 H2 n⟩ (fun i σ' H' _ ⟨B', s1, s2, _⟩ => sub_t (s1.trans s2) hl) ?_ ?_⟩
    · rintro i x σ' H' hx ⟨B', s1, s2, pv⟩
      obtain ⟨d, hd', dx⟩ := ha.at' hx
      exact ht B2 n.b i d x σ' B' H' hd' pv s1 s2 (dx.up s1)
    · rintro σ' H' ⟨B', s1, s2, pv⟩
      rw [ha.len] at pv
      exact hd σ' B' H' pv (n.b.trans s1) s2
end

/-! ### enumerate over a list or a tuple -/
open PySem.Spec PyProof.Rows
theorem enum_new {v : Value} {o : Obj} {Hh : Heap → Prop} (B : Begins v o Hh) :
    Meets (Builtin.«enumerate.__new__» ⟨[.type "enumerate", v], []⟩) (fun _ R s => Hh s.heap ∧
      R (.ok (.ret (.ref (s.heap.push o).objs.size))) { s with heap := (s.heap.push o).push { cls := .type "enumerate", data := .fields #[.none, .bool false, .ref s.heap.objs.size, rawInt 0, .none, .none] } }) :=
  .of_wp fun prog w A R s h => by
    obtain ⟨hp, gg, dr, tk, os⟩ := s
    obtain ⟨h1, h⟩ := h
    have hsub := sub_enumerate
    have it1 : ∀ {A' : Around} {E : Value → Shared → Prop} {Q : Value → Shared → Prop}, Q (.ref hp.objs.size) ⟨hp.push o, gg, dr, tk, os⟩ → wpAny (model prog w) A' (pyIter v) Q E ⟨hp, gg, dr, tk, os⟩ :=
      fun q => B.iter prog w _ _ ⟨hp, gg, dr, tk, os⟩ _ h1 q
    wp_walk using it1
    refine wpAny_stack_any fun st => wpAny_pure ?_
    split
    · rename_i c _ _ _ _ _
      cases (c == Value.type "enumerate") <;>
      · wp_walk using it1
        exact ⟨_, rfl, h⟩
    · wp_walk using it1
      exact ⟨_, rfl, h⟩
theorem enum_call {prog : Program} {w : World} {A : Around} {E : Value → Shared → Prop} {s : Shared} {v : Value} {o : Obj} {Hh : Heap → Prop} {Q : Value → Shared → Prop} (B : Begins v o Hh) (h1 : Hh s.heap)
    (h : ∀ h', IsEnum h' (s.heap.objs.size + 1) s.heap.objs.size 0 .none → h'.get? s.heap.objs.size = some o →
      (∀ b o, s.heap.get? b = some o → h'.get? b = some o) → Q (.ref (s.heap.objs.size + 1)) { s with heap := h' }) :
    wpAny (model prog w) A (call (.type "enumerate") [v]) Q E s := by
  refine callType_new F.called_enumerate (by decide) (F.typeCall_enumerate_1 _) (F.newCall_enumerate_1 _) (fun obj => F.args_object_init_2 obj _) F.entry_enumerate_new (enum_new B) ⟨h1, ?_⟩
  have hz : (s.heap.push o).objs.size = s.heap.objs.size + 1 := Heap.size_push ..
  have he := Heap.get?_push_size (s.heap.push o) (o := { cls := .type "enumerate", data := .fields #[.none, .bool false, .ref s.heap.objs.size, rawInt 0, .none, .none] }) rfl
  rw [hz] at he
  show _ ∧ _
  rw [hz]
  exact ⟨⟨_, he, rfl⟩, h _ he (Heap.get?_push_of_some _ (Heap.get?_push_size _ B.free)) fun b u x => Heap.get?_push_of_some _ (Heap.get?_push_of_some _ x)⟩
/-- the tuple at a as it stands at each turn, its items in new pairs with their places -/
def IteT (K : PySem.W.Frag) (a : Addr) : It :=
  ⟨fun i H => ∃ (xs : List V) (x : V), SqT K H a xs ∧ xs[i]? = some x, fun i H v H' => ∃ T x, v = .ref T ∧ H T = none ∧ H' = upd H T (.tup [.int (i : Nat), x]) ∧ ∀ xs, SqT K H a xs → xs[i]? = some x, fun i H => ∃ xs : List V, SqT K H a xs ∧ xs.length = i⟩
theorem turn_enumT {P : Program} {w : World} {K : PySem.W.Frag} {elts : List Expr} {kk : Nat} {tpos : Pos} (a e it : Addr) :
    Turn P w K (.Tuple elts kk tpos) (IteT K a) [e, it] e (fun i h => (∃ old, IsEnum h e it ((i : Nat) : Int) old) ∧ h.IsTupleIter it a i ∧ e ≠ it ∧ a ≠ it ∧ a ≠ e) where
  mem := by simp
  obj := fun i h st b hb => by
    obtain ⟨⟨old, he⟩, ⟨o, ho, hc, hd⟩, _⟩ := st
    rcases (show b = e ∨ b = it by simpa using hb) with z | z
    · subst z; exact ⟨_, he, fun v q => nomatch q⟩
    · subst z; exact ⟨o, ho, fun v q => by rw [hd] at q; cases q⟩
  keep := fun i h h' st k => let ⟨⟨old, he⟩, hi, hne⟩ := st; ⟨⟨old, k e (by simp) _ he⟩, hi.at fun o q => k it (by simp) o q, hne⟩
  item := by
    intro X hP hw hK hc i pins s σ H E I hf st hg
    subst hP hw hK
    obtain ⟨⟨old, he⟩, hit, hne, hai, hae⟩ := st
    obtain ⟨xs, x, hq, hx⟩ := hg
    obtain ⟨its, rv, p, hz⟩ := I.tuple hq
    obtain ⟨u, hu, ru⟩ := rv.get hx
    have hil : i < its.toArray.size := by have := (List.getElem?_eq_some_iff.mp hu).1; simpa using this
    have hel : e < s.heap.objs.size := Heap.lt_size he
    have hitl : it < s.heap.objs.size := by obtain ⟨_, q, _⟩ := hit; exact Heap.lt_size q
    have DD := Draws.tuple (prog := X.prog) (w := X.w) (A := X.A.in1) (I.ok.hd hc) it a hai its.toArray
    refine wpAny_pyNext_enum_itemD DD he ⟨hit, show s.heap.IsTuple a its.toArray from p⟩ hil hne (by simp [hne, Ne.symm hae]) fun y h' tk hy ho st' hT hsz hk => ?_
    have ey : y = u := by
      rw [List.getElem?_toArray] at hy
      exact Option.some.inj (hy.symm.trans hu)
    subst ey
    refine ⟨_, rfl, wpAny_letOwnedTupleGo_enum (s := { s with heap := h', toks := tk + 1 }) ho fun h'' he' sb => ?_⟩
    have hT2 : h''.get? s.heap.objs.size = some { cls := .type "tuple", data := .seq #[.int i tk, y] } := (sb.2 _ (Nat.ne_of_gt hel)).trans hT
    have new : ObjOk X.prog X.w (upd H s.heap.objs.size (.tup [.int (i : Nat), x])) h'' s.heap.objs.size (.tup [.int (i : Nat), x]) :=
      ⟨by show 2 ≤ sizeLine; decide, [.int i tk, y], .cons ⟨_, rfl⟩ (.cons ru .nil), ⟨_, hT2, rfl, _, rfl⟩⟩
    have I1 : Inv X pins σ (upd H s.heap.objs.size (.tup [.int (i : Nat), x])) { s with heap := h'', toks := tk + 1 } :=
      I.turnedNew (ch := [e, it]) (fun b ob hb q => by
        have b1 : b ≠ e := fun z => hb (by simp [z])
        have b2 : b ≠ it := fun z => hb (by simp [z])
        exact (sb.2 b b1).trans (hk b ob b1 b2 q)) hf (Nat.le_refl _) new
    refine ⟨.ref s.heap.objs.size, _, I1, rfl, ⟨_, x, rfl, I.hok.fresh (Nat.le_refl _), rfl, fun ys hy => by rw [I.tuple_inj hy hq]; exact hx⟩, ⟨⟨y, ?_⟩, st'.1.at fun o q => (sb.2 it (Ne.symm hne)).trans q, hne, hai, hae⟩, fun b hb => ?_⟩
    · have e1 : ((i + 1 : Nat) : Int) = (i : Int) + 1 := by omega
      rw [e1]; exact he'
    · have hb' : b < s.heap.objs.size := by
        rcases (show b = e ∨ b = it by simpa using hb) with z | z <;> subst z <;> assumption
      rw [upd_ne (Nat.ne_of_lt hb')]
      exact (hf b hb).1
  done := by
    intro X hP hw hK hc i pins s σ H E I hf st hg
    subst hP hw hK
    obtain ⟨⟨old, he⟩, hit, hne, hai, hae⟩ := st
    obtain ⟨xs, hq, hx⟩ := hg
    obtain ⟨its, rv, p, hz⟩ := I.tuple hq
    obtain ⟨f0, f1, f2, f3, f4, f5⟩ := hf it (by simp)
    have hl := rv.length
    have DD := Draws.tuple (prog := X.prog) (w := X.w) (A := X.A.in1) (I.ok.hd hc) it a hai its.toArray
    have ei : i = its.toArray.size := by simp; omega
    exact wpAny_pyNext_enum_endD DD he (by rw [← ei]; exact ⟨hit, show s.heap.IsTuple a its.toArray from p⟩) fun h' eb => ⟨rfl, I.turned (t' := s.toks) (fun b o hb q => eb b o hb q) f0 f1 f3 f4 f5⟩
  self := fun A i s Q E st h => let ⟨⟨_, he⟩, _⟩ := st; wpAny_pyIter_enum he h
/-- enumerate(e), e a list or a tuple -/
def iEnumA (K : PySem.W.Frag) (ta : TA) : TI := fun σ H R => ta σ H fun vs H1 => ∃ a xs, vs = [.ref a] ∧ ((SqL K H1 a xs ∧ R (Ite K a) H1) ∨ (SqT K H1 a xs ∧ R (IteT K a) H1))
theorem pi_enumA {X : Cx} {e : Expr} {ta : TA} {p pos tpos : Pos} {elts : List Expr} {kk : Nat} (hg : Gl X "enumerate") (hm : X.mg "enumerate" = none) (ha : PA X [e] ta) (hs : starEach [e] X.env = [(false, eval e X.env)] := by rfl) :
    PI X (.Tuple elts kk tpos) (.Call (.Name "enumerate" p) [e] [] pos) (iEnumA X.K ta) := by
  refine ⟨fun pins s σ H R I h => ?_⟩
  refine Call_ (ld_blt I hg hm boot_enumerate (PyProof.Rows.callWith_type1 (thn (ha.run pos pins s σ H _ I h) fun us s1 ⟨vs, H1, I1, r1, q1⟩ => ?_) hs rfl))
  obtain ⟨a, xs, ex, q⟩ := q1
  subst ex
  obtain ⟨u, rfl, ru⟩ := vals1 r1
  cases ru
  have fp : ∀ b ∈ [s1.heap.objs.size + 1, s1.heap.objs.size], FpOk X pins H1 b := fun b hb => by
    have hle : s1.heap.objs.size ≤ b := by
      rcases (show b = s1.heap.objs.size + 1 ∨ b = s1.heap.objs.size by simpa using hb) with z | z <;> rw [z]
      · exact Nat.le_add_right _ _
      · exact Nat.le_refl _
    exact I1.fpOk hle (I1.hok.fresh hle)
  rcases q with ⟨hq, q⟩ | ⟨hq, q⟩
  · obtain ⟨its, rv, p', hz⟩ := I1.list hq
    refine call_enumerate_list p'.isList fun h' he hit hsz hk => wpAny_pyIter_enum he ?_
    exact ⟨s1.heap.objs.size + 1, [s1.heap.objs.size + 1, s1.heap.objs.size], _, _, H1, rfl, I1.kept (t' := s1.toks) hk, turn_enum a (s1.heap.objs.size + 1) s1.heap.objs.size, ⟨⟨.none, he⟩, hit, Nat.succ_ne_self _⟩, fp, q⟩
  · obtain ⟨its, rv, p', hz⟩ := I1.tuple hq
    have hta : s1.heap.IsTuple a its.toArray := p'
    refine enum_call (begins_tuple a its.toArray) hta fun h' he hit hk => wpAny_pyIter_enum he ?_
    have hal : a < s1.heap.objs.size := by obtain ⟨o, e1, _⟩ := hta; exact Heap.lt_size e1
    exact ⟨s1.heap.objs.size + 1, [s1.heap.objs.size + 1, s1.heap.objs.size], _, _, H1, rfl, I1.kept (t' := s1.toks) hk, turn_enumT a (s1.heap.objs.size + 1) s1.heap.objs.size,
      ⟨⟨.none, he⟩, ⟨_, hit, rfl, rfl⟩, Nat.succ_ne_self _, Nat.ne_of_lt hal, Nat.ne_of_lt (Nat.lt_succ_of_lt hal)⟩, fp, q⟩
section
variable {K : PySem.W.Frag} {σ : Stt} {B H : Hp} {tl : TE} {g : TG} {tb : TS} {D : Ends}
/-- for at, x in enumerate(e): each turn a new pair -/
theorem fd_enum {d0 : PyData} {ds : List PyData} (Pv : Nat → Stt → Hp → Hp → Prop) (s : Sub B H) (hs : ED K tl σ B d0) (hi : items d0 = some ds) (h0 : ∀ B2 H2, Nxt B H B2 H2 → Pv 0 σ B2 H2)
    (up : ∀ i σ' B' H' T o, Pv i σ' B' H' → H' T = none → Sub B' H' → Pv i σ' (upd B' T o) (upd H' T o))
    (ht : ∀ B2, Sub B B2 → ∀ (i : Nat) d x T σ' B' H', ds[i]? = some d → Pv i σ' B' H' → Sub B2 B' → Sub B' H' → SqT K B' T [.int i, x] → Dp K B' x d → g (.ref T) σ' H' fun σ2 H2 => tb { D with nx := FdN B2 (Pv (i + 1)), ct := FdN B2 (Pv (i + 1)), bk := D.nx } σ2 H2)
    (hd : ∀ σ' B' H', Pv ds.length σ' B' H' → Sub B B' → Sub B' H' → D.nx σ' H') : tFor (iEnumA K (tCons tl tNil)) g tb D σ H :=
  hs H s _ fun v B2 H2 n p => by
    rcases items_cases hi with rfl | rfl
    · obtain ⟨a, xs, rfl, hl, ha⟩ := p.lst_inv
      refine ⟨a, xs, rfl, .inl ⟨sub_l n.i hl, fun i m σ' H' => m = xs.length - i ∧ i ≤ xs.length ∧ FdN B2 (Pv i) σ' H', ⟨xs.length, by simp, Nat.zero_le _, B2, Sub.refl _, n.i, h0 B2 H2 n⟩, ?_⟩⟩
      rintro i m σ' H' ⟨rfl, hi', B', s1, s2, pv⟩
      have hq := sub_l (s1.trans s2) hl
      by_cases hlt : i < xs.length
      · refine .inr ⟨⟨xs, xs[i], hq, by simp [hlt]⟩, FdN B2 (Pv (i + 1)), fun σ3 H3 p' => ⟨xs.length - (i + 1), by omega, rfl, hlt, p'⟩, fun x H3 y => ?_⟩
        obtain ⟨T, x', rfl, hT, rfl, y⟩ := y
        obtain ⟨d, hd', dx⟩ := ha.at' (y xs hq)
        exact ht B2 n.b i d x' T σ' (upd B' T _) _ hd' (up i σ' B' H' T _ pv hT s2) (s1.trans (Sub.updL (s2.none hT))) (s2.upd2 hT) (SqT.of upd_same) (dx.up (s1.trans (Sub.updL (s2.none hT))))
      · have e : i = xs.length := by omega
        subst e
        refine .inl ⟨⟨xs, hq, Nat.le_refl _⟩, ?_⟩
        rw [ha.len] at pv
        exact hd σ' B' H' pv (n.b.trans s1) s2
    · obtain ⟨a, xs, rfl, hl, ha⟩ := p.tup_inv
      refine ⟨a, xs, rfl, .inr ⟨sub_t n.i hl, fun i m σ' H' => m = xs.length - i ∧ i ≤ xs.length ∧ FdN B2 (Pv i) σ' H', ⟨xs.length, by simp, Nat.zero_le _, B2, Sub.refl _, n.i, h0 B2 H2 n⟩, ?_⟩⟩
      rintro i m σ' H' ⟨rfl, hi', B', s1, s2, pv⟩
      have hq := sub_t (s1.trans s2) hl
      by_cases hlt : i < xs.length
      · refine .inr ⟨⟨xs, xs[i], hq, by simp [hlt]⟩, FdN B2 (Pv (i + 1)), fun σ3 H3 p' => ⟨xs.length - (i + 1), by omega, rfl, hlt, p'⟩, fun x H3 y => ?_⟩
        obtain ⟨T, x', rfl, hT, rfl, y⟩ := y
        obtain ⟨d, hd', dx⟩ := ha.at' (y xs hq)
        exact ht B2 n.b i d x' T σ' (upd B' T _) _ hd' (up i σ' B' H' T _ pv hT s2) (s1.trans (Sub.updL (s2.none hT))) (s2.upd2 hT) (SqT.of upd_same) (dx.up (s1.trans (Sub.updL (s2.none hT))))
      · have e : i = xs.length := by omega
        subst e
        refine .inl ⟨⟨xs, hq, rfl⟩, ?_⟩
        rw [ha.len] at pv
        exact hd σ' B' H' pv (n.b.trans s1) s2
end
end Who

/-! Who: dicts whose keys are (nested) tuples. -/
namespace Who
open PySem L2 PySem.Spec PyProof.Rows
/-- an entry: the key, where its tuple stands, the value -/
abbrev NP := NestedKey × Addr × V
abbrev NRel : List NP → List (NestedKey × Addr × Value) → Prop := Paired fun p q => p.1 = q.1 ∧ p.2.1 = q.2.1 ∧ RelV p.2.2 q.2.2
def psAt (ps : List NP) (k : NestedKey) : Option V := (ps.find? fun p => decide (p.1 = k)).map fun p => p.2.2
def psPut (ps : List NP) (k : NestedKey) (a : Addr) (v : V) : List NP :=
  if (psAt ps k).isSome = true then ps.map (fun p => if p.1 = k then (p.1, p.2.1, v) else p) else ps ++ [(k, a, v)]
theorem psAt_pos {p : NP} {r : List NP} {k : NestedKey} (e : p.1 = k) : psAt (p :: r) k = some p.2.2 := by simp [psAt, List.find?_cons, e]
theorem psAt_neg {p : NP} {r : List NP} {k : NestedKey} (e : ¬ p.1 = k) : psAt (p :: r) k = psAt r k := by simp [psAt, List.find?_cons, e]
theorem psPut_len (ps : List NP) (k : NestedKey) (a : Addr) (v : V) : (psPut ps k a v).length ≤ ps.length + 1 := by
  unfold psPut
  split <;> simp
theorem NRel.at {ps : List NP} {xs : List (NestedKey × Addr × Value)} (r : NRel ps xs) (k : NestedKey) : RelO (psAt ps k) ((atKey xs k).map (·.2)) := by
  unfold NRel at r
  induction r with
  | nil => exact True.intro
  | @cons p q ps' qs h t ih =>
    obtain ⟨h1, h3, h2⟩ := h
    by_cases e : p.1 = k
    · have e' : q.1 = k := h1.symm.trans e
      have b : atKey (q :: qs) k = some q.2 := by simp [atKey, List.find?_cons, e']
      rw [psAt_pos e, b]; exact h2
    · have e' : ¬ q.1 = k := fun z => e (h1.trans z)
      have b : atKey (q :: qs) k = atKey qs k := by simp [atKey, List.find?_cons, e']
      rw [psAt_neg e, b]; exact ih
theorem NRel.put {ps : List NP} {xs : List (NestedKey × Addr × Value)} (r : NRel ps xs) (k : NestedKey) (a : Addr) {y : V} {u : Value} (ry : RelV y u) : NRel (psPut ps k a y) (storedH xs k a u) := by
  have e : (psAt ps k).isSome = (atKey xs k).isSome := by rw [(r.at k).isSome_eq, Option.isSome_map]
  unfold psPut storedH
  rw [e]
  by_cases q : (atKey xs k).isSome = true
  · rw [if_pos q, if_pos q]
    clear e q
    induction r with
    | nil => exact .nil
    | @cons p q ps' qs h t ih =>
      rw [List.map_cons, List.map_cons]
      refine .cons ?_ ih
      unfold putAt
      by_cases z : p.1 = k
      · rw [if_pos z, if_pos (h.1.symm.trans z)]; exact ⟨h.1, h.2.1, ry⟩
      · rw [if_neg z, if_neg (fun w => z (h.1.trans w))]; exact h
  · rw [if_neg q, if_neg q]; exact Paired.snoc r ⟨rfl, rfl, ry⟩

/-- what is true of the object of such a dict -/
def NdPhi (P : Program) (w : World) (d : Addr) (ps : List NP) (h : Heap) : Prop :=
  ps.length ≤ sizeLine ∧ (d == sysModules) = false ∧ ∃ xs, NRel ps xs ∧ ∃ o es ep, h.get? d = some o ∧ o.ExactDict ∧ o.data = .dict es ep ∧ es.toList = xs.map (entryOfKey (nestedKind P w)) ∧ (xs.map (·.1)).Nodup
def NdO (P : Program) (w : World) (d : Addr) (ps : List NP) : HO := .ext (NdPhi P w d ps)
theorem ndO_ok {P : Program} {w : World} {H : Hp} {h : Heap} {d : Addr} {ps : List NP} (x : NdPhi P w d ps h) : ObjOk P w H h d (NdO P w d ps) := by
  obtain ⟨z, y, xs, r, o, es, ep, ho, c⟩ := id x
  refine ⟨x, ⟨o, ho⟩, fun h1 h2 q k => ?_⟩
  obtain ⟨z, y, xs, r, o, es, ep, ho, c⟩ := q
  exact ⟨z, y, xs, r, o, es, ep, k o ho, c⟩
theorem ndO_get {P : Program} {w : World} {H : Hp} {h : Heap} {d : Addr} {ps : List NP} (ok : HOk P w H h) (e : H d = some (NdO P w d ps)) : NdPhi P w d ps h := (ok d _ e).1

mutual
/-- a key as data -/
def kD : NestedKey → PyData
  | .none => .none
  | .num i => .int i
  | .text x => .str x
  | .tup ks => .tuple (kDs ks)
def kDs : List NestedKey → List PyData
  | [] => []
  | k :: ks => kD k :: kDs ks
end
section
variable {X : Cx} {pins : List (Addr × Obj)} {σ : L2.St} {H : Hp} {s : Shared}
mutual
theorem dp_key (I : Inv X pins σ H s) : ∀ (k : NestedKey) (v : V) (u : Value), Dp X.K H v (kD k) → RelV v u → NestedIs s.heap k u
  | .none, _, _, h, r => by
    simp only [kD] at h
    cases h; cases r; exact .none
  | .num i, _, _, h, r => by
    simp only [kD] at h
    cases h
    obtain ⟨t, rfl⟩ := r
    exact .int i t
  | .text x, _, _, h, r => by
    simp only [kD] at h
    cases h
    obtain ⟨t, rfl⟩ := r
    exact .text x t
  | .tup ks, _, _, h, r => by
    simp only [kD] at h
    cases h with
    | tup hs ha =>
      cases r
      obtain ⟨its, rv, ⟨o, ho, hc, n, hd⟩, _⟩ := I.tuple hs
      exact .tup ho hc hd (by simpa using dp_keys I ks _ its ha rv)
theorem dp_keys (I : Inv X pins σ H s) : ∀ (ks : List NestedKey) (vs : List V) (us : List Value), DpAll X.K H vs (kDs ks) → Vals vs us → NestedAll s.heap ks us
  | [], _, _, h, r => by
    simp only [kDs] at h
    cases h; cases r; exact .nil
  | k :: ks, _, _, h, r => by
    simp only [kDs] at h
    cases h with
    | cons h1 h2 =>
      cases r with
      | cons r1 r2 => exact .cons (dp_key I k _ _ h1 r1) (dp_keys I ks _ _ h2 r2)
end
end
/-- the key's tuple stands at a -/
def KeyAt (K : PySem.W.Frag) (B : Hp) (a : Addr) (k : NestedKey) : Prop := Dp K B (.ref a) (kD k) ∧ k.depth ≤ 8
def KeysAt (K : PySem.W.Frag) (B : Hp) (ps : List NP) : Prop := ∀ p ∈ ps, KeyAt K B p.2.1 p.1
theorem KeyAt.up {K : PySem.W.Frag} {B H : Hp} {a : Addr} {k : NestedKey} (x : KeyAt K B a k) (s : Sub B H) : KeyAt K H a k := ⟨x.1.up s, x.2⟩
theorem KeysAt.up {K : PySem.W.Frag} {B H : Hp} {ps : List NP} (x : KeysAt K B ps) (s : Sub B H) : KeysAt K H ps := fun p hp => (x p hp).up s
theorem KeysAt.put {K : PySem.W.Frag} {B : Hp} {ps : List NP} {k : NestedKey} {a : Addr} {v : V} (x : KeysAt K B ps) (h : KeyAt K B a k) : KeysAt K B (psPut ps k a v) := fun p hp => by
  unfold psPut at hp
  split at hp
  · obtain ⟨q, hq, e⟩ := List.mem_map.mp hp
    by_cases z : q.1 = k
    · rw [if_pos z] at e; subst e; exact x q hq
    · rw [if_neg z] at e; subst e; exact x q hq
  · rcases List.mem_append.mp hp with hq | hq
    · exact x p hq
    · simp at hq; subst hq; exact h

section
variable {X : Cx} {pins : List (Addr × Obj)} {σ : L2.St} {H : Hp} {s : Shared} {d a : Addr} {ps : List NP} {k : NestedKey} {v : V} {A : Around} {E : Value → Shared → Prop}
theorem nk_is (I : Inv X pins σ H s) (h : KeyAt X.K H a k) : (nestedKind X.prog X.w).is s.heap k a := ⟨dp_key I k (.ref a) (.ref a) h.1 rfl, h.2⟩
theorem nd_of (I : Inv X pins σ H s) (e : H d = some (NdO X.prog X.w d ps)) (hk : KeysAt X.K H ps) :
    ps.length ≤ sizeLine ∧ (d == sysModules) = false ∧ ∃ xs, NRel ps xs ∧ s.heap.DictOfH (nestedKind X.prog X.w) d xs := by
  obtain ⟨z, y, xs, r, o, es, ep, h1, h2, h3, h4, h5⟩ := ndO_get I.hok e
  refine ⟨z, y, xs, r, o, es, ep, h1, h2, h3, h4, fun x hx => ?_, h5⟩
  have all : ∀ {l : List NP} {m : List (NestedKey × Addr × Value)}, NRel l m → (∀ p ∈ l, KeyAt X.K H p.2.1 p.1) → ∀ x ∈ m, (nestedKind X.prog X.w).is s.heap x.1 x.2.1 := by
    intro l m q
    unfold NRel at q
    induction q with
    | nil => intro _ x hx; exact nomatch hx
    | @cons p q ps' qs hq t ih =>
      intro hl x hx
      rcases List.mem_cons.mp hx with e | hx
      · subst e
        rw [← hq.1, ← hq.2.1]
        exact nk_is I (hl p List.mem_cons_self)
      · exact ih (fun p' hp' => hl p' (List.mem_cons_of_mem _ hp')) x hx
  exact all r hk x hx
theorem nd_phi {h' : Heap} {xs : List (NestedKey × Addr × Value)} (z : ps.length ≤ sizeLine) (y : (d == sysModules) = false) (r : NRel ps xs) (m : h'.DictOfH (nestedKind X.prog X.w) d xs) : NdPhi X.prog X.w d ps h' := by
  obtain ⟨o, es, ep, h1, h2, h3, h4, _, h5⟩ := m
  exact ⟨z, y, xs, r, o, es, ep, h1, h2, h3, h4, h5⟩
theorem nd_write {h' : Heap} {t' : Nat} {ps' : List NP} {xs : List (NestedKey × Addr × Value)} (I : Inv X pins σ H s) (e : H d = some (NdO X.prog X.w d ps)) (y : (d == sysModules) = false) (z : ps'.length ≤ sizeLine) (r : NRel ps' xs)
    (m : h'.DictOfH (nestedKind X.prog X.w) d xs) (hs : Heap.SameBut d s.heap h') : Inv X pins σ (upd H d (NdO X.prog X.w d ps')) { s with heap := h', toks := t' } := by
  have he : ∃ q, h'.get? d = some q := let ⟨q, _, _, hq, _⟩ := m; ⟨q, hq⟩
  exact I.write (by rw [e]; exact True.intro) (.inl rfl) (fun b u hb q => (hs.2 b hb).trans q) he (ndO_ok (nd_phi z y r m))
theorem nroom (hu : A.units + 10 < cLine) : (nestedKind X.prog X.w).room A.in1 := by
  show A.units + 1 + 8 < cLine
  omega
theorem nroom0 (hu : A.units + 10 < cLine) : (nestedKind X.prog X.w).room A := by
  show A.units + 8 < cLine
  omega

/-- k in d, k not in d -/
def rNIn (P : Program) (w : World) (K : PySem.W.Frag) (neg : Bool) : R2 := fun x y H Q => ∃ a d k ps, x = .ref a ∧ y = .ref d ∧ KeyAt K H a k ∧ H d = some (NdO P w d ps) ∧ KeysAt K H ps ∧ Q (.bl (if neg then !(psAt ps k).isSome else (psAt ps k).isSome)) H
theorem op_nin (hu : X.A.units + 10 < cLine) : OpR X (compareOp .In) (rNIn X.prog X.w X.K false) := by
  intro pins s σ H x y v u Q I rx ry h
  obtain ⟨a, d, k, ps, rfl, rfl, hk, hd, hks, q⟩ := h
  cases rx; cases ry
  obtain ⟨z, hs, xs, r, m⟩ := nd_of I hd hks
  refine wpAny_in_heap (nroom hu) (nk_is I hk) hs m ⟨_, H, I.tok _, ?_, q⟩
  have e := (r.at k).isSome_eq
  rw [Option.isSome_map] at e
  show Value.bool _ = Value.bool _
  rw [← e]
  rfl
theorem op_nnotin (hu : X.A.units + 10 < cLine) : OpR X (compareOp .NotIn) (rNIn X.prog X.w X.K true) := by
  intro pins s σ H x y v u Q I rx ry h
  obtain ⟨a, d, k, ps, rfl, rfl, hk, hd, hks, q⟩ := h
  cases rx; cases ry
  obtain ⟨z, hs, xs, r, m⟩ := nd_of I hd hks
  refine wpAny_notIn_heap (nroom hu) (nk_is I hk) hs m ⟨_, H, I.tok _, ?_, q⟩
  have e := (r.at k).isSome_eq
  rw [Option.isSome_map] at e
  show Value.bool _ = Value.bool _
  rw [← e]
  rfl
end
section
variable {X : Cx} {o i e f : Expr} {td ty tx : TE} {pos apos cpos : Pos}
/-- d[k] -/
def tNGet (P : Program) (w : World) (K : PySem.W.Frag) (td ty : TE) : TE := fun σ H Q => td σ H fun y H1 => ty σ H1 fun x H2 => ∃ a d k ps v, x = .ref a ∧ y = .ref d ∧ KeyAt K H2 a k ∧ H2 d = some (NdO P w d ps) ∧ KeysAt K H2 ps ∧ psAt ps k = some v ∧ Q v H2
theorem pe_nget (hu : X.A.units + 10 < cLine) (ho : PE X o td) (hi : PE X i ty) (hs : NoSl i) : PE X (.Subscript o i pos) (tNGet X.prog X.w X.K td ty) := by
  refine ⟨fun pins s σ H Q I h => ?_⟩
  refine subD_of PySem.F.slot_dict_getitem.lookup hs (thn (ho.run pins s σ H _ I h) fun ov s1 ⟨y, H1, I1, r1, q1⟩ => thn (hi.run pins s1 σ H1 _ I1 q1) fun iv s2 ⟨x, H2, I2, r2, q2⟩ => ?_)
  obtain ⟨a, d, k, ps, v, rfl, rfl, hk, hd, hks, hv, q⟩ := q2
  cases r1; cases r2
  obtain ⟨z, hs, xs, r, m⟩ := nd_of I2 hd hks
  refine ⟨m.typeIs, ?_⟩
  obtain ⟨w', hw, rw'⟩ := RelO.some_of (v := v) (o := (atKey xs k).map (·.2)) (by rw [← hv]; exact r.at k)
  obtain ⟨p, hp, hp2⟩ := Option.map_eq_some_iff.mp hw
  refine wpAny_getItem_heap (nroom hu) (nk_is I2 hk) m hp ?_
  rw [hp2]
  exact ⟨v, H2, I2.tok _, rw', q⟩
/-- d[k] = v -/
def rNSet (P : Program) (w : World) (K : PySem.W.Frag) : TSet := fun o i v H Q => ∃ a d k ps, i = .ref a ∧ o = .ref d ∧ KeyAt K H a k ∧ H d = some (NdO P w d ps) ∧ KeysAt K H ps ∧ ps.length < sizeLine ∧ Q (upd H d (NdO P w d (psPut ps k a v)))
theorem set_nd (hu : X.A.units + 10 < cLine) : PSet X (rNSet X.prog X.w X.K) := by
  intro pins s σ H o i v ov iv u Q I ro ri rv h
  obtain ⟨a, d, k, ps, rfl, rfl, hk, hd, hks, hz, q⟩ := h
  cases ro; cases ri
  obtain ⟨z, hs, xs, r, m⟩ := nd_of I hd hks
  have hl : ps.length = xs.length := Paired.length r
  refine wpAny_setItem_heap (hsz := by omega) (nroom hu) (nk_is I hk) m fun h' m' sb => ?_
  refine ⟨_, nd_write I hd hs ?_ (r.put k a rv) m' sb, q⟩
  have := psPut_len ps k a v
  omega
/-- {} -/
def tNNew (P : Program) (w : World) : TE := fun _ H Q => ∀ p, H p = none → Q (.ref p) (upd H p (NdO P w p []))
theorem nd_empty {P : Program} {w : World} {H : Hp} (h : Heap) (hb : sysModules < h.objs.size) : ObjOk P w H (h.push { cls := .type "dict", data := .dict #[] }) h.objs.size (NdO P w h.objs.size []) := by
  refine ndO_ok ⟨Nat.zero_le _, ?_, [], .nil, _, #[], 0, Heap.get?_push_size _ rfl, ⟨rfl, rfl, rfl⟩, rfl, rfl, by simp⟩
  exact beq_eq_false_iff_ne.mpr (Nat.ne_of_gt hb)
theorem pe_nnew : PE X (.Dict [] [] pos) (tNNew X.prog X.w) := by
  refine ⟨fun pins s σ H Q I h => ?_⟩
  have J := I.laid (t' := s.toks) (fun b o e => Heap.get?_push_of_some { cls := .type "dict", data := .dict #[] } e) (Nat.le_refl _) (nd_empty (P := X.prog) (w := X.w) (H := upd H s.heap.objs.size (NdO X.prog X.w s.heap.objs.size [])) s.heap I.big)
  exact wpAny_Dict_empty ⟨.ref s.heap.objs.size, _, J, rfl, h _ (I.hok.fresh (Nat.le_refl _))⟩
/-- d.setdefault(k, x) -/
def tNSetd (P : Program) (w : World) (K : PySem.W.Frag) (td ty tx : TE) : TE := fun σ H Q => td σ H fun y H1 => ∃ d ps1, y = .ref d ∧ H1 d = some (NdO P w d ps1) ∧ ty σ H1 fun x H2 => tx σ H2 fun z H3 => ∃ a k ps, x = .ref a ∧ KeyAt K H3 a k ∧ H3 d = some (NdO P w d ps) ∧ KeysAt K H3 ps ∧ ps.length < sizeLine ∧
  (∀ v, psAt ps k = some v → Q v H3) ∧ (psAt ps k = none → Q z (upd H3 d (NdO P w d (psPut ps k a z))))
theorem pe_nsetd (hu : X.A.units + 10 < cLine) (ho : PE X o td) (he : PE X e ty) (hf : PE X f tx) (m : M2 X o "setdefault" apos e f cpos) : PE X (.Call (.Attribute o "setdefault" apos) [e, f] [] cpos) (tNSetd X.prog X.w X.K td ty tx) := by
  refine ⟨fun pins s σ H Q I h => ?_⟩
  refine wpAny_Call_method m.base m.few m.line PySem.F.plainAttrs_dict PySem.F.slot_dict_setdefault PySem.F.type_dict_setdefault (thn (ho.run pins s σ H _ I h) fun u s1 ⟨y, H1, I1, ry, d, ps1, ey, hd1, q1⟩ => ?_)
  subst ey
  obtain rfl : u = Value.ref d := ry
  obtain ⟨z1, y1, xs1, r1, o1, es1, ep1, ho1, hx1, _⟩ := ndO_get I1.hok hd1
  refine ⟨⟨o1, ho1, hx1.1⟩, fun b q => by cases q; exact ⟨o1, ho1, hx1.2.1⟩, ?_⟩
  rw [m.trees]
  refine Calls.callWith_builtin rfl (Calls.evalArgs_plain (Calls.spliced_cons (thn (he.run pins s1 σ H1 _ I1 q1) fun iv s2 ⟨x, H2, I2, rx, q2⟩ =>
    Calls.spliced_cons (thn (hf.run pins s2 σ H2 _ I2 q2) fun fv s3 ⟨z, H3, I3, rz, a, k, ps, ex, hk, hd, hks, hz, qa, qb⟩ => Calls.spliced_nil ?_))))
  subst ex
  obtain rfl : iv = Value.ref a := rx
  obtain ⟨zz, hs, xs, r, md⟩ := nd_of I3 hd hks
  have hl : ps.length = xs.length := Paired.length r
  refine call_setdefault_heap (hsz := by omega) (nroom hu) (nk_is I3 hk) hs md (fun p hp => ?_) fun hn h' m' sb => ?_
  · have q0 := r.at k
    rw [hp] at q0
    cases e0 : psAt ps k with
    | none => rw [e0] at q0; exact (show False from q0).elim
    | some v0 =>
      rw [e0] at q0
      exact ⟨v0, H3, I3.tok _, q0, qa v0 e0⟩
  · have q0 := r.at k
    rw [hn] at q0
    cases e0 : psAt ps k with
    | some v0 => rw [e0] at q0; exact (show False from q0).elim
    | none =>
      refine ⟨z, _, nd_write I3 hd hs ?_ (r.put k a rz) m' sb, rz, qb e0⟩
      have := psPut_len ps k a z
      omega
/-- list(d): the keys -/
theorem call_list_nd (hc : X.calm = true) : CallR X (.type "list") (fun xs H Q => ∃ d ps, xs = [V.ref d] ∧ H d = some (NdO X.prog X.w d ps) ∧ ∀ p, H p = none → Q (.ref p) (upd H p (.lst (ps.map fun q => V.ref q.2.1)))) := by
  intro pins s σ H xs us Q I r h
  obtain ⟨d, ps, rfl, hd, q⟩ := h
  obtain ⟨u, rfl, rx⟩ := vals1 r
  cases rx
  obtain ⟨z, hs, ks, pr, o, es, ep, ho, hx, hdt, he, hn⟩ := ndO_get I.hok hd
  have l1 : es.size = ks.length := by rw [← Array.length_toList, he, List.length_map]
  have l2 : ps.length = ks.length := Paired.length pr
  refine PySem.W.kdl_call (kdl_raw hs hx hdt) (I.ok.hd hc) ho (by omega) fun h' tk acc' c' kp e it => ?_
  have ea : acc'.toList = ks.map fun x => Value.ref x.2.1 := by
    refine List.ext_getElem? fun j => ?_
    rw [List.getElem?_map]
    cases hj : acc'.toList[j]? with
    | none =>
      have h1 := List.getElem?_eq_none_iff.mp hj
      rw [Array.length_toList, it.1] at h1
      rw [List.getElem?_eq_none (by omega)]
      rfl
    | some v =>
      obtain ⟨en, hen, hv⟩ := it.2 j v (by rw [← Array.getElem?_toList]; exact hj)
      have qe := entry_at he j
      rw [hen] at qe
      cases hb : ks[j]? with
      | none => rw [hb] at qe; exact nomatch qe
      | some b =>
        rw [hb] at qe
        have e2 : en = entryOfKey (nestedKind X.prog X.w) b := Option.some.inj qe
        rw [hv, e2]
        rfl
  have rv : Vals (ps.map fun q => V.ref q.2.1) acc'.toList := by
    rw [ea]
    have all : ∀ {l : List NP} {m : List (NestedKey × Addr × Value)}, NRel l m → Vals (l.map fun q => V.ref q.2.1) (m.map fun x => Value.ref x.2.1) := by
      intro l m pr
      unfold NRel at pr
      induction pr with
      | nil => exact .nil
      | cons hq t ih => exact .cons (by show Value.ref _ = Value.ref _; rw [hq.2.1]) ih
    exact all pr
  refine ⟨.ref s.heap.objs.size, _, I.laid (t' := tk) (o := .lst (ps.map fun q => V.ref q.2.1)) kp (Nat.le_refl _) ?_, rfl, q _ (I.hok.fresh (Nat.le_refl _))⟩
  exact ⟨by rw [List.length_map]; exact z, acc'.toList, c', rv, by rw [Array.toArray_toList]; exact e⟩
end
end Who

/-! Who: min and max of two values. -/
namespace Who
open PySem L2 PySem.Spec PyProof.Rows
section
variable {prog : Program} {w : World} {A : Around} {E : Value → Shared → Prop} {s : Shared}
theorem max_turns {I T S : Addr} {a b : Value} {k : Bool} {c0 : Nat} {Rr : Result → Shared → Prop} (hh : A.handled = none) (hTI : T ≠ I) (hSI : S ≠ I) (hST : S ≠ T) (hit : s.heap.IsTupleIter I T 0) (hT : s.heap.IsTuple T #[a, b])
    (hS : s.heap.get? S = some { cls := .type "list", dict := none, data := .seq #[] c0, slots := #[] })
    (hc : ∀ (s' : Shared) (E' : Value → Shared → Prop) (Q' : Value → Shared → Prop), (∀ x o, x ≠ I → x ≠ S → s.heap.get? x = some o → s'.heap.get? x = some o) → Q' (.bool k) s' → wpAny (model prog w) A.in1 (richCompare .Gt b a) Q' E' s')
    (hR : ∀ h' tk, (∀ x o, x ≠ I → x ≠ S → s.heap.get? x = some o → h'.get? x = some o) → Rr (.ok (.ret (if k = true then b else a))) { s with heap := h', toks := tk }) :
    codeAny (model prog w) A (.builtin "max.loop" ⟨[.ref I, .none, .ref S], []⟩) Rr s := by
  have nm : (toString "max" ++ toString ".loop" : String) = "max.loop" := by decide
  have W := Walks.tuple (prog := prog) (w := w) (A := A.in1) hh I T hTI #[a, b]
  -- the first
  refine codeAny_builtin F.entry_max_loop ?_
  rw [Around.under_plainId F.plain_max_loop _]
  show wpAny _ A.in1 (seqItems? (.ref S) >>= _) _ _ s
  refine wpAny_bind (wpAny_seqItems hS rfl ?_)
  show wpAny _ A.in1 (tryCatch (pyNext (.ref I)) _ >>= _) _ _ s
  refine wpAny_bind (wpAny_tryCatch (W.item 0 s _ _ (by simp) ⟨hit, hT⟩ fun v1 h1 t1 p1 st1 k1 => ?_))
  obtain rfl : a = v1 := by simpa using p1
  have hS1 := k1 S _ (by simpa using hSI) hS
  show wpAny _ A.in1 (updateSeq S (fun _ => #[a, a]) >>= _) _ _ _
  refine wpAny_bind (wpAny_updateSeq hS1 rfl ?_)
  rw [nm]
  refine wpAny_pure ⟨plainId_quiet F.plain_max_loop _, ?_⟩
  have st1' := W.frame 1 h1 (h1.update S (Obj.mapSeq fun _ => #[a, a])) st1 fun x hx o e => (Heap.get?_update_other _ _ (by rintro rfl; simp at hx; rcases hx with z | z <;> contradiction)).trans e
  obtain ⟨c1, hS1'⟩ : ∃ c1, (h1.update S (Obj.mapSeq fun _ => #[a, a])).get? S = some { cls := .type "list", dict := none, data := .seq #[a, a] c1, slots := #[] } := ⟨_, Heap.get?_update_self _ hS1 rfl⟩
  have kk1 : ∀ x o, x ≠ I → x ≠ S → s.heap.get? x = some o → (h1.update S (Obj.mapSeq fun _ => #[a, a])).get? x = some o := fun x o n1 n2 e => (Heap.get?_update_other _ _ (Ne.symm n2)).trans (k1 x o (by simpa using n1) e)
  -- the second
  refine codeAny_builtin F.entry_max_loop ?_
  rw [Around.under_plainId F.plain_max_loop _]
  show wpAny _ A.in1 (seqItems? (.ref S) >>= _) _ _ _
  refine wpAny_bind (wpAny_seqItems hS1' rfl ?_)
  show wpAny _ A.in1 (tryCatch (pyNext (.ref I)) _ >>= _) _ _ _
  refine wpAny_bind (wpAny_tryCatch (W.item 1 { s with heap := h1.update S (Obj.mapSeq fun _ => #[a, a]), toks := t1 } _ _ (by simp) st1' fun v2 h2 t2 p2 st2 k2 => ?_))
  obtain rfl : b = v2 := by simpa using p2
  have hS2 := k2 S _ (by simpa using hSI) hS1'
  have kk2 : ∀ x o, x ≠ I → x ≠ S → s.heap.get? x = some o → h2.get? x = some o := fun x o n1 n2 e => k2 x o (by simpa using n1) (kk1 x o n1 n2 e)
  show wpAny _ A.in1 (tryCatch (holding [b, b] (richCompare .Gt b a >>= _)) _ >>= _) _ _ _
  refine wpAny_bind (wpAny_tryCatch (wpAny_holding (wpAny_bind (hc { s with heap := h2, toks := t2 } _ _ kk2 ?_))))
  refine wpAny_bind (wpAny_holding (wpAny_truthy_bool ?_))
  refine wpAny_bind (wpAny_letGo (wpAny_pure ?_))
  have last : ∀ (h3 : Heap) (t3 c3 : Nat) (v : Value), (h3.IsTupleIter I T 2 ∧ h3.IsTuple T #[a, b]) → h3.get? S = some { cls := .type "list", dict := none, data := .seq #[v, v] c3, slots := #[] } →
      (∀ x o, x ≠ I → x ≠ S → s.heap.get? x = some o → h3.get? x = some o) → v = (if k = true then b else a) → codeAny (model prog w) A (.builtin "max.loop" ⟨[.ref I, .none, .ref S], []⟩) Rr { s with heap := h3, toks := t3 } := by
    intro h3 t3 c3 v st3 hS3 kk3 ev
    refine codeAny_builtin F.entry_max_loop ?_
    rw [Around.under_plainId F.plain_max_loop _]
    show wpAny _ A.in1 (seqItems? (.ref S) >>= _) _ _ _
    refine wpAny_bind (wpAny_seqItems hS3 rfl ?_)
    show wpAny _ A.in1 (tryCatch (pyNext (.ref I)) _ >>= _) _ _ _
    refine wpAny_bind (wpAny_tryCatch (W.done { s with heap := h3, toks := t3 } _ _ st3 fun h4 t4 k4 => ?_))
    have hS4 := k4 S _ (by simpa using hSI) hS3
    show wpAny _ A.in1 (updateSeq S (fun _ => #[]) >>= _) _ _ _
    refine wpAny_bind (wpAny_updateSeq hS4 rfl (wpAny_bind (wpAny_letGo (wpAny_pure ?_))))
    show Rr (.ok (.ret v)) _
    rw [ev]
    exact hR _ t4 fun x o n1 n2 e => (Heap.get?_update_other _ _ (Ne.symm n2)).trans (k4 x o (by simpa using n1) (kk3 x o n1 n2 e))
  cases hk : k with
  | true =>
    simp only [if_true]
    refine wpAny_bind (wpAny_updateSeq hS2 rfl (wpAny_bind (wpAny_letGo ?_)))
    rw [nm]
    refine wpAny_pure ⟨plainId_quiet F.plain_max_loop _, last _ _ _ b (W.frame 2 h2 _ st2 fun x hx o e => (Heap.get?_update_other _ _ (by rintro rfl; simp at hx; rcases hx with z | z <;> contradiction)).trans e) (Heap.get?_update_self _ hS2 rfl) (fun x o n1 n2 e => (Heap.get?_update_other _ _ (Ne.symm n2)).trans (kk2 x o n1 n2 e)) (by rw [hk]; rfl)⟩
  | false =>
    simp only [Bool.false_eq_true, if_false]
    refine wpAny_bind (wpAny_letGo ?_)
    rw [nm]
    exact wpAny_pure ⟨plainId_quiet F.plain_max_loop _, last _ _ _ a st2 hS2 kk2 (by rw [hk]; rfl)⟩
theorem max_pair {a b : Value} {k : Bool} {Q : Value → Shared → Prop} (hh : A.handled = none)
    (hc : ∀ (s' : Shared) (E' : Value → Shared → Prop) (Q' : Value → Shared → Prop), (∀ x o, s.heap.get? x = some o → s'.heap.get? x = some o) → Q' (.bool k) s' → wpAny (model prog w) A.in1 (richCompare .Gt b a) Q' E' s')
    (hQ : ∀ h' tk, (∀ x o, s.heap.get? x = some o → h'.get? x = some o) → Q (if k = true then b else a) { s with heap := h', toks := tk }) : wpAny (model prog w) A (call (.builtin "max") [a, b]) Q E s := by
  have nm : (toString "max" ++ toString ".loop" : String) = "max.loop" := by decide
  refine call_function_tree F.kind_max F.plain_max F.entry_max (F.args_max2 _ _) ?_
  show wpAny _ A.in1 (Builtin.Builtins.bindParams "max" ["key", "default"] 0 ⟨[], []⟩ >>= _) _ _ s
  refine wpAny_bind (wpAny_of_eq (show Builtin.Builtins.bindParams "max" ["key", "default"] 0 ⟨[], []⟩ = pure [none, none] from rfl) ?_)
  show wpAny _ A.in1 (newTuple [a, b] >>= _) _ _ s
  refine wpAny_bind (wpAny_newObj_type ?_)
  have z1 : (s.heap.push { cls := .type "tuple", data := .seq #[a, b] }).objs.size = s.heap.objs.size + 1 := Heap.size_push ..
  have hT : (s.heap.push { cls := .type "tuple", data := .seq #[a, b] }).IsTuple s.heap.objs.size #[a, b] := ⟨_, Heap.get?_push_size _ rfl, rfl, 0, rfl⟩
  refine wpAny_bind (wpAny_pyIter_tuple hT ?_)
  show wpAny _ A.in1 (newList [] >>= _) _ _ _
  refine wpAny_bind (wpAny_newObj_type ?_)
  rw [nm]
  have z2 : ((s.heap.push { cls := .type "tuple", data := .seq #[a, b] }).push { cls := .type "tuple_iterator", data := .fields #[.ref s.heap.objs.size, .int 0 0] }).objs.size = s.heap.objs.size + 2 := by rw [Heap.size_push, z1]
  have old : ∀ x o, s.heap.get? x = some o → (((s.heap.push { cls := .type "tuple", data := .seq #[a, b] }).push { cls := .type "tuple_iterator", data := .fields #[.ref s.heap.objs.size, .int 0 0] }).push { cls := .type "list", data := .seq #[] }).get? x = some o :=
    fun x o e => Heap.get?_push_of_some _ (Heap.get?_push_of_some _ (Heap.get?_push_of_some _ e))
  have ne1 : ∀ x o, s.heap.get? x = some o → x ≠ (s.heap.push { cls := .type "tuple", data := .seq #[a, b] }).objs.size := fun x o e => by rw [z1]; exact Nat.ne_of_lt (Nat.lt_succ_of_lt (Heap.lt_size e))
  have ne2 : ∀ x o, s.heap.get? x = some o → x ≠ ((s.heap.push { cls := .type "tuple", data := .seq #[a, b] }).push { cls := .type "tuple_iterator", data := .fields #[.ref s.heap.objs.size, .int 0 0] }).objs.size := fun x o e => by
    rw [z2]; exact Nat.ne_of_lt (Nat.lt_succ_of_lt (Nat.lt_succ_of_lt (Heap.lt_size e)))
  refine wpAny_pure ⟨plainId_quiet F.plain_max_loop _, max_turns (k := k) hh ?_ ?_ ?_ ⟨_, Heap.get?_push_of_some _ (Heap.get?_push_size _ rfl), rfl, rfl⟩ ((hT.push _).push _) (Heap.get?_push_size _ rfl) ?_ ?_⟩
  · rw [z1]; exact Nat.ne_of_lt (Nat.lt_succ_self _)
  · rw [z1, z2]; exact Nat.ne_of_gt (Nat.lt_succ_self _)
  · rw [z2]; exact Nat.ne_of_gt (Nat.lt_succ_of_lt (Nat.lt_succ_self _))
  · exact fun s' E' Q' kp q => hc s' E' Q' (fun x o e => kp x o (ne1 x o e) (ne2 x o e) (old x o e)) q
  · exact fun h' tk kp => hQ h' tk fun x o e => kp x o (ne1 x o e) (ne2 x o e) (old x o e)

theorem min_turns {I T S : Addr} {a b : Value} {k : Bool} {c0 : Nat} {Rr : Result → Shared → Prop} (hh : A.handled = none) (hTI : T ≠ I) (hSI : S ≠ I) (hST : S ≠ T) (hit : s.heap.IsTupleIter I T 0) (hT : s.heap.IsTuple T #[a, b])
    (hS : s.heap.get? S = some { cls := .type "list", dict := none, data := .seq #[] c0, slots := #[] })
    (hc : ∀ (s' : Shared) (E' : Value → Shared → Prop) (Q' : Value → Shared → Prop), (∀ x o, x ≠ I → x ≠ S → s.heap.get? x = some o → s'.heap.get? x = some o) → Q' (.bool k) s' → wpAny (model prog w) A.in1 (richCompare .Lt b a) Q' E' s')
    (hR : ∀ h' tk, (∀ x o, x ≠ I → x ≠ S → s.heap.get? x = some o → h'.get? x = some o) → Rr (.ok (.ret (if k = true then b else a))) { s with heap := h', toks := tk }) :
    codeAny (model prog w) A (.builtin "min.loop" ⟨[.ref I, .none, .ref S], []⟩) Rr s := by
  have nm : (toString "min" ++ toString ".loop" : String) = "min.loop" := by decide
  have W := Walks.tuple (prog := prog) (w := w) (A := A.in1) hh I T hTI #[a, b]
  -- the first
  refine codeAny_builtin F.entry_min_loop ?_
  rw [Around.under_plainId F.plain_min_loop _]
  show wpAny _ A.in1 (seqItems? (.ref S) >>= _) _ _ s
  refine wpAny_bind (wpAny_seqItems hS rfl ?_)
  show wpAny _ A.in1 (tryCatch (pyNext (.ref I)) _ >>= _) _ _ s
  refine wpAny_bind (wpAny_tryCatch (W.item 0 s _ _ (by simp) ⟨hit, hT⟩ fun v1 h1 t1 p1 st1 k1 => ?_))
  obtain rfl : a = v1 := by simpa using p1
  have hS1 := k1 S _ (by simpa using hSI) hS
  show wpAny _ A.in1 (updateSeq S (fun _ => #[a, a]) >>= _) _ _ _
  refine wpAny_bind (wpAny_updateSeq hS1 rfl ?_)
  rw [nm]
  refine wpAny_pure ⟨plainId_quiet F.plain_min_loop _, ?_⟩
  have st1' := W.frame 1 h1 (h1.update S (Obj.mapSeq fun _ => #[a, a])) st1 fun x hx o e => (Heap.get?_update_other _ _ (by rintro rfl; simp at hx; rcases hx with z | z <;> contradiction)).trans e
  obtain ⟨c1, hS1'⟩ : ∃ c1, (h1.update S (Obj.mapSeq fun _ => #[a, a])).get? S = some { cls := .type "list", dict := none, data := .seq #[a, a] c1, slots := #[] } := ⟨_, Heap.get?_update_self _ hS1 rfl⟩
  have kk1 : ∀ x o, x ≠ I → x ≠ S → s.heap.get? x = some o → (h1.update S (Obj.mapSeq fun _ => #[a, a])).get? x = some o := fun x o n1 n2 e => (Heap.get?_update_other _ _ (Ne.symm n2)).trans (k1 x o (by simpa using n1) e)
  -- the second
  refine codeAny_builtin F.entry_min_loop ?_
  rw [Around.under_plainId F.plain_min_loop _]
  show wpAny _ A.in1 (seqItems? (.ref S) >>= _) _ _ _
  refine wpAny_bind (wpAny_seqItems hS1' rfl ?_)
  show wpAny _ A.in1 (tryCatch (pyNext (.ref I)) _ >>= _) _ _ _
  refine wpAny_bind (wpAny_tryCatch (W.item 1 { s with heap := h1.update S (Obj.mapSeq fun _ => #[a, a]), toks := t1 } _ _ (by simp) st1' fun v2 h2 t2 p2 st2 k2 => ?_))
  obtain rfl : b = v2 := by simpa using p2
  have hS2 := k2 S _ (by simpa using hSI) hS1'
  have kk2 : ∀ x o, x ≠ I → x ≠ S → s.heap.get? x = some o → h2.get? x = some o := fun x o n1 n2 e => k2 x o (by simpa using n1) (kk1 x o n1 n2 e)
  show wpAny _ A.in1 (tryCatch (holding [b, b] (richCompare .Lt b a >>= _)) _ >>= _) _ _ _
  refine wpAny_bind (wpAny_tryCatch (wpAny_holding (wpAny_bind (hc { s with heap := h2, toks := t2 } _ _ kk2 ?_))))
  refine wpAny_bind (wpAny_holding (wpAny_truthy_bool ?_))
  refine wpAny_bind (wpAny_letGo (wpAny_pure ?_))
  have last : ∀ (h3 : Heap) (t3 c3 : Nat) (v : Value), (h3.IsTupleIter I T 2 ∧ h3.IsTuple T #[a, b]) → h3.get? S = some { cls := .type "list", dict := none, data := .seq #[v, v] c3, slots := #[] } →
      (∀ x o, x ≠ I → x ≠ S → s.heap.get? x = some o → h3.get? x = some o) → v = (if k = true then b else a) → codeAny (model prog w) A (.builtin "min.loop" ⟨[.ref I, .none, .ref S], []⟩) Rr { s with heap := h3, toks := t3 } := by
    intro h3 t3 c3 v st3 hS3 kk3 ev
    refine codeAny_builtin F.entry_min_loop ?_
    rw [Around.under_plainId F.plain_min_loop _]
    show wpAny _ A.in1 (seqItems? (.ref S) >>= _) _ _ _
    refine wpAny_bind (wpAny_seqItems hS3 rfl ?_)
    show wpAny _ A.in1 (tryCatch (pyNext (.ref I)) _ >>= _) _ _ _
    refine wpAny_bind (wpAny_tryCatch (W.done { s with heap := h3, toks := t3 } _ _ st3 fun h4 t4 k4 => ?_))
    have hS4 := k4 S _ (by simpa using hSI) hS3
    show wpAny _ A.in1 (updateSeq S (fun _ => #[]) >>= _) _ _ _
    refine wpAny_bind (wpAny_updateSeq hS4 rfl (wpAny_bind (wpAny_letGo (wpAny_pure ?_))))
    show Rr (.ok (.ret v)) _
    rw [ev]
    exact hR _ t4 fun x o n1 n2 e => (Heap.get?_update_other _ _ (Ne.symm n2)).trans (k4 x o (by simpa using n1) (kk3 x o n1 n2 e))
  cases hk : k with
  | true =>
    simp only [if_true]
    refine wpAny_bind (wpAny_updateSeq hS2 rfl (wpAny_bind (wpAny_letGo ?_)))
    rw [nm]
    refine wpAny_pure ⟨plainId_quiet F.plain_min_loop _, last _ _ _ b (W.frame 2 h2 _ st2 fun x hx o e => (Heap.get?_update_other _ _ (by rintro rfl; simp at hx; rcases hx with z | z <;> contradiction)).trans e) (Heap.get?_update_self _ hS2 rfl) (fun x o n1 n2 e => (Heap.get?_update_other _ _ (Ne.symm n2)).trans (kk2 x o n1 n2 e)) (by rw [hk]; rfl)⟩
  | false =>
    simp only [Bool.false_eq_true, if_false]
    refine wpAny_bind (wpAny_letGo ?_)
    rw [nm]
    exact wpAny_pure ⟨plainId_quiet F.plain_min_loop _, last _ _ _ a st2 hS2 kk2 (by rw [hk]; rfl)⟩
theorem min_pair {a b : Value} {k : Bool} {Q : Value → Shared → Prop} (hh : A.handled = none)
    (hc : ∀ (s' : Shared) (E' : Value → Shared → Prop) (Q' : Value → Shared → Prop), (∀ x o, s.heap.get? x = some o → s'.heap.get? x = some o) → Q' (.bool k) s' → wpAny (model prog w) A.in1 (richCompare .Lt b a) Q' E' s')
    (hQ : ∀ h' tk, (∀ x o, s.heap.get? x = some o → h'.get? x = some o) → Q (if k = true then b else a) { s with heap := h', toks := tk }) : wpAny (model prog w) A (call (.builtin "min") [a, b]) Q E s := by
  have nm : (toString "min" ++ toString ".loop" : String) = "min.loop" := by decide
  refine call_function_tree F.kind_min F.plain_min F.entry_min (F.args_min2 _ _) ?_
  show wpAny _ A.in1 (Builtin.Builtins.bindParams "min" ["key", "default"] 0 ⟨[], []⟩ >>= _) _ _ s
  refine wpAny_bind (wpAny_of_eq (show Builtin.Builtins.bindParams "min" ["key", "default"] 0 ⟨[], []⟩ = pure [none, none] from rfl) ?_)
  show wpAny _ A.in1 (newTuple [a, b] >>= _) _ _ s
  refine wpAny_bind (wpAny_newObj_type ?_)
  have z1 : (s.heap.push { cls := .type "tuple", data := .seq #[a, b] }).objs.size = s.heap.objs.size + 1 := Heap.size_push ..
  have hT : (s.heap.push { cls := .type "tuple", data := .seq #[a, b] }).IsTuple s.heap.objs.size #[a, b] := ⟨_, Heap.get?_push_size _ rfl, rfl, 0, rfl⟩
  refine wpAny_bind (wpAny_pyIter_tuple hT ?_)
  show wpAny _ A.in1 (newList [] >>= _) _ _ _
  refine wpAny_bind (wpAny_newObj_type ?_)
  rw [nm]
  have z2 : ((s.heap.push { cls := .type "tuple", data := .seq #[a, b] }).push { cls := .type "tuple_iterator", data := .fields #[.ref s.heap.objs.size, .int 0 0] }).objs.size = s.heap.objs.size + 2 := by rw [Heap.size_push, z1]
  have old : ∀ x o, s.heap.get? x = some o → (((s.heap.push { cls := .type "tuple", data := .seq #[a, b] }).push { cls := .type "tuple_iterator", data := .fields #[.ref s.heap.objs.size, .int 0 0] }).push { cls := .type "list", data := .seq #[] }).get? x = some o :=
    fun x o e => Heap.get?_push_of_some _ (Heap.get?_push_of_some _ (Heap.get?_push_of_some _ e))
  have ne1 : ∀ x o, s.heap.get? x = some o → x ≠ (s.heap.push { cls := .type "tuple", data := .seq #[a, b] }).objs.size := fun x o e => by rw [z1]; exact Nat.ne_of_lt (Nat.lt_succ_of_lt (Heap.lt_size e))
  have ne2 : ∀ x o, s.heap.get? x = some o → x ≠ ((s.heap.push { cls := .type "tuple", data := .seq #[a, b] }).push { cls := .type "tuple_iterator", data := .fields #[.ref s.heap.objs.size, .int 0 0] }).objs.size := fun x o e => by
    rw [z2]; exact Nat.ne_of_lt (Nat.lt_succ_of_lt (Nat.lt_succ_of_lt (Heap.lt_size e)))
  refine wpAny_pure ⟨plainId_quiet F.plain_min_loop _, min_turns (k := k) hh ?_ ?_ ?_ ⟨_, Heap.get?_push_of_some _ (Heap.get?_push_size _ rfl), rfl, rfl⟩ ((hT.push _).push _) (Heap.get?_push_size _ rfl) ?_ ?_⟩
  · rw [z1]; exact Nat.ne_of_lt (Nat.lt_succ_self _)
  · rw [z1, z2]; exact Nat.ne_of_gt (Nat.lt_succ_self _)
  · rw [z2]; exact Nat.ne_of_gt (Nat.lt_succ_of_lt (Nat.lt_succ_self _))
  · exact fun s' E' Q' kp q => hc s' E' Q' (fun x o e => kp x o (ne1 x o e) (ne2 x o e) (old x o e)) q
  · exact fun h' tk kp => hQ h' tk fun x o e => kp x o (ne1 x o e) (ne2 x o e) (old x o e)
end
end Who

/-! Who: more rules by values: min and max of names, in over tuples, repr, sorted, reversed slices. -/
namespace Who
open PySem L2 PySem.Spec PyProof.Rows

/-! ### names: pairs of ints -/
abbrev Nm := Int × Int
def nmLt (p q : Nm) : Bool := if p.1 = q.1 then decide (p.2 < q.2) else decide (p.1 < q.1)
def nmD (p : Nm) : PyData := .tuple [.int p.1, .int p.2]
theorem nm_inv {K : PySem.W.Frag} {B : Hp} {v : V} {p : Nm} (h : Dp K B v (nmD p)) : ∃ a, v = .ref a ∧ SqT K B a [.int p.1, .int p.2] := by
  obtain ⟨a, xs, rfl, hs, ha⟩ := Dp.tup_inv (show Dp K B v (.tuple [.int p.1, .int p.2]) from h)
  cases ha with
  | cons h1 h2 =>
    cases h2 with
    | cons h3 h4 =>
      cases h4
      rw [h1.int_inv, h3.int_inv] at hs
      exact ⟨a, rfl, hs⟩
theorem nm_of {K : PySem.W.Frag} {B : Hp} {a : Addr} {p : Nm} (h : SqT K B a [.int p.1, .int p.2]) : Dp K B (.ref a) (nmD p) := .tup h (.cons (.int _) (.cons (.int _) .nil))
theorem two_gt {A : Around} {s : Shared} {a b : Addr} {i j k l : Int} {t1 t2 t3 t4 : Tok} (ha : s.heap.IsTuple a #[.int i t1, .int j t2]) (hb : s.heap.IsTuple b #[.int k t3, .int l t4]) (hu : A.units < cLine) :
    Ob.RcOp .Gt A s (.ref a) (.ref b) (nmLt (k, l) (i, j)) := by
  have h := Ob.RcOp.tuples_gt (A := A) (e := fun n => if n = 0 then i == k else j == l) (r := fun n => if n = 0 then decide (k < i) else decide (l < j)) ha hb hu (fun n h1 h2 => ?_) (fun n h1 h2 _ => ?_)
  · have e : Ob.lexAt (fun n => if n = 0 then i == k else j == l) (fun n => if n = 0 then decide (k < i) else decide (l < j)) (decide ((#[Value.int i t1, .int j t2] : Array Value).size > (#[Value.int k t3, .int l t4] : Array Value).size)) 0
        (min (#[Value.int i t1, .int j t2] : Array Value).size (#[Value.int k t3, .int l t4] : Array Value).size) = nmLt (k, l) (i, j) := by
      show Ob.lexAt _ _ (decide (2 > 2)) 0 (min 2 2) = _
      rw [show min 2 2 = 1 + 1 from rfl, Ob.lexAt_succ, Ob.lexAt_succ, Ob.lexAt_zero]
      unfold nmLt
      by_cases h1 : i = k
      · subst h1
        by_cases h2 : j = l
        · subst h2; simp
        · simp [h2]
      · simp [h1, Ne.symm h1]
    rw [e] at h
    exact h
  · match n, h1 with
    | 0, _ => exact SeqAt.EqAt.int_int i t1 k t3
    | 1, _ => exact SeqAt.EqAt.int_int j t2 l t4
    | n + 2, h1 => simp at h1; omega
  · match n, h1 with
    | 0, _ => exact Ob.RcOp.gt_int i k t1 t3
    | 1, _ => exact Ob.RcOp.gt_int j l t2 t4
    | n + 2, h1 => simp at h1; omega
theorem two_lt {A : Around} {s : Shared} {a b : Addr} {i j k l : Int} {t1 t2 t3 t4 : Tok} (ha : s.heap.IsTuple a #[.int i t1, .int j t2]) (hb : s.heap.IsTuple b #[.int k t3, .int l t4]) (hu : A.units < cLine) :
    Ob.RcOp .Lt A s (.ref a) (.ref b) (nmLt (i, j) (k, l)) := by
  have h := Ob.RcOp.tuples_lt (A := A) (e := fun n => if n = 0 then i == k else j == l) (r := fun n => if n = 0 then decide (i < k) else decide (j < l)) ha hb hu (fun n h1 h2 => ?_) (fun n h1 h2 _ => ?_)
  · have e : Ob.lexAt (fun n => if n = 0 then i == k else j == l) (fun n => if n = 0 then decide (i < k) else decide (j < l)) (decide ((#[Value.int i t1, .int j t2] : Array Value).size < (#[Value.int k t3, .int l t4] : Array Value).size)) 0
        (min (#[Value.int i t1, .int j t2] : Array Value).size (#[Value.int k t3, .int l t4] : Array Value).size) = nmLt (i, j) (k, l) := by
      show Ob.lexAt _ _ (decide (2 < 2)) 0 (min 2 2) = _
      rw [show min 2 2 = 1 + 1 from rfl, Ob.lexAt_succ, Ob.lexAt_succ, Ob.lexAt_zero]
      unfold nmLt
      by_cases h1 : i = k
      · subst h1
        by_cases h2 : j = l
        · subst h2; simp
        · simp [h2]
      · simp [h1]
    rw [e] at h
    exact h
  · match n, h1 with
    | 0, _ => exact SeqAt.EqAt.int_int i t1 k t3
    | 1, _ => exact SeqAt.EqAt.int_int j t2 l t4
    | n + 2, h1 => simp at h1; omega
  · match n, h1 with
    | 0, _ => exact Ob.RcOp.lt_int i k t1 t3
    | 1, _ => exact Ob.RcOp.lt_int j l t2 t4
    | n + 2, h1 => simp at h1; omega
section
variable {X : Cx}
theorem nm_obj {pins : List (Addr × Obj)} {σ : L2.St} {H : Hp} {s : Shared} {a : Addr} {i j : Int} (I : Inv X pins σ H s) (h : SqT X.K H a [.int i, .int j]) : ∃ t u, s.heap.IsTuple a #[.int i t, .int j u] := by
  obtain ⟨its, rv, p, _⟩ := I.tuple h
  obtain ⟨u1, u2, rfl, ⟨t, rfl⟩, ⟨u, rfl⟩⟩ := vals2 rv
  exact ⟨t, u, p⟩
theorem two_at {s : Shared} {h' : Heap} {a : Addr} {its : Array Value} (h : s.heap.IsTuple a its) (k : ∀ x o, s.heap.get? x = some o → h'.get? x = some o) : h'.IsTuple a its := h.at fun o e => k a o e
/-- max(a, b), min(a, b) of two names -/
def rMaxN (K : PySem.W.Frag) : List V → Hp → VK → Prop := fun vs H Q => ∃ a b p q, vs = [.ref a, .ref b] ∧ SqT K H a [.int p.1, .int p.2] ∧ SqT K H b [.int q.1, .int q.2] ∧ Q (if nmLt p q = true then .ref b else .ref a) H
def rMinN (K : PySem.W.Frag) : List V → Hp → VK → Prop := fun vs H Q => ∃ a b p q, vs = [.ref a, .ref b] ∧ SqT K H a [.int p.1, .int p.2] ∧ SqT K H b [.int q.1, .int q.2] ∧ Q (if nmLt q p = true then .ref b else .ref a) H
theorem cr_maxN (hc : X.calm = true) (hu : X.A.units + 10 < cLine) : CallR X (.builtin "max") (rMaxN X.K) := by
  intro pins s σ H xs us Q I r h
  obtain ⟨a, b, p, q, rfl, ha, hb, k⟩ := h
  obtain ⟨u1, u2, rfl, r1, r2⟩ := vals2 r
  cases r1; cases r2
  obtain ⟨t1, t2, o1⟩ := nm_obj I ha
  obtain ⟨t3, t4, o2⟩ := nm_obj I hb
  refine max_pair (k := nmLt p q) (I.ok.hd hc) (fun s' E' Q' kp q' => two_gt (two_at o2 kp) (two_at o1 kp) (by show X.A.units + 1 < cLine; omega) X.prog X.w E' Q' q') fun h' tk kp => ?_
  refine ⟨_, H, I.kept kp, ?_, k⟩
  by_cases z : nmLt p q = true
  · rw [if_pos z, if_pos z]; rfl
  · rw [if_neg z, if_neg z]; rfl
theorem cr_minN (hc : X.calm = true) (hu : X.A.units + 10 < cLine) : CallR X (.builtin "min") (rMinN X.K) := by
  intro pins s σ H xs us Q I r h
  obtain ⟨a, b, p, q, rfl, ha, hb, k⟩ := h
  obtain ⟨u1, u2, rfl, r1, r2⟩ := vals2 r
  cases r1; cases r2
  obtain ⟨t1, t2, o1⟩ := nm_obj I ha
  obtain ⟨t3, t4, o2⟩ := nm_obj I hb
  refine min_pair (k := nmLt q p) (I.ok.hd hc) (fun s' E' Q' kp q' => two_lt (two_at o2 kp) (two_at o1 kp) (by show X.A.units + 1 < cLine; omega) X.prog X.w E' Q' q') fun h' tk kp => ?_
  refine ⟨_, H, I.kept kp, ?_, k⟩
  by_cases z : nmLt q p = true
  · rw [if_pos z, if_pos z]; rfl
  · rw [if_neg z, if_neg z]; rfl
/-- x in t, t a tuple (or a list) of data -/
def rInDA (K : PySem.W.Frag) : R2 := fun x y H Q => ∃ d e ds, Dp K H x d ∧ Dp K H y e ∧ items e = some ds ∧ SeqAt.shaped d = true ∧ SeqAt.shaped e = true ∧ Q (.bl (ds.any fun z => PyData.eqv z d)) H
theorem op_inDA (hu : X.A.units + 65 < cLine) : OpR X (compareOp .In) (rInDA X.K) := by
  intro pins s σ H x y v u Q I rx ry h
  obtain ⟨d, e, ds, hd, he, hi, sd, se, q⟩ := h
  obtain ⟨as, r1⟩ := Dp.reads I d x v hd rx
  obtain ⟨bs, r2⟩ := Dp.reads I e y u he ry
  rcases items_cases hi with rfl | rfl
  · exact SeqAt.in_list_reads r2 r1 (SeqAt.canLay_of_shaped se) (SeqAt.canLay_of_shaped sd) (room_in_shaped sd hu) ⟨.bl _, H, I, rfl, q⟩
  · exact SeqAt.in_tuple_reads r2 r1 (SeqAt.canLay_of_shaped se) (SeqAt.canLay_of_shaped sd) (room_in_shaped sd hu) ⟨.bl _, H, I, rfl, q⟩
def rNotInDA (K : PySem.W.Frag) : R2 := fun x y H Q => ∃ d e ds, Dp K H x d ∧ Dp K H y e ∧ items e = some ds ∧ SeqAt.shaped d = true ∧ SeqAt.shaped e = true ∧ Q (.bl (!ds.any fun z => PyData.eqv z d)) H
theorem op_notInDA (hu : X.A.units + 65 < cLine) : OpR X (compareOp .NotIn) (rNotInDA X.K) := by
  intro pins s σ H x y v u Q I rx ry h
  obtain ⟨d, e, ds, hd, he, hi, sd, se, q⟩ := h
  obtain ⟨as, r1⟩ := Dp.reads I d x v hd rx
  obtain ⟨bs, r2⟩ := Dp.reads I e y u he ry
  rcases items_cases hi with rfl | rfl
  · exact SeqAt.notIn_list_reads r2 r1 (SeqAt.canLay_of_shaped se) (SeqAt.canLay_of_shaped sd) (room_in_shaped sd hu) ⟨.bl _, H, I, rfl, q⟩
  · exact SeqAt.notIn_tuple_reads r2 r1 (SeqAt.canLay_of_shaped se) (SeqAt.canLay_of_shaped sd) (room_in_shaped sd hu) ⟨.bl _, H, I, rfl, q⟩
/-- repr(x) of data without a dict -/
def rReprD (K : PySem.W.Frag) : List V → Hp → VK → Prop := fun vs H Q => ∃ v d, vs = [v] ∧ Dp K H v d ∧ d.showable = true ∧ d.hasDict = false ∧ d.depth ≤ 60 ∧ d.shown.length ≤ sizeLine ∧ Q (.str d.shown) H
theorem cr_repr (hg : X.A.guards = some []) (hu : X.A.units + 65 < cLine) : CallR X (.builtin "repr") (rReprD X.K) := by
  intro pins s σ H xs us Q I r h
  obtain ⟨v, d, rfl, hd, h1, h2, h3, h4, q⟩ := h
  obtain ⟨u, rfl, ru⟩ := vals1 r
  have ref : ∀ a : Addr, v = .ref a → wpAny (model X.prog X.w) X.A (call (.builtin "repr") [u]) (EP X pins σ Q) X.xe s := fun a e => by
    subst e
    obtain ⟨as, rd⟩ := Dp.reads I d _ u hd ru
    cases ru
    exact repr_of_reads' rd h1 (fun z => by rw [h2] at z; cases z) hg (by omega) (fun _ _ e => e) (fun h' t tk k => ⟨.str d.shown, H, I.kept k, ⟨t, rfl⟩, q⟩) h4
  cases hd with
  | lst _ _ => exact ref _ rfl
  | tup _ _ => exact ref _ rfl
  | non => cases ru; exact P.repr_of_none ⟨.str (PyData.shown .none), H, I.tok _, ⟨_, rfl⟩, q⟩
  | bl b => cases ru; exact P.repr_of_bool ⟨.str (PyData.shown (.bool b)), H, I.tok _, ⟨_, rfl⟩, q⟩
  | int i =>
    obtain ⟨t, rfl⟩ := ru
    exact P.repr_of_int (by simpa [PyData.showable] using h1) ⟨.str (PyData.shown (.int i)), H, I.tok _, ⟨_, rfl⟩, q⟩
  | str x =>
    obtain ⟨t, rfl⟩ := ru
    exact P.repr_of_str (hsz := h4) ⟨.str (PyData.shown (.str x)), H, I.tok _, ⟨_, rfl⟩, q⟩
end
end Who

/-! Who: sorted, with a key and without; slices backwards; calls by keywords alone. -/
namespace Who
open PySem L2 PySem.Spec PyProof.Rows PySem.W
theorem each_vals {xs : List V} {us : List Value} (r : Vals xs us) : ∀ {ds : List PyData}, xs.length = ds.length → EachIs (fun u (b : V × PyData) => RelV b.1 u) us (xs.zip ds) := by
  induction r with
  | nil => intro ds _; exact .nil
  | cons h t ih =>
    intro ds hl
    cases ds with
    | nil => simp at hl
    | cons d ds => exact .cons h (ih (by simpa using hl))
theorem vals_each : ∀ {us : List Value} {bs : List (V × PyData)}, EachIs (fun u (b : V × PyData) => RelV b.1 u) us bs → Vals (bs.map (·.1)) us
  | _, _, .nil => .nil
  | _, _, .cons h t => .cons h (vals_each t)
theorem dpAll_zip {K : Frag} {B : Hp} : ∀ {xs : List V} {ds : List PyData}, DpAll K B xs ds → ∀ b ∈ xs.zip ds, Dp K B b.1 b.2
  | _, _, .nil, b, hb => by simp at hb
  | _, _, .cons h t, b, hb => by
    rcases List.mem_cons.mp (by simpa using hb) with e | e
    · subst e; exact h
    · exact dpAll_zip t b e
theorem dpAll_of {K : Frag} {B : Hp} : ∀ {bs : List (V × PyData)}, (∀ b ∈ bs, Dp K B b.1 b.2) → DpAll K B (bs.map (·.1)) (bs.map (·.2))
  | [], _ => .nil
  | b :: bs, h => .cons (h b List.mem_cons_self) (dpAll_of fun c hc => h c (List.mem_cons_of_mem _ hc))
/-- the order of sorted by keys -/
abbrev keyLe (k : PyData → PyData) : PyData → PyData → Bool := dataLe false k
theorem sort_zip {xs : List V} {ds : List PyData} (k : PyData → PyData) (hl : xs.length = ds.length) :
    ((xs.zip ds).mergeSort (dataLe false fun b => k b.2)).map (·.2) = ds.mergeSort (keyLe k) := by
  have e := sort_maps (r := dataLe false fun b : V × PyData => k b.2) (s := keyLe k) (l := xs.zip ds) (fun b : V × PyData => b.2) (fun _ _ _ _ => rfl)
  rw [e, List.map_snd_zip (by omega)]

section
variable {X : Cx}
/-- sorted(xs) of data of one shape -/
def rSortD (K : Frag) : List V → Hp → VK → Prop := fun vs H Q => ∃ a xs ds B, vs = [.ref a] ∧ Sub B H ∧ SqL K H a xs ∧ DpAll K B xs ds ∧ AllAlike ds ∧ Sortable ds ∧ (∀ d ∈ ds, d.depth ≤ 60) ∧
  ∀ p ys, H p = none → DpAll K B ys (ds.mergeSort (keyLe id)) → Q (.ref p) (upd H p (.lst ys))
theorem cr_sortD (hu : X.A.units + 65 < cLine) : CallR X (.builtin "sorted") (rSortD X.K) := by
  intro pins s σ H vs us Q I r h
  obtain ⟨a, xs, ds, B, rfl, sB, hs, ha, hal, hk, hdp, q⟩ := h
  obtain ⟨u, rfl, ru⟩ := vals1 r
  cases ru
  obtain ⟨its, rv, hl, hz⟩ := I.list hs
  have hxd : xs.length = ds.length := ha.len
  have es : (xs.zip ds).map (fun b => b.2) = ds := List.map_snd_zip (by omega)
  have hsz : (xs.zip ds).length = xs.length := by simp [hxd]
  refine sorted_data (enc := fun b : V × PyData => b.2) (R := fun u (b : V × PyData) => RelV b.1 u) hl.isList (each_vals rv hxd) ?_ (by rw [es]; exact hal) (by rw [es]; exact hk) (by rw [hsz]; exact hz) (fun b hb => ?_) fun out ho e => ?_
  · exact (each_mem (each_vals rv hxd)).mono fun v b ⟨h1, h2⟩ => Dp.reads I b.2 b.1 v ((dpAll_zip ha b h2).up sB) h1
  · have := hdp b.2 (List.of_mem_zip hb).2
    omega
  obtain ⟨c, hc⟩ := sortedAll_at s.heap its (List.toArray out)
  have hm : ∀ b ∈ (xs.zip ds).mergeSort (dataLe false fun b => b.2), Dp X.K B b.1 b.2 := fun b hb => dpAll_zip ha b ((List.mergeSort_perm _ _).mem_iff.mp hb)
  have hd := dpAll_of hm
  have ez : ((xs.zip ds).mergeSort (dataLe false fun b : V × PyData => b.2)).map (·.2) = ds.mergeSort (keyLe id) := sort_zip id hxd
  rw [ez] at hd
  refine ⟨.ref _, _, I.laid (t' := s.toks) (o := .lst (((xs.zip ds).mergeSort (dataLe false fun b => b.2)).map (·.1))) (fun _ _ => sortedAll_old) (Nat.le_succ _) ⟨?_, out, c, vals_each e, hc⟩, rfl, q _ _ (I.hok.fresh (Nat.le_succ _)) hd⟩
  rw [List.length_map, List.length_mergeSort, hsz]
  exact hz
/-- f(x) of data d keeps all and gives data k d, at the heap as it is -/
def KeyFn (X : Cx) (f : Value) (k : PyData → PyData) (d : PyData) : Prop := ∀ (pins : List (Addr × Obj)) (s : Shared) (σ : L2.St) (H : Hp) (x : V) (v : Value), Inv X pins σ H s → Dp X.K H x d → RelV x v →
  wpAny (model X.prog X.w) X.A.in1.in1 (call f [v]) (KeyPure (k d) s) (fun _ _ => False) s
/-- sorted(xs, key=f) -/
def rSortK (X : Cx) (f : Addr) (k : PyData → PyData) : List V → List V → Hp → VK → Prop := fun vs zs H Q => ∃ a xs ds B, vs = [.ref a] ∧ zs = [.ref f] ∧ Sub B H ∧ SqL X.K H a xs ∧ DpAll X.K B xs ds ∧ AllAlike (ds.map k) ∧ Sortable (ds.map k) ∧ (∀ d ∈ ds, (k d).depth ≤ 60) ∧
  (∀ d ∈ ds, KeyFn X (.ref f) k d) ∧ ∀ p ys, H p = none → DpAll X.K B ys (ds.mergeSort (keyLe k)) → Q (.ref p) (upd H p (.lst ys))
theorem cr_sortK {f : Addr} {k : PyData → PyData} (hu : X.A.units + 65 < cLine) : CallRK X (.builtin "sorted") [Str.ofString "key"] (rSortK X f k) := by
  intro pins s σ H vs zs us ws Q I r rz h
  obtain ⟨a, xs, ds, B, rfl, rfl, sB, hs, ha, hal, hk, hdp, hf, q⟩ := h
  obtain ⟨u, rfl, ru⟩ := vals1 r
  obtain ⟨w1, rfl, rw1⟩ := vals1 rz
  cases ru; cases rw1
  obtain ⟨its, rv, hl, hz⟩ := I.list hs
  have hxd : xs.length = ds.length := ha.len
  have es : (xs.zip ds).map (fun b => k b.2) = ds.map k := by
    have : (xs.zip ds).map (fun b => k b.2) = ((xs.zip ds).map (·.2)).map k := by rw [List.map_map]; rfl
    rw [this, List.map_snd_zip (by omega)]
  have hsz : (xs.zip ds).length = xs.length := by simp [hxd]
  refine sorted_key_data (b := false) (fun b : V × PyData => k b.2) (R := fun u (b : V × PyData) => RelV b.1 u) hl.isList (each_vals rv hxd) (by rw [es]; exact hal) (by rw [es]; exact hk) (by rw [hsz]; exact hz) (fun b hb => ?_)
    (ksk_s1 _ _) (fun x => ksk_l1 _ _) (fun x => ksk_t1 f x) (fun v b hR hb h tk kp => ?_) fun out c h' tk kp fr hD ho e => ?_
  · have := hdp b.2 (List.of_mem_zip hb).2
    omega
  · exact hf b.2 (List.of_mem_zip hb).2 pins { s with heap := h, toks := tk } σ H b.1 v (I.kept kp) ((dpAll_zip ha b hb).up sB) hR
  have hm : ∀ b ∈ (xs.zip ds).mergeSort (dataLe false fun b => k b.2), Dp X.K B b.1 b.2 := fun b hb => dpAll_zip ha b ((List.mergeSort_perm _ _).mem_iff.mp hb)
  have hd := dpAll_of hm
  rw [sort_zip k hxd] at hd
  refine ⟨.ref _, _, I.laid (t' := tk) (o := .lst (((xs.zip ds).mergeSort (dataLe false fun b => k b.2)).map (·.1))) kp (Nat.le_succ _) ⟨?_, out, c, vals_each e, hD⟩, rfl, q _ _ (I.hok.fresh (Nat.le_succ _)) hd⟩
  rw [List.length_map, List.length_mergeSort, hsz]
  exact hz

/-! slices backwards: x[::e], e being -1 -/
theorem pick_back (xs : Array Value) : ((List.range xs.size).filterMap fun (m : Nat) => xs[((xs.size : Int) - 1 + (m : Int) * (-1)).toNat]?).toArray = xs.toList.reverse.toArray := by
  have e : (List.range xs.size).filterMap (fun (m : Nat) => xs[((xs.size : Int) - 1 + (m : Int) * (-1)).toNat]?) = ((List.range xs.size).map fun m => xs.size - 1 - m).filterMap (xs[·]?) := by
    rw [List.filterMap_map]
    have ef : (fun (m : Nat) => xs[((xs.size : Int) - 1 + (m : Int) * (-1)).toNat]?) = ((fun x => xs[x]?) ∘ fun m => xs.size - 1 - m) := by
      funext m
      have : ((xs.size : Int) - 1 + (m : Int) * (-1)).toNat = xs.size - 1 - m := by omega
      rw [this]
      rfl
    rw [ef]
  rw [e, krv_range, List.filterMap_reverse, krv_all]
theorem tuple_back {prog : Program} {w : World} {A : Around} {E : Value → Shared → Prop} {s : Shared} {t sl : Addr} {items : Array Value} {tk : Tok} {Q : Value → Shared → Prop} (ht : s.heap.IsTuple t items) (hs : s.heap.IsSliceOf sl .none .none (.int (-1) tk))
    (h : Q (.ref s.heap.objs.size) { s with heap := s.heap.push { cls := .type "tuple", data := .seq items.toList.reverse.toArray } }) (hsz : items.size ≤ sizeLine) : wpAny (model prog w) A (getItem (.ref t) (.ref sl)) Q E s := by
  have hok : sizeOk (.seq items.toList.reverse.toArray) := by
    show items.toList.reverse.toArray.size ≤ sizeLine
    simpa using hsz
  obtain ⟨os, hos, hcs, hds⟩ := id hs
  have hTs : s.TypeIs (.ref sl) "slice" := ⟨os, hos, hcs⟩
  unfold getItem
  try with_reducible refine wpAny_holding ?_
  first | refine wpAny_bind (wpAny_pure ?_) | skip
  refine wpAny_bind (wpAny_sequenceKey ht.typeIs (by decide) ?_)
  refine wpAny_bind (wpAny_callSpecial?_slot (name := Str.ofString "__getitem__") ht.typeIs slot_tuple_getitem (wpAny_call_entry slot_tuple_getitem ht.typeIs entry_tuple_getitem ?_ (args_tuple_getitem _ _)))
  show wpAny _ _ (Builtin.Tuple.tupleItemsOf (.ref t) >>= _) _ _ s
  refine wpAny_bind (tupleItemsOf_ ht ?_)
  refine wpAny_bind (wpAny_typeOf hTs ?_)
  rw [if_pos (by decide)]
  have hplaces : Builtin.Slice.slicePlaces ((items.size : Int) - 1) (-1) (-1) = items.size := by
    unfold Builtin.Slice.slicePlaces
    have h1 : ¬ ((-1 : Int) > 0) := by decide
    simp only [h1, if_false]
    split
    · rw [show (- -1 : Int) = 1 by decide, Int.ediv_one]; omega
    · omega
  refine wpAny_bind (show wpAny _ _ (Builtin.Slice.sliceApplied (.ref sl) (pure (items.size : Int))) _ _ s from ?_)
  unfold Builtin.Slice.sliceApplied Builtin.Slice.sliceFields
  refine wpAny_bind (wpAny_bind (wpAny_field hos hds (x := .none) rfl (wpAny_bind (wpAny_field hos hds (x := .none) rfl (wpAny_bind (wpAny_field hos hds (x := .int (-1) tk) rfl (wpAny_pure ?_)))))))
  refine wpAny_bind (slicePart_int ?_)
  show wpAny _ _ (if ((-1 : Int) == 0) = true then _ else _) _ _ s
  rw [if_neg (by decide)]
  refine wpAny_bind (slicePart_none (wpAny_bind (slicePart_none (wpAny_bind (wpAny_pure ?_)))))
  show wpAny _ _ (pure ((items.size : Int) - 1, (-1 : Int), Builtin.Slice.slicePlaces ((items.size : Int) - 1) (-1) (-1))) _ _ s
  rw [hplaces]
  refine wpAny_pure ?_
  show wpAny _ _ (if (((items.size : Int) - 1 == 0) && ((-1 : Int) == 1) && (items.size == items.size)) = true then _ else _) _ _ s
  rw [if_neg (by simp), pick_back]
  first
    | exact wpAny_bind (m := Builtin.Tuple.tupleExact _) (wpAny_newObj_type (wpAny_pure ⟨_, rfl, wpAny_pure h⟩) hok)
    | exact wpAny_bind (m := Builtin.Tuple.tupleExact _) (wpAny_newObj_type (wpAny_bind (wpAny_pure (wpAny_pure ⟨_, rfl, wpAny_pure h⟩))) hok)
    | exact wpAny_bind (wpAny_bind (m := Builtin.Tuple.tupleExact _) (wpAny_newObj_type (wpAny_pure (wpAny_pure ⟨_, rfl, wpAny_pure h⟩)) hok))
    | exact wpAny_bind (wpAny_bind (m := Builtin.Tuple.tupleExact _) (wpAny_newObj_type (wpAny_pure ⟨_, rfl, wpAny_pure h⟩) hok))
/-- the step gives -1 and changes nothing -/
def tBack (K : Frag) (te ts : TE) : TE := fun σ H Q => te σ H fun x H1 => ts σ H1 fun y H2 => ∃ i, y = .int i ∧ some i = some (-1) ∧ ∃ a xs, x = .ref a ∧ ((SqL K H2 a xs ∧ ∀ p, H2 p = none → Q (.ref p) (upd H2 p (.lst xs.reverse))) ∨ (SqT K H2 a xs ∧ ∀ p, H2 p = none → Q (.ref p) (upd H2 p (.tup xs.reverse))))
theorem pe_back {e st : PySem.Expr} {te ts : TE} {p3 pos : Pos} (he : PE X e te) (hst : PE X st ts) : PE X (.Subscript e (.Slice none none (some st) p3) pos) (tBack X.K te ts) := by
  refine ⟨fun pins s σ H Q I h => ?_⟩
  refine Subscript_ (thn (he.run pins s σ H _ I h) fun v s1 ⟨x, H1, I1, r1, q1⟩ => ?_)
  refine wpAny_Slice (thn (po_none.run pins s1 σ H1 (fun o H2 => o = none ∧ H2 = H1) I1 ⟨rfl, rfl⟩) fun vl s2 ⟨l, H2, I2, pl, el, e2⟩ => ?_)
  subst el e2
  refine thn (po_none.run pins s2 σ H2 (fun o H3 => o = none ∧ H3 = H2) I2 ⟨rfl, rfl⟩) fun vu s3 ⟨u, H3, I3, pu, eu, e3⟩ => ?_
  subst eu e3
  refine thn ((po_some hst).run pins s3 σ H3 (fun o H4 => o = some (-1) ∧ ∃ a xs, x = .ref a ∧ ((SqL X.K H4 a xs ∧ ∀ p, H4 p = none → Q (.ref p) (upd H4 p (.lst xs.reverse))) ∨ (SqT X.K H4 a xs ∧ ∀ p, H4 p = none → Q (.ref p) (upd H4 p (.tup xs.reverse))))) I3 q1)
    fun vs s4 ⟨o, H4, I4, ps, eo, a, xs, ex, q4⟩ => ?_
  subst eo ex
  cases r1
  cases pl; cases pu
  have I5 : Inv X pins σ H4 { s4 with heap := s4.heap.push { cls := .type "slice", data := .fields #[.none, .none, vs] } } := I4.kept (t' := s4.toks) fun b ob q => Heap.get?_push_of_some _ q
  show wpAny (model X.prog X.w) X.A (subscriptTail e (.Slice none none (some st) p3) (.ref a) (.ref s4.heap.objs.size)) (EP X pins σ Q) X.xe { s4 with heap := s4.heap.push { cls := .type "slice", data := .fields #[.none, .none, vs] } }
  rcases q4 with ⟨hx, q⟩ | ⟨hx, q⟩
  · obtain ⟨its, r, ht, hz⟩ := I5.list hx
    have hlen := r.length
    refine tail_any (ops := [.ref a, .ref s4.heap.objs.size]) ht.isList.typeIs (PySem.slot_list_getitem.lookup) ?_ (by with_unfolding_all rfl)
    refine wpAny_getItem_list_slice ht.isList (Heap.IsSliceOf.new _ .none .none vs) .none .none ps (by decide) ?_ (by rw [List.size_toArray]; omega)
    rw [PySem.W.krv_pick]
    refine ⟨.ref _, _, I5.laid (t' := s4.toks) (o := .lst xs.reverse) (fun b ob q => Heap.get?_push_of_some _ q) (Nat.le_refl _) ?_, rfl, q _ (I5.hok.fresh (Nat.le_refl _))⟩
    exact ⟨by rw [List.length_reverse]; exact hz, _, 0, r.reverse, Heap.get?_push_size _ rfl⟩
  · obtain ⟨its, r, ht, hz⟩ := I5.tuple hx
    have hlen := r.length
    refine tail_any (ops := [.ref a, .ref s4.heap.objs.size]) ht.typeIs slot_tuple_getitem.lookup ?_ (by with_unfolding_all rfl)
    cases ps with
    | int _ tk =>
      refine tuple_back (show Heap.IsTuple _ a its.toArray from ht) (Heap.IsSliceOf.new _ .none .none _) ?_ (by rw [List.size_toArray]; omega)
      refine ⟨.ref _, _, I5.laid (t' := s4.toks) (o := .tup xs.reverse) (fun b ob q => Heap.get?_push_of_some _ q) (Nat.le_refl _) ?_, rfl, q _ (I5.hok.fresh (Nat.le_refl _))⟩
      exact ⟨by rw [List.length_reverse]; exact hz, _, r.reverse, ⟨_, Heap.get?_push_size _ rfl, rfl, 0, rfl⟩⟩
end
end Who

/-! Who: calls by keywords alone; {k: v for x in xs} with tuples as keys. -/
namespace Who
open PySem L2 PySem.Spec PyProof.Rows
section
variable {X : Cx} {CX : CXT} {k : Nat} {f : Addr} {fd : FuncData} {ps ks : List Str} {sp : Sp} {E : XK} {x : Str} {p pos : Pos} {kws : List Keyword} {tk : TA}
/-- f(a = .., b = ..): how the keywords' values stand in the parameters' order -/
structure KBind0 (fd : FuncData) (ps ks : List Str) (g : List Value → List Value) (gV : List V → List V) : Prop where
  to : ∀ (s : Shared) (ws : List Value), (g ws).length = ps.length → BindsTo s fd ⟨[], ks.zip ws⟩ (ps.zip (g ws))
  rel : ∀ {zs : List V} {ws : List Value}, Vals zs ws → Vals (gV zs) (g ws)
def tCallK0 (sp : Sp) (gV : List V → List V) (E : XK) (tk : TA) : TE := fun σ H Q => tk σ H fun zs H1 => sp (gV zs) H1 Q E
theorem pe_callK0 {g : List Value → List Value} {gV : List V → List V} (F : FnOk X.prog X.w X.K X.mg X.base CX k f fd ps sp) (hr : Room k X.A) (hg : Gl X x) (hm : X.mg x = some (.ref f)) (hk : PySem.W.keepIn X.K (.ref f) = true) (hb : KBind0 fd ps ks g gV) (hx : Passes CX X E)
    (hkw : PK X kws tk) (hall : (backToKw pos (keywordEach kws X.env)).all (·.1.isSome) = true := by rfl) (hks : (backToKw pos (keywordEach kws X.env)).filterMap (·.1) = ks := by rfl)
    (hdb : (x == ("__debug__" : Str)) = false := by decide) (hpl : ((backTo pos (starEach [] X.env)).any (·.1) || (backToKw pos (keywordEach kws X.env)).any (·.1.isNone)) = false := by rfl) :
    PE X (.Call (.Name x p) [] kws pos) (tCallK0 sp gV E tk) := by
  refine ⟨fun pins s σ H Q I h => ?_⟩
  refine wpAny_Call_Name_kw (ld_glob I hg hm ?_ hdb)
  refine PySem.W.callWith_KW0 (h₀ := X.base) I.ok.mod.kin hk hall ?_ hpl
  refine thn (hkw.run pos pins s σ H _ I h) fun ws s1 ⟨zs, H1, I1, rz, q1⟩ => ⟨I1.kIn, ?_⟩
  rw [hks]
  have rg := hb.rel rz
  have hl : (g ws).length = ps.length := by rw [← rg.length]; exact F.len _ _ _ _ q1
  refine wpAny_call (codeAny_mono (F.run X.A X.stack s1 H1 ⟨[] ++ [], ks.zip ws⟩ (g ws) (gV zs) Q E hr I1.env0 (hb.to s1 ws hl) rg q1) fun r s' hq => ?_)
  match r, hq with
  | .error e, hq => exact hx pins σ H1 s1 e s' I1 hq
  | .ok (.ret u), hq => exact I1.after hq
  | .ok .next, hq => exact False.elim hq
  | .ok .brk, hq => exact False.elim hq
  | .ok .cont, hq => exact False.elim hq
end

section
variable {X : Cx}
theorem nd_set {pins : List (Addr × Obj)} {σ : L2.St} {H : Hp} {s : Shared} {E : Value → Shared → Prop} {d a : Addr} {ps : List NP} {k : NestedKey} {v : V} {r : Value} {Q : Unit → Shared → Prop} (hu : X.A.units + 10 < cLine) (I : Inv X pins σ H s)
    (hd : H d = some (NdO X.prog X.w d ps)) (hks : KeysAt X.K H ps) (hk : KeyAt X.K H a k) (hz : ps.length < sizeLine) (rv : RelV v r)
    (h : ∀ s', Inv X pins σ (upd H d (NdO X.prog X.w d (psPut ps k a v))) s' → Q () s') : wpAny (model X.prog X.w) X.A (dictSet d (.ref a) r) Q E s := by
  obtain ⟨z, hs, xs, rel, m⟩ := nd_of I hd hks
  have hl : ps.length = xs.length := Paired.length rel
  refine wpAny_dictSet_heap (hsz := by omega) (nroom0 hu) (nk_is I hk) m fun h' m' sb => h _ (nd_write I hd hs ?_ (rel.put k a rv) m' sb)
  have := psPut_len ps k a v
  omega
/-- {k: v for target in iter}: D the new dict -/
def tNDc (P : Program) (w : World) (K : PySem.W.Frag) (wi : TI) (g : TG) (tk tv : TE) (vs : List Nat) : TE := fun σ H Q => wi σ H fun J H1 => ∀ D, H1 D = none →
  ∃ W : Nat → Nat → Hp → Prop, (∃ m, W 0 m (upd H1 D (NdO P w D []))) ∧ ∀ i m H2, W i m H2 → (J.stop i H2 ∧ Q (.ref D) H2) ∨
    (J.go i H2 ∧ ∃ Nx : Hp → Prop, (∀ H', Nx H' → ∃ m', m' < m ∧ W (i + 1) m' H') ∧ ∀ x H', J.yld i H2 x H' → g x (wipe σ vs) H' fun σ2 H3 => wipe σ2 vs = wipe σ vs ∧
      tk σ2 H3 fun y H4 => tv σ2 H4 fun z H5 => ∃ a k ps, y = .ref a ∧ KeyAt K H5 a k ∧ H5 D = some (NdO P w D ps) ∧ KeysAt K H5 ps ∧ ps.length < sizeLine ∧ Nx (upd H5 D (NdO P w D (psPut ps k a z))))
theorem pe_ndc {kx vx tg iter : PySem.Expr} {scope : Scope} {own : List (Str × Nat)} {pos : Pos} {wi : TI} {g : TG} {tk tv : TE} (hu : X.A.units + 10 < cLine) (hc : X.calm = true) (hN : X.N.Nodup) (hi : PI X tg iter wi) (ok : BlkOk X.N X.env.scope scope own)
    (hg : ∀ (s : Shared) (H : Hp) (C : Addr) (cl : List (Str × Addr)) (fp : List Addr), PG (X.blk s H scope (compEnvC scope cl C X.env) fp) tg g)
    (hk : ∀ (s : Shared) (H : Hp) (C : Addr) (cl : List (Str × Addr)) (fp : List Addr), PE (X.blk s H scope (compEnvC scope cl C X.env) fp) kx tk)
    (he : ∀ (s : Shared) (H : Hp) (C : Addr) (cl : List (Str × Addr)) (fp : List Addr), PE (X.blk s H scope (compEnvC scope cl C X.env) fp) vx tv) (hs : ∀ x, foldedSetIterable iter X.env x = pure x := by intro _; rfl) :
    PE X (.DictComp kx vx [⟨tg, iter, [], 0⟩] scope pos) (tNDc X.prog X.w X.K wi g tk tv (own.map (·.2))) := by
  refine ⟨fun pins s σ H Q I h => ?_⟩
  rw [arm_eval_DictComp]
  have frees : ∀ y ∈ scope.names, y.2 = .free → ∃ c, X.env.cells.lookup y.1 = some c := fun y hy e => (ok.free y hy e).elim (fun z => I.ok.has _ (.inl z)) fun z => I.ok.has _ (.inr z)
  refine wpAny_comprehension_free (use := none) rfl hs (closure_ok frees) ok.kind (fun y hy e => by rw [ok.uniq y hy, e]) (thn (hi.run pins s σ H _ I h) fun xv s1 hx => thn hx fun itv s2 h2 => ?_)
  obtain ⟨it, fp, tn, J, H2, rfl, I2, T, st2, f2, q⟩ := h2
  refine wpAny_newObj_type (newEnv_comp ?_)
  generalize hD : s2.heap.objs.size = D
  obtain ⟨W, ⟨m0, w0⟩, turn⟩ := q D (I2.hok.fresh (Nat.le_of_eq hD))
  generalize hs3 : ({ s2 with heap := s2.heap.push { cls := .type "dict", data := .dict #[] } } : Shared) = s3
  have I3 : Inv X pins σ (upd H2 D (NdO X.prog X.w D [])) s3 := by
    subst hs3
    subst hD
    exact I2.laid (t' := s2.toks) (fun b o e => Heap.get?_push_of_some _ e) (Nat.le_refl _) (nd_empty s2.heap I2.big)
  have e3 : s3.heap = s2.heap.push { cls := .type "dict", data := .dict #[] } := by rw [← hs3]
  have below : ∀ b ∈ fp, b < s2.heap.objs.size := fun b hb => let ⟨o, e, _⟩ := T.obj _ _ st2 b hb; Heap.lt_size e
  have f3 : ∀ b ∈ fp, FpOk X pins (upd H2 D (NdO X.prog X.w D [])) b ∧ b < s3.heap.objs.size := fun b hb => by
    have lt := below b hb
    refine ⟨⟨?_, (f2 b hb).2⟩, by rw [e3, Heap.size_push]; exact Nat.lt_succ_of_lt lt⟩
    rw [upd_ne (by rw [← hD]; exact Nat.ne_of_lt lt)]
    exact (f2 b hb).1
  have st3 : tn 0 s3.heap := T.keep _ _ _ st2 fun b _ o e => by rw [e3]; exact Heap.get?_push_of_some _ e
  have I4 := block_start I3 ok hN f3
  generalize hH3 : upd H2 D (NdO X.prog X.w D []) = H3 at I3 I4 w0 f3
  generalize hcl : cellsFrom (s3.heap.objs.size + 1) scope.names (cloFrom X.env.cells scope.names []) = cl at I4 ⊢
  have pg := hg s3 H3 s3.heap.objs.size cl fp
  have pk := hk s3 H3 s3.heap.objs.size cl fp
  have pe := he s3 H3 s3.heap.objs.size cl fp
  show codeAny _ _ (.compStart (.DictComp kx vx [⟨tg, iter, [], 0⟩] scope pos) 0 (.ref it) (.ref D) (compEnvC scope cl s3.heap.objs.size X.env)) (compPost (model X.prog X.w) X.A X.xe none (EP X pins σ Q) (.ref D) s3.heap.objs.size) _
  generalize hce : compEnvC scope cl s3.heap.objs.size X.env = ce at I4 pg pk pe ⊢
  have cL : ce.locals = s3.heap.objs.size := by subst hce; rfl
  generalize hs4 : ({ s3 with heap := pushCells (s3.heap.push { cls := .type "dict", data := .dict #[] }) scope.names } : Shared) = s4 at I4 ⊢
  have st4 : tn 0 s4.heap := T.keep _ _ _ st3 fun b _ o e => by rw [← hs4]; exact pushCells_keeps _ _ _ _ (Heap.get?_push_of_some _ e)
  have stat : ∀ {σ' : L2.St} {H' : Hp} {s' : Shared}, Inv (X.blk s3 H3 scope ce fp) [] σ' H' s' → (∀ b ∈ fp, H' b = none) → ∀ b ∈ fp, FpOk (X.blk s3 H3 scope ce fp) [] H' b := fun I' hn b hb =>
    ⟨hn b hb, (I'.ok.exf b hb).1, I'.ok.exfs b hb, .inl hb, fun x c e => (I'.ok.exf b hb).2 x c e, fun p hp => absurd (show p ∈ ([] : List (Addr × Obj)) ++ [] from hp) (by simp)⟩
  have loop : codeAny (model X.prog X.w) X.A (.compLoop (.DictComp kx vx [⟨tg, iter, [], 0⟩] scope pos) 0 (.ref it) (.ref D) ce) (compPost (model X.prog X.w) X.A X.xe none (EP X pins σ Q) (.ref D) s3.heap.objs.size) s4 := by
    refine compLoop_anyD (fun n s' => ∃ i H', Inv (X.blk s3 H3 scope ce fp) [] (wipe σ (own.map (·.2))) H' s' ∧ tn i s'.heap ∧ (∀ b ∈ fp, H' b = none) ∧ W i n H') ?_ m0 ⟨0, H3, I4, st4, fun b hb => (f3 b hb).1.1, w0⟩
    rintro n s5 ⟨i, H5, I5, st5, n5, w5⟩
    rcases turn i n H5 w5 with ⟨stop, qq⟩ | ⟨go, Nx, hNx, step⟩
    · refine thnF (T.done (X.blk s3 H3 scope ce fp) rfl rfl rfl hc i [] s5 _ H5 (fun _ _ => False) I5 (stat I5 n5) st5 stop) fun r s6 ⟨hr, I6⟩ => ?_
      subst hr
      have I7 : Inv X pins σ H5 s6 := I3.call' (ch := fp) I6.os I6.base I6.hok I6.bare fun b hb => let ⟨_, z1, _, z3, z4, z5⟩ := (f3 b hb).1; ⟨z3, z1, z4, z5⟩
      have nC : H5 s3.heap.objs.size = none := by
        have z : H5 ce.locals = none := I6.free
        rwa [cL] at z
      obtain ⟨m, hn, _⟩ := I6.loc
      replace hn : s6.heap.Ns ce.locals m := hn
      rw [cL] at hn
      refine ⟨m, hn, fun h'' sb => ?_⟩
      have n3 : H3 s3.heap.objs.size = none := by
        rw [← hH3, upd_ne (by rw [e3, Heap.size_push, ← hD]; exact Nat.ne_of_gt (Nat.lt_succ_self _))]
        exact I2.hok.fresh (by rw [e3, Heap.size_push]; omega)
      obtain ⟨g0, g1, g2, g3, g4, g5⟩ := I3.fpOk (b := s3.heap.objs.size) (Nat.le_refl _) n3
      exact ⟨.ref D, H5, I7.turned (t' := s6.toks) (fun b o hb e => (sb.2 b hb).trans e) nC g1 g3 g4 g5, rfl, qq⟩
    · refine thnF (T.item (X.blk s3 H3 scope ce fp) rfl rfl rfl hc i [] s5 _ H5 (fun _ _ => False) I5 (stat I5 n5) st5 go) fun r s6 ⟨u, hr, h6⟩ => ?_
      subst hr
      refine thnF h6 fun _ s7 ⟨x, H7, I7, r7, y7, st7, n7⟩ => ?_
      have J7 := I7.pinned (stat I7 n7) (T.obj _ _ st7)
      refine thnF (pg.run _ s7 _ H7 x u _ J7 r7 (step x H7 y7)) fun _ s8 ⟨σ8, H8, I8, hw8, q8⟩ => ?_
      refine wpAny_tests_nil ?_
      simp only [if_true]
      refine thnF (pk.run _ s8 σ8 H8 _ I8 q8) fun kv s9 ⟨yk, H9, I9, r9, q9⟩ => thnF (pe.run _ s9 σ8 H9 _ I9 q9) fun vv s10 ⟨yv, H10, I10, r10, a, k, ps, ek, hka, hDa, hks, hz, nx⟩ => ?_
      subst ek
      obtain rfl : kv = Value.ref a := r9
      refine nd_set (X := X.blk s3 H3 scope ce fp) hu I10 hDa hks hka hz r10 fun s' I' => ?_
      obtain ⟨m', hm, w'⟩ := hNx _ nx
      have pin' : ∀ b ∈ fp, ∀ o, s7.heap.get? b = some o → s'.heap.get? b = some o ∧ (upd H10 D (NdO X.prog X.w D (psPut ps k a yv))) b = none := fun b hb o e =>
        let z := I'.pin (b, o) (List.mem_append_right _ (List.mem_append_right _ (mem_pinsAt hb e)))
        ⟨z.1, z.2.1⟩
      have hl : (wipe σ (own.map (·.2))).length = σ8.length := by rw [← hw8, wipe_length]
      refine ⟨m', hm, i + 1, _, (I'.unpinned (pins := [])).weak hl (fun j v e => ?_), T.keep _ _ _ st7 fun b hb o e => (pin' b hb o e).1, fun b hb => ?_, w'⟩
      · rw [← hw8] at e
        exact (wipe_some e).1
      · obtain ⟨o, e, _⟩ := T.obj _ _ st7 b hb
        exact (pin' b hb o e).2
  exact codeAny_compStart_dict loop (T.self X.A 0 _ _ _ st4 loop)
end
end Who

/-! Who: the reading of an expression by itself: the weakest term, and what evaluates to which data. -/
namespace Who
open PySem L2 PySem.Spec PyProof.Rows

/-! ### weakest readings -/
def wE (X : Cx) (e : PySem.Expr) : TE := fun σ H Q => ∀ pins s, Inv X pins σ H s → wpAny (model X.prog X.w) X.A (eval e X.env) (EP X pins σ Q) X.xe s
def wT (X : Cx) (e : PySem.Expr) : TT := fun σ H Q => ∀ pins s, Inv X pins σ H s → wpAny (model X.prog X.w) X.A (isTrue e X.env (eval e X.env)) (TP X pins σ Q) X.xe s
def wW (X : Cx) (e : PySem.Expr) : TT := fun σ H Q => ∀ whole pins s, Inv X pins σ H s → wpAny (model X.prog X.w) X.A (isTrue e X.env whole) (TP X pins σ Q) X.xe s
def wA (X : Cx) (es : List PySem.Expr) : TA := fun σ H Q => ∀ pos pins s, Inv X pins σ H s → wpAny (model X.prog X.w) X.A (spliced (backTo pos (starEach es X.env))) (AP X pins σ Q) X.xe s
def wK (X : Cx) (ks : List Keyword) : TA := fun σ H Q => ∀ pos pins s, Inv X pins σ H s → wpAny (model X.prog X.w) X.A (evalAll ((backToKw pos (keywordEach ks X.env)).map (·.2))) (AP X pins σ Q) X.xe s
def wS (X : Cx) (st : Stmt) : TS := fun D σ H => ∀ pins s, Inv X pins σ H s → wpAny (model X.prog X.w) X.A (exec st X.env) (SP X pins D) X.xe s
def wSs (X : Cx) (sts : List Stmt) : TS := fun D σ H => ∀ pins s, Inv X pins σ H s → wpAny (model X.prog X.w) X.A (execs sts X.env) (SP X pins D) X.xe s
section
variable {X : Cx} {e : PySem.Expr} {es : List PySem.Expr} {ks : List Keyword} {st : Stmt} {sts : List Stmt} {t : TE} {tt : TT} {ta : TA} {ts : TS} {σ : Stt} {H : Hp}
theorem pe_w : PE X e (wE X e) := ⟨fun pins s σ H Q I h => h pins s I⟩
theorem pt_w : PT X e (wT X e) := ⟨fun pins s σ H Q I h => h pins s I⟩
theorem pw_w : PW X e (wW X e) := ⟨fun whole pins s σ H Q I h => h whole pins s I⟩
theorem pa_w : PA X es (wA X es) := ⟨fun pos pins s σ H Q I h => h pos pins s I⟩
theorem pk_w : PK X ks (wK X ks) := ⟨fun pos pins s σ H Q I h => h pos pins s I⟩
theorem ps_w : PS X st (wS X st) := ⟨fun pins s σ H D I h => h pins s I⟩
theorem pss_w : PSs X sts (wSs X sts) := ⟨fun pins s σ H D I h => h pins s I⟩
theorem le_E (h : PE X e t) {Q : VK} (q : t σ H Q) : wE X e σ H Q := fun pins s I => h.run pins s σ H Q I q
theorem le_T (h : PT X e tt) {Q : Bool → Hp → Prop} (q : tt σ H Q) : wT X e σ H Q := fun pins s I => h.run pins s σ H Q I q
theorem le_W (h : PW X e tt) {Q : Bool → Hp → Prop} (q : tt σ H Q) : wW X e σ H Q := fun whole pins s I => h.run whole pins s σ H Q I q
theorem le_A (h : PA X es ta) {Q : List V → Hp → Prop} (q : ta σ H Q) : wA X es σ H Q := fun pos pins s I => h.run pos pins s σ H Q I q
theorem le_K (h : PK X ks ta) {Q : List V → Hp → Prop} (q : ta σ H Q) : wK X ks σ H Q := fun pos pins s I => h.run pos pins s σ H Q I q
theorem le_S (h : PS X st ts) {D : Ends} (q : ts D σ H) : wS X st D σ H := fun pins s I => h.run pins s σ H D I q
theorem le_Ss (h : PSs X sts ts) {D : Ends} (q : ts D σ H) : wSs X sts D σ H := fun pins s I => h.run pins s σ H D I q
end

/-! ### what a body may lean on -/
def bnames : List Str := ["isinstance", "int", "bool", "list", "tuple", "str", "len", "min", "max", "abs", "sorted", "repr", "all", "any", "sum", "enumerate", "range", "zip", "dict", "set"]
def NoGl (mg : Str → Option Value) : Prop := ∀ x ∈ bnames, mg x = none
class Wk (X : Cx) : Prop where
  calm : X.calm = true
  un : X.A.units + 100 < cLine
  nob : NoGl X.mg
  nd : X.N.Nodup
instance wk_blk {X : Cx} [W : Wk X] {s : Shared} {H : Hp} {sc : Scope} {ce : Env} {fp : List Addr} : Wk (X.blk s H sc ce fp) := ⟨W.calm, W.un, W.nob, W.nd⟩
section
variable {X : Cx}
theorem nobx (X : Cx) [W : Wk X] (x : Str) (h : x ∈ bnames) : X.mg x = none := W.nob x h
theorem un65 (X : Cx) [W : Wk X] : X.A.units + 65 < cLine := by have := W.un; omega
theorem un64 (X : Cx) [W : Wk X] : X.A.units + 64 < cLine := by have := W.un; omega
theorem un10 (X : Cx) [W : Wk X] : X.A.units + 10 < cLine := by have := W.un; omega
theorem un1 (X : Cx) [W : Wk X] : X.A.units + 1 < cLine := by have := W.un; omega
theorem un0 (X : Cx) [W : Wk X] : X.A.units < cLine := by have := W.un; omega
end

/-! ### what evaluates to which data -/
def EV (X : Cx) (e : PySem.Expr) (σ : Stt) (B : Hp) (d : PyData) : Prop := ED X.K (wE X e) σ B d
def TV (X : Cx) (e : PySem.Expr) (σ : Stt) (B : Hp) (b : Bool) : Prop := ET (wT X e) σ B b
def WV (X : Cx) (e : PySem.Expr) (σ : Stt) (B : Hp) (b : Bool) : Prop := ET (wW X e) σ B b
def AV (X : Cx) (es : List PySem.Expr) (σ : Stt) (B : Hp) (ds : List PyData) : Prop := EA X.K (wA X es) σ B ds
def KV' (X : Cx) (ks : List Keyword) (σ : Stt) (B : Hp) (ds : List PyData) : Prop := EA X.K (wK X ks) σ B ds
section
variable {X : Cx} {e a b c o i : PySem.Expr} {es rest : List PySem.Expr} {ks : List Keyword} {pos p q : Pos} {t : TE} {tt : TT} {ta : TA} {σ : Stt} {B B1 H : Hp} {d d1 d2 f : PyData} {ds : List PyData} {v : V}
theorem EV.by (h : PE X e t) (g : ED X.K t σ B d) : EV X e σ B d := fun H1 z Q q => le_E h (g H1 z Q q)
theorem TV.by {k : Bool} (h : PT X e tt) (g : ET tt σ B k) : TV X e σ B k := fun H1 z Q q => le_T h (g H1 z Q q)
theorem WV.by {k : Bool} (h : PW X e tt) (g : ET tt σ B k) : WV X e σ B k := fun H1 z Q q => le_W h (g H1 z Q q)
theorem AV.by (h : PA X es ta) (g : EA X.K ta σ B ds) : AV X es σ B ds := fun H1 z Q q => le_A h (g H1 z Q q)
theorem KV'.by (h : PK X ks ta) (g : EA X.K ta σ B ds) : KV' X ks σ B ds := fun H1 z Q q => le_K h (g H1 z Q q)
theorem EV.mono (h : EV X e σ B d) (s : Sub B B1) : EV X e σ B1 d := ED.mono h s
theorem TV.mono {k : Bool} (h : TV X e σ B k) (s : Sub B B1) : TV X e σ B1 k := ET.mono h s
theorem EV.is (h : EV X e σ B d) (q : d = f) : EV X e σ B f := q ▸ h
theorem TV.is {k l : Bool} (h : TV X e σ B k) (q : k = l) : TV X e σ B l := q ▸ h
theorem ev_var (n : Nat) {x : Str} (g : Dp X.K B v d) (h : σ[n]? = some (some v) := by rfl) (hN : X.N[n]? = some x := by rfl) (hv : Vis X.env.scope x := by first | exact Or.inl rfl | exact Or.inr (Or.inl rfl) | exact Or.inr (Or.inr rfl))
    (hd : (x == ("__debug__" : Str)) = false := by decide) (hcd : (x == ("__classdict__" : Str)) = false := by decide) : EV X (.Name x pos) σ B d := EV.by (pe_var hN hv hd hcd) (ed_var h g)
theorem ev_int {n j} : EV X (.Constant (.int n) j pos) σ B (.int n) := EV.by pe_int ed_int
theorem ev_str {n j} : EV X (.Constant (.str n) j pos) σ B (.str n) := EV.by pe_str ed_str
theorem ev_bl {n j} : EV X (.Constant (.bool n) j pos) σ B (.bool n) := EV.by pe_bl ed_bl
theorem ev_non {j} : EV X (.Constant .none j pos) σ B .none := EV.by pe_non ed_non
theorem ev_op {op : Operator} {r : R2} (ho : OpR X (binaryOp op) r) (hr : RD X.K r d1 d2 f) (ha : EV X a σ B d1) (hb : EV X b σ B d2) : EV X (.BinOp a op b pos) σ B f := EV.by (pe_op ho pe_w pe_w) (ed_op ha hb hr)
theorem ev_add {m n : Int} (ha : EV X a σ B (.int m)) (hb : EV X b σ B (.int n)) : EV X (.BinOp a .Add b pos) σ B (.int (m + n)) := ev_op op_add (rd_I0 fun _ => .int _) ha hb
theorem ev_sub {m n : Int} (ha : EV X a σ B (.int m)) (hb : EV X b σ B (.int n)) : EV X (.BinOp a .Sub b pos) σ B (.int (m - n)) := ev_op op_sub (rd_I0 fun _ => .int _) ha hb
theorem ev_mul {m n : Int} (hc : CMul m n) (ha : EV X a σ B (.int m)) (hb : EV X b σ B (.int n)) : EV X (.BinOp a .Mult b pos) σ B (.int (m * n)) := ev_op op_mul (rd_I hc fun _ => .int _) ha hb
theorem ev_fdiv {m n : Int} (hc : CDiv m n) (ha : EV X a σ B (.int m)) (hb : EV X b σ B (.int n)) : EV X (.BinOp a .FloorDiv b pos) σ B (.int (m / n)) := ev_op op_fdiv (rd_I hc fun _ => .int _) ha hb
theorem ev_mod {m n : Int} (hc : 0 < n) (ha : EV X a σ B (.int m)) (hb : EV X b σ B (.int n)) : EV X (.BinOp a .Mod b pos) σ B (.int (m % n)) := ev_op op_mod (rd_I (C := fun _ j => 0 < j) hc fun _ => .int _) ha hb
theorem ev_pow {m n : Int} (hc : CPow m n) (ha : EV X a σ B (.int m)) (hb : EV X b σ B (.int n)) : EV X (.BinOp a .Pow b pos) σ B (.int (m ^ n.toNat)) := ev_op op_pow (rd_I hc fun _ => .int _) ha hb
theorem ev_cmpR {op : CmpOp} {r : R2} (ho : OpR X (compareOp op) r) (hr : RD X.K r d1 d2 f) (hm : behindInMarks op b = false) (ha : EV X a σ B d1) (hb : EV X b σ B d2) : EV X (.Compare a [op] [b] pos) σ B f := EV.by (pe_cmpR ho pe_w pe_w hm) (ed_op ha hb hr)
theorem tv_cmpR {op : CmpOp} {r : R2} {k : Bool} (ho : OpR X (compareOp op) r) (hr : RD X.K r d1 d2 (.bool k)) (hm : behindInMarks op b = false) (ha : EV X a σ B d1) (hb : EV X b σ B d2) : TV X (.Compare a [op] [b] pos) σ B k := TV.by (pt_cmpR ho pe_w pe_w hm) (et_test (ed_op ha hb hr))
theorem ev_lt {m n : Int} (ha : EV X a σ B (.int m)) (hb : EV X b σ B (.int n)) : EV X (.Compare a [.Lt] [b] pos) σ B (.bool (decide (m < n))) := ev_cmpR op_lt (rd_I0 fun _ => .bl _) (nomark _) ha hb
theorem ev_le {m n : Int} (ha : EV X a σ B (.int m)) (hb : EV X b σ B (.int n)) : EV X (.Compare a [.LtE] [b] pos) σ B (.bool (decide (m ≤ n))) := ev_cmpR op_le (rd_I0 fun _ => .bl _) (nomark _) ha hb
theorem ev_gt {m n : Int} (ha : EV X a σ B (.int m)) (hb : EV X b σ B (.int n)) : EV X (.Compare a [.Gt] [b] pos) σ B (.bool (decide (n < m))) := ev_cmpR op_gt (rd_I0 fun _ => .bl _) (nomark _) ha hb
theorem ev_ge {m n : Int} (ha : EV X a σ B (.int m)) (hb : EV X b σ B (.int n)) : EV X (.Compare a [.GtE] [b] pos) σ B (.bool (decide (n ≤ m))) := ev_cmpR op_ge (rd_I0 fun _ => .bl _) (nomark _) ha hb
theorem tv_lt {m n : Int} (ha : EV X a σ B (.int m)) (hb : EV X b σ B (.int n)) : TV X (.Compare a [.Lt] [b] pos) σ B (decide (m < n)) := tv_cmpR op_lt (rd_I0 fun _ => .bl _) (nomark _) ha hb
theorem tv_le {m n : Int} (ha : EV X a σ B (.int m)) (hb : EV X b σ B (.int n)) : TV X (.Compare a [.LtE] [b] pos) σ B (decide (m ≤ n)) := tv_cmpR op_le (rd_I0 fun _ => .bl _) (nomark _) ha hb
theorem tv_gt {m n : Int} (ha : EV X a σ B (.int m)) (hb : EV X b σ B (.int n)) : TV X (.Compare a [.Gt] [b] pos) σ B (decide (n < m)) := tv_cmpR op_gt (rd_I0 fun _ => .bl _) (nomark _) ha hb
theorem tv_ge {m n : Int} (ha : EV X a σ B (.int m)) (hb : EV X b σ B (.int n)) : TV X (.Compare a [.GtE] [b] pos) σ B (decide (n ≤ m)) := tv_cmpR op_ge (rd_I0 fun _ => .bl _) (nomark _) ha hb
theorem rd_eqI {m n : Int} : RD X.K rEq (.int m) (.int n) (.bool (decide (m = n))) := fun x y A H s hx hy Q q => by
  rw [hx.int_inv, hy.int_inv]
  exact ⟨rfl, q _ A H (Nxt.refl s) (by rw [dec_int, beqI]; exact .bl _)⟩
theorem rd_neI {m n : Int} : RD X.K rNe (.int m) (.int n) (.bool (!decide (m = n))) := fun x y A H s hx hy Q q => by
  rw [hx.int_inv, hy.int_inv]
  exact ⟨rfl, q _ A H (Nxt.refl s) (by rw [dec_int, beqI]; exact .bl _)⟩
theorem dec_strV (m n : Str) : decide (V.str m = V.str n) = decide (m = n) := decide_eq_decide.mpr ⟨fun z => by cases z; rfl, fun z => by rw [z]⟩
theorem rd_eqS {m n : Str} : RD X.K rEq (.str m) (.str n) (.bool (decide (m = n))) := fun x y A H s hx hy Q q => by
  rw [hx.str_inv, hy.str_inv]
  exact ⟨rfl, q _ A H (Nxt.refl s) (by rw [dec_strV]; exact .bl _)⟩
theorem rd_neS {m n : Str} : RD X.K rNe (.str m) (.str n) (.bool (!decide (m = n))) := fun x y A H s hx hy Q q => by
  rw [hx.str_inv, hy.str_inv]
  exact ⟨rfl, q _ A H (Nxt.refl s) (by rw [dec_strV]; exact .bl _)⟩
theorem tv_eqI {m n : Int} (ha : EV X a σ B (.int m)) (hb : EV X b σ B (.int n)) : TV X (.Compare a [.Eq] [b] pos) σ B (decide (m = n)) := tv_cmpR op_eq rd_eqI (nomark _) ha hb
theorem tv_neI {m n : Int} (ha : EV X a σ B (.int m)) (hb : EV X b σ B (.int n)) : TV X (.Compare a [.NotEq] [b] pos) σ B (!decide (m = n)) := tv_cmpR op_ne rd_neI (nomark _) ha hb
theorem tv_eqS {m n : Str} (ha : EV X a σ B (.str m)) (hb : EV X b σ B (.str n)) : TV X (.Compare a [.Eq] [b] pos) σ B (decide (m = n)) := tv_cmpR op_eq rd_eqS (nomark _) ha hb
theorem tv_neS {m n : Str} (ha : EV X a σ B (.str m)) (hb : EV X b σ B (.str n)) : TV X (.Compare a [.NotEq] [b] pos) σ B (!decide (m = n)) := tv_cmpR op_ne rd_neS (nomark _) ha hb
theorem ev_eqI {m n : Int} (ha : EV X a σ B (.int m)) (hb : EV X b σ B (.int n)) : EV X (.Compare a [.Eq] [b] pos) σ B (.bool (decide (m = n))) := ev_cmpR op_eq rd_eqI (nomark _) ha hb
theorem ev_neI {m n : Int} (ha : EV X a σ B (.int m)) (hb : EV X b σ B (.int n)) : EV X (.Compare a [.NotEq] [b] pos) σ B (.bool (!decide (m = n))) := ev_cmpR op_ne rd_neI (nomark _) ha hb
theorem tv_eqD [Wk X] (s1 : SeqAt.shaped d1 = true) (s2 : SeqAt.shaped d2 = true) (ha : EV X a σ B d1) (hb : EV X b σ B d2) : TV X (.Compare a [.Eq] [b] pos) σ B (PyData.eqv d1 d2) := tv_cmpR (op_eqD (un64 X)) (rd_eqD s1 s2) (nomark _) ha hb
theorem tv_neD [Wk X] (s1 : SeqAt.shaped d1 = true) (s2 : SeqAt.shaped d2 = true) (ha : EV X a σ B d1) (hb : EV X b σ B d2) : TV X (.Compare a [.NotEq] [b] pos) σ B (!PyData.eqv d1 d2) := tv_cmpR (op_neD (un64 X)) (rd_neD s1 s2) (nomark _) ha hb
theorem ev_eqD [Wk X] (s1 : SeqAt.shaped d1 = true) (s2 : SeqAt.shaped d2 = true) (ha : EV X a σ B d1) (hb : EV X b σ B d2) : EV X (.Compare a [.Eq] [b] pos) σ B (.bool (PyData.eqv d1 d2)) := ev_cmpR (op_eqD (un64 X)) (rd_eqD s1 s2) (nomark _) ha hb
theorem ev_neD [Wk X] (s1 : SeqAt.shaped d1 = true) (s2 : SeqAt.shaped d2 = true) (ha : EV X a σ B d1) (hb : EV X b σ B d2) : EV X (.Compare a [.NotEq] [b] pos) σ B (.bool (!PyData.eqv d1 d2)) := ev_cmpR (op_neD (un64 X)) (rd_neD s1 s2) (nomark _) ha hb
theorem rd_inDA (hi : items d2 = some ds) (s1 : SeqAt.shaped d1 = true) (s2 : SeqAt.shaped d2 = true) : RD X.K (rInDA X.K) d1 d2 (.bool (ds.any fun z => PyData.eqv z d1)) := fun x y A H s hx hy Q q =>
  ⟨d1, d2, ds, hx.up s, hy.up s, hi, s1, s2, q _ A H (Nxt.refl s) (.bl _)⟩
theorem rd_ninDA (hi : items d2 = some ds) (s1 : SeqAt.shaped d1 = true) (s2 : SeqAt.shaped d2 = true) : RD X.K (rNotInDA X.K) d1 d2 (.bool (!ds.any fun z => PyData.eqv z d1)) := fun x y A H s hx hy Q q =>
  ⟨d1, d2, ds, hx.up s, hy.up s, hi, s1, s2, q _ A H (Nxt.refl s) (.bl _)⟩
theorem ev_in [Wk X] (hi : items d2 = some ds) (s1 : SeqAt.shaped d1 = true) (s2 : SeqAt.shaped d2 = true) (ha : EV X a σ B d1) (hb : EV X b σ B d2) (hm : behindInMarks .In b = false := by with_unfolding_all rfl) :
    EV X (.Compare a [.In] [b] pos) σ B (.bool (ds.any fun z => PyData.eqv z d1)) := ev_cmpR (op_inDA (un65 X)) (rd_inDA hi s1 s2) hm ha hb
theorem tv_in [Wk X] (hi : items d2 = some ds) (s1 : SeqAt.shaped d1 = true) (s2 : SeqAt.shaped d2 = true) (ha : EV X a σ B d1) (hb : EV X b σ B d2) (hm : behindInMarks .In b = false := by with_unfolding_all rfl) :
    TV X (.Compare a [.In] [b] pos) σ B (ds.any fun z => PyData.eqv z d1) := tv_cmpR (op_inDA (un65 X)) (rd_inDA hi s1 s2) hm ha hb
theorem tv_nin [Wk X] (hi : items d2 = some ds) (s1 : SeqAt.shaped d1 = true) (s2 : SeqAt.shaped d2 = true) (ha : EV X a σ B d1) (hb : EV X b σ B d2) (hm : behindInMarks .NotIn b = false := by with_unfolding_all rfl) :
    TV X (.Compare a [.NotIn] [b] pos) σ B (!ds.any fun z => PyData.eqv z d1) := tv_cmpR (op_notInDA (un65 X)) (rd_ninDA hi s1 s2) hm ha hb
/-! truth -/
theorem ev_and {k l : Bool} (ha : EV X a σ B (.bool k)) (hb : k = true → EV X (.BoolOp .And (b :: rest) pos) σ B (.bool l)) : EV X (.BoolOp .And (a :: b :: rest) pos) σ B (.bool (k && l)) := EV.by (pe_and pe_w pe_w) (ed_and ha hb)
theorem ev_or {k l : Bool} (ha : EV X a σ B (.bool k)) (hb : k = false → EV X (.BoolOp .Or (b :: rest) pos) σ B (.bool l)) : EV X (.BoolOp .Or (a :: b :: rest) pos) σ B (.bool (k || l)) := EV.by (pe_or pe_w pe_w) (ed_or ha hb)
theorem ev_one {op} (ha : EV X a σ B d) : EV X (.BoolOp op [a] pos) σ B d := EV.by (pe_one pe_w) ha
theorem ev_not {k : Bool} (ha : EV X a σ B (.bool k)) : EV X (.UnaryOp .Not a pos) σ B (.bool (!k)) := EV.by (pe_not pe_w) (ed_not ha)
theorem ev_if {k : Bool} (hc : TV X c σ B k) (ha : k = true → EV X a σ B d) (hb : k = false → EV X b σ B d) : EV X (.IfExp c a b pos) σ B d := EV.by (pe_ifExp pt_w pe_w pe_w) (ed_if hc ha hb)
theorem tv_val {k : Bool} (h : EV X e σ B (.bool k)) (he : ∀ whole, isTrue e X.env whole = (do let v ← whole; standAt e.pos; holding [v] (truthy v)) := by intro _; rfl) : TV X e σ B k := TV.by (pt_val pe_w he) (et_B h)
theorem tv_not {k : Bool} (h : TV X a σ B k) : TV X (.UnaryOp .Not a pos) σ B (!k) := TV.by (pt_not pt_w) (et_not h)
theorem WV.tv {k : Bool} (h : WV X e σ B k) : TV X e σ B k := fun H1 z Q q => fun pins s I => (h H1 z Q q) _ pins s I
theorem wv_and {k l : Bool} (ha : TV X a σ B k) (hb : k = true → WV X (.BoolOp .And (b :: rest) pos) σ B l) : WV X (.BoolOp .And (a :: b :: rest) pos) σ B (k && l) := WV.by (pw_and pt_w pw_w) (et_and ha hb)
theorem wv_or {k l : Bool} (ha : TV X a σ B k) (hb : k = false → WV X (.BoolOp .Or (b :: rest) pos) σ B l) : WV X (.BoolOp .Or (a :: b :: rest) pos) σ B (k || l) := WV.by (pw_or pt_w pw_w) (et_or ha hb)
theorem wv_and1 {k : Bool} (ha : TV X a σ B k) : WV X (.BoolOp .And [a] pos) σ B k := WV.by (pw_and1 pt_w) ha
theorem wv_or1 {k : Bool} (ha : TV X a σ B k) : WV X (.BoolOp .Or [a] pos) σ B k := WV.by (pw_or1 pt_w) ha
/-! arguments, displays, subscripts -/
theorem av_nil : AV X [] σ B [] := AV.by pa_nil ea_nil
theorem av_cons (h : EV X e σ B d) (g : AV X es σ B ds) (hs : starEach (e :: es) X.env = (false, eval e X.env) :: starEach es X.env := by rfl) : AV X (e :: es) σ B (d :: ds) := AV.by (pa_cons pe_w pa_w hs) (ea_cons h g)
theorem kv_nil : KV' X [] σ B [] := KV'.by pk_nil ea_nil
theorem kv_cons {nm : Option Str} (h : EV X e σ B d) (g : KV' X ks σ B ds) : KV' X (⟨nm, e, pos⟩ :: ks) σ B (d :: ds) := KV'.by (pk_cons pe_w pk_w) (ea_cons h g)
theorem ev_tup {n : Nat} (h : AV X es σ B ds) (hl : ds.length ≤ 100000 := by decide) : EV X (.Tuple es n pos) σ B (.tuple ds) := EV.by (pe_tup pa_w) (ed_tup h hl)
theorem ev_lst (h : AV X es σ B ds) (hl : ds.length ≤ 100000 := by decide) : EV X (.List es pos) σ B (.list ds) := EV.by (pe_lst pa_w) (ed_lst h hl)
theorem ev_ix {m : Int} (hi : items d = some ds) (h : atI ds m = some f) (ha : EV X o σ B d) (hb : EV X i σ B (.int m)) (hs : PlainIx i := by intro _ _; rfl) : EV X (.Subscript o i pos) σ B f := EV.by (pe_ix ix_seq pe_w pe_w hs) (ed_op ha hb (rd_ix hi h))
theorem ev_from {m : Int} (hi : items d = some ds) (ha : EV X o σ B d) (hb : EV X i σ B (.int m)) : EV X (.Subscript o (.Slice (some i) none none p) pos) σ B (likeD d (cutD ds (some m) none)) :=
  EV.by (pe_slice (SlR.or sl_list sl_tupA) pe_w (po_some pe_w) po_none) (ed_sl ha hi (eo_some hb) eo_none)
/-! built-ins -/
theorem ev_cb {id : String} {x : Str} {r : List V → Hp → VK → Prop} (hc : CallR X (.builtin id) r) (hr : RC X.K r ds f) (hm : X.mg x = none) (hv : bootBuiltins x = some (.builtin id)) (ha : AV X (e :: es) σ B ds) (hg : Gl X x := by rfl) (hn : x ≠ "__name__" := by decide) (hdb : (x == ("__debug__" : Str)) = false := by decide)
    (he : starEach (e :: es) X.env = (false, eval e X.env) :: starEach es X.env := by rfl) (hpl : (backTo pos (starEach es X.env)).any (·.1) = false := by rfl) : EV X (.Call (.Name x p) (e :: es) [] pos) σ B f := EV.by (pe_callB hc hg hm hv pa_w hn hdb he hpl) (ed_cb ha hr)
theorem ev_ct {T : String} {x : Str} {r : List V → Hp → VK → Prop} (hc : CallR X (.type T) r) (hr : RC X.K r ds f) (hm : X.mg x = none) (hv : bootBuiltins x = some (.type T)) (ha : AV X (e :: es) σ B ds) (hg : Gl X x := by rfl) (hn : x ≠ "__name__" := by decide) (hdb : (x == ("__debug__" : Str)) = false := by decide)
    (he : starEach (e :: es) X.env = (false, eval e X.env) :: starEach es X.env := by rfl) (hpl : (backTo pos (starEach es X.env)).any (·.1) = false := by rfl) : EV X (.Call (.Name x p) (e :: es) [] pos) σ B f := EV.by (pe_callTy hc hg hm hv pa_w hn hdb he hpl) (ed_cb ha hr)
end
end Who

/-! Who: built-ins, calls of defs, comprehensions, statements, by data. -/
namespace Who
open PySem L2 PySem.Spec PyProof.Rows
theorem boot_isi : bootBuiltins "isinstance" = some (.builtin "isinstance") := by decide +kernel
theorem boot_min' : bootBuiltins "min" = some (.builtin "min") := by decide +kernel
theorem boot_max' : bootBuiltins "max" = some (.builtin "max") := by decide +kernel
theorem boot_abs' : bootBuiltins "abs" = some (.builtin "abs") := by decide +kernel
theorem boot_sorted' : bootBuiltins "sorted" = some (.builtin "sorted") := by decide +kernel
theorem boot_repr' : bootBuiltins "repr" = some (.builtin "repr") := by decide +kernel
theorem boot_all' : bootBuiltins "all" = some (.builtin "all") := by decide +kernel
theorem boot_len' : bootBuiltins "len" = some (.builtin "len") := by decide +kernel
theorem boot_int' : bootBuiltins "int" = some (.type "int") := by decide +kernel
theorem boot_bool' : bootBuiltins "bool" = some (.type "bool") := by decide +kernel
theorem boot_list' : bootBuiltins "list" = some (.type "list") := by decide +kernel
theorem boot_tuple' : bootBuiltins "tuple" = some (.type "tuple") := by decide +kernel
theorem boot_str' : bootBuiltins "str" = some (.type "str") := by decide +kernel

section
variable {X : Cx} {e a b c o i elt tg : PySem.Expr} {es rest : List PySem.Expr} {pos p q p2 p3 p4 p5 : Pos} {σ : Stt} {B B1 H : Hp} {d d1 d2 f : PyData} {ds : List PyData} {v : V}
/-! isinstance -/
def tyN : PyData → String
  | .none => "NoneType" | .bool _ => "bool" | .int _ => "int" | .str _ => "str" | .list _ => "list" | .tuple _ => "tuple" | .dict _ => "dict"
theorem tyD {K : PySem.W.Frag} (h : Dp K B v d) (hd : tyN d ≠ "dict") : TyX K B v (.type (tyN d)) := by
  cases h with
  | non => exact .base .non
  | bl b => exact .base (.bl b)
  | int i => exact .base (.int i)
  | str x => exact .base (.str x)
  | lst hs ha =>
    rcases hs with (h | ⟨o, h⟩) | ⟨o, its, n, hk, hc, _⟩
    · exact .base (.lst h)
    · exact .base (.frz h)
    · exact .kList hk hc
  | tup hs ha =>
    rcases hs with (h | ⟨o, h⟩) | ⟨o, its, n, hk, hc, _⟩
    · exact .base (.tup h)
    · exact .fTuple h
    · exact .kTuple hk hc
theorem ev_isi {T : String} {x : Str} {k : Bool} [W : Wk X] (he : EV X e σ B d) (hk : PySem.W.kitOne X.K (.type (tyN d)) (.type T) = some k) (hd : tyN d ≠ "dict") (hm : X.mg x = none) (hv : bootBuiltins x = some (.type T)) (hg : Gl X x := by rfl) (hgi : Gl X "isinstance" := by rfl) (hn : x ≠ "__name__" := by decide) (hdb : (x == ("__debug__" : Str)) = false := by decide)
    (s1 : starEach [e, .Name x p2] X.env = (false, eval e X.env) :: starEach [.Name x p2] X.env := by rfl) (s2 : starEach [.Name x p2] X.env = (false, eval (.Name x p2) X.env) :: starEach [] X.env := by rfl) (hpl : (backTo pos (starEach [.Name x p2] X.env)).any (·.1) = false := by rfl) :
    EV X (.Call (.Name "isinstance" p) [e, .Name x p2] [] pos) σ B (.bool k) :=
  EV.by (pe_callB call_isi hgi (nobx X _ (by decide)) boot_isi (pa_cons pe_w (pa_cons (pe_bltn (v := .ty T) hg hm hv rfl hn hdb) pa_nil s2) s1) (he := s1) (hpl := hpl))
    fun H1 z Q q => he H1 z _ fun v B2 H2 n p => ⟨v, .ty T, _, _, k, rfl, .ty T, tyD (p.up n.i) hd, hk, q _ B2 H2 n (.bl k)⟩
theorem ev_isi2 {T U : String} {x y : Str} {k : Bool} {m : Nat} [W : Wk X] (he : EV X e σ B d) (hk : PySem.W.kitAny X.K (.type (tyN d)) [.type T, .type U] = some k) (hd : tyN d ≠ "dict") (hm : X.mg x = none) (hv : bootBuiltins x = some (.type T)) (hm2 : X.mg y = none) (hv2 : bootBuiltins y = some (.type U)) (hg : Gl X x := by rfl) (hg2 : Gl X y := by rfl) (hgi : Gl X "isinstance" := by rfl)
    (hn : x ≠ "__name__" := by decide) (hdb : (x == ("__debug__" : Str)) = false := by decide) (hn2 : y ≠ "__name__" := by decide) (hdb2 : (y == ("__debug__" : Str)) = false := by decide)
    (s1 : starEach [e, .Tuple [.Name x p2, .Name y p3] m p4] X.env = (false, eval e X.env) :: starEach [.Tuple [.Name x p2, .Name y p3] m p4] X.env := by rfl)
    (s2 : starEach [.Tuple [.Name x p2, .Name y p3] m p4] X.env = (false, eval (.Tuple [.Name x p2, .Name y p3] m p4) X.env) :: starEach [] X.env := by rfl)
    (s3 : starEach [.Name x p2, .Name y p3] X.env = (false, eval (.Name x p2) X.env) :: starEach [.Name y p3] X.env := by rfl) (s4 : starEach [.Name y p3] X.env = (false, eval (.Name y p3) X.env) :: starEach [] X.env := by rfl) (hpl : (backTo pos (starEach [.Tuple [.Name x p2, .Name y p3] m p4] X.env)).any (·.1) = false := by rfl) :
    EV X (.Call (.Name "isinstance" p) [e, .Tuple [.Name x p2, .Name y p3] m p4] [] pos) σ B (.bool k) :=
  EV.by (pe_callB call_isiT hgi (nobx X _ (by decide)) boot_isi (pa_cons pe_w (pa_cons (pe_tup (pa_cons (pe_bltn (v := .ty T) hg hm hv rfl hn hdb) (pa_cons (pe_bltn (v := .ty U) hg2 hm2 hv2 rfl hn2 hdb2) pa_nil s4) s3)) pa_nil s2) s1) (he := s1) (hpl := hpl))
    fun H1 z Q q => he H1 z _ fun v B2 H2 n p => ⟨by show 2 ≤ sizeLine; decide, fun t ht => ⟨v, t, [.ty T, .ty U], _, _, k, rfl, upd_same, .cons (.ty T) (.cons (.ty U) .nil), tyD ((p.up n.i).up (Sub.updL ht)) hd, hk, q _ _ _ (n.trans (Nxt.new n.i ht)) (.bl k)⟩⟩
/-! len, tuple, list, sorted, all, abs, int, max, min, repr -/
theorem rc_len (hi : items d = some ds) : RC X.K (fun xs H Q => ∃ x n, xs = [x] ∧ LenV X.K x H n ∧ Q (.int n) H) [d] (.int ds.length) := fun xs A H s h Q q => by
  cases h with
  | @cons v _ _ _ h1 h2 =>
    cases h2
    rcases items_cases hi with rfl | rfl
    · obtain ⟨a, ys, rfl, hs, ha⟩ := h1.lst_inv
      exact ⟨_, ds.length, rfl, .inl ⟨ys, sub_l s hs, ha.len.symm⟩, q _ A H (Nxt.refl s) (.int _)⟩
    · obtain ⟨a, ys, rfl, hs, ha⟩ := h1.tup_inv
      exact ⟨_, ds.length, rfl, .inr ⟨ys, sub_t s hs, ha.len.symm⟩, q _ A H (Nxt.refl s) (.int _)⟩
theorem ev_len [Wk X] (hi : items d = some ds) (h : EV X e σ B d) (hg : Gl X "len" := by rfl) (he : starEach [e] X.env = (false, eval e X.env) :: starEach [] X.env := by rfl) : EV X (.Call (.Name "len" p) [e] [] pos) σ B (.int ds.length) :=
  ev_cb call_len (rc_len hi) (nobx X _ (by decide)) boot_len' (av_cons h av_nil he) hg (he := he)
theorem rc_tuple (hi : items d = some ds) : RC X.K (fun xs H Q => ∃ p ys, xs = [.ref p] ∧ ((SqL X.K H p ys ∧ ∀ l, H l = none → Q (.ref l) (upd H l (.tup ys))) ∨ (SqT X.K H p ys ∧ Q (.ref p) H))) [d] (.tuple ds) := fun xs A H s h Q q => by
  cases h with
  | @cons v _ _ _ h1 h2 =>
    cases h2
    rcases items_cases hi with rfl | rfl
    · obtain ⟨a, ys, rfl, hs, ha⟩ := h1.lst_inv
      exact ⟨_, ys, rfl, .inl ⟨sub_l s hs, fun l hl => q _ _ _ (Nxt.new s hl) (dpT upd_same (ha.up (Sub.updL (s.none hl))))⟩⟩
    · obtain ⟨a, ys, rfl, hs, ha⟩ := h1.tup_inv
      exact ⟨_, ys, rfl, .inr ⟨sub_t s hs, q _ A H (Nxt.refl s) h1⟩⟩
theorem ev_tupleOf [Wk X] (hi : items d = some ds) (h : EV X e σ B d) (hg : Gl X "tuple" := by rfl) (he : starEach [e] X.env = (false, eval e X.env) :: starEach [] X.env := by rfl) : EV X (.Call (.Name "tuple" p) [e] [] pos) σ B (.tuple ds) :=
  ev_ct call_tuple_of (rc_tuple hi) (nobx X _ (by decide)) boot_tuple' (av_cons h av_nil he) hg (he := he)
theorem rc_list (hi : items d = some ds) : RC X.K (fun xs H Q => ∃ p ys, xs = [.ref p] ∧ (SqL X.K H p ys ∨ SqT X.K H p ys) ∧ ∀ l, H l = none → Q (.ref l) (upd H l (.lst ys))) [d] (.list ds) := fun xs A H s h Q q => by
  cases h with
  | @cons v _ _ _ h1 h2 =>
    cases h2
    rcases items_cases hi with rfl | rfl
    · obtain ⟨a, ys, rfl, hs, ha⟩ := h1.lst_inv
      exact ⟨_, ys, rfl, .inl (sub_l s hs), fun l hl => q _ _ _ (Nxt.new s hl) (dpL upd_same (ha.up (Sub.updL (s.none hl))))⟩
    · obtain ⟨a, ys, rfl, hs, ha⟩ := h1.tup_inv
      exact ⟨_, ys, rfl, .inr (sub_t s hs), fun l hl => q _ _ _ (Nxt.new s hl) (dpL upd_same (ha.up (Sub.updL (s.none hl))))⟩
theorem ev_listOf [Wk X] (hi : items d = some ds) (h : EV X e σ B d) (hg : Gl X "list" := by rfl) (he : starEach [e] X.env = (false, eval e X.env) :: starEach [] X.env := by rfl) : EV X (.Call (.Name "list" p) [e] [] pos) σ B (.list ds) :=
  ev_ct call_list_of (rc_list hi) (nobx X _ (by decide)) boot_list' (av_cons h av_nil he) hg (he := he)
theorem rc_sort (h1 : PySem.W.AllAlike ds) (h2 : PySem.W.Sortable ds) (h3 : ∀ d ∈ ds, d.depth ≤ 60) : RC X.K (rSortD X.K) [.list ds] (.list (ds.mergeSort (keyLe id))) := fun xs A H s h Q q => by
  cases h with
  | @cons v _ _ _ g1 g2 =>
    cases g2
    obtain ⟨a, ys, rfl, hs, ha⟩ := g1.lst_inv
    exact ⟨a, ys, ds, A, rfl, s, sub_l s hs, ha, h1, h2, h3, fun l zs hl hz => q _ _ _ (Nxt.new s hl) (dpL upd_same (hz.up (Sub.updL (s.none hl))))⟩
theorem ev_sorted [W : Wk X] (h1 : PySem.W.AllAlike ds) (h2 : PySem.W.Sortable ds) (h3 : ∀ d ∈ ds, d.depth ≤ 60) (h : EV X e σ B (.list ds)) (hg : Gl X "sorted" := by rfl) (he : starEach [e] X.env = (false, eval e X.env) :: starEach [] X.env := by rfl) :
    EV X (.Call (.Name "sorted" p) [e] [] pos) σ B (.list (ds.mergeSort (keyLe id))) := ev_cb (cr_sortD (un65 X)) (rc_sort h1 h2 h3) (nobx X _ (by decide)) boot_sorted' (av_cons h av_nil he) hg (he := he)
theorem dpBools {K : PySem.W.Frag} {A : Hp} : ∀ {xs : List V} {bs : List Bool}, DpAll K A xs (bs.map .bool) → xs = bs.map .bl
  | _, [], .nil => rfl
  | _, b :: bs, .cons h t => by rw [h.bl_inv, dpBools t]; rfl
theorem rc_all {bs : List Bool} : RC X.K (rAll X.K) [.list (bs.map .bool)] (.bool (bs.all id)) := fun xs A H s h Q q => by
  cases h with
  | @cons v _ _ _ g1 g2 =>
    cases g2
    obtain ⟨a, ys, rfl, hs, ha⟩ := g1.lst_inv
    have e := dpBools ha
    subst e
    exact ⟨a, bs, rfl, sub_l s hs, q _ A H (Nxt.refl s) (.bl _)⟩
theorem ev_all [W : Wk X] {bs : List Bool} (h : EV X e σ B (.list (bs.map .bool))) (hg : Gl X "all" := by rfl) (he : starEach [e] X.env = (false, eval e X.env) :: starEach [] X.env := by rfl) :
    EV X (.Call (.Name "all" p) [e] [] pos) σ B (.bool (bs.all id)) := ev_cb (cr_all W.calm) rc_all (nobx X _ (by decide)) boot_all' (av_cons h av_nil he) hg (he := he)
theorem rc_abs {m : Int} : RC X.K (fun xs H Q => ∃ i, xs = [V.int i] ∧ Q (.int (if i < 0 then -i else i)) H) [.int m] (.int (if m < 0 then -m else m)) := fun xs A H s h Q q => by
  cases h with
  | @cons v _ _ _ g1 g2 =>
    cases g2
    rw [g1.int_inv]
    exact ⟨m, rfl, q _ A H (Nxt.refl s) (.int _)⟩
theorem ev_abs [W : Wk X] {m : Int} (h : EV X e σ B (.int m)) (hg : Gl X "abs" := by rfl) (he : starEach [e] X.env = (false, eval e X.env) :: starEach [] X.env := by rfl) :
    EV X (.Call (.Name "abs" p) [e] [] pos) σ B (.int (if m < 0 then -m else m)) := ev_cb call_abs rc_abs (nobx X _ (by decide)) boot_abs' (av_cons h av_nil he) hg (he := he)
theorem rc_int {m : Int} : RC X.K (fun xs H Q => (∃ i, xs = [V.int i] ∧ Q (.int i) H) ∨ ∃ k, xs = [V.bl k] ∧ Q (.int (if k then 1 else 0)) H) [.int m] (.int m) := fun xs A H s h Q q => by
  cases h with
  | @cons v _ _ _ g1 g2 =>
    cases g2
    rw [g1.int_inv]
    exact .inl ⟨m, rfl, q _ A H (Nxt.refl s) (.int _)⟩
theorem ev_intI [W : Wk X] {m : Int} (h : EV X e σ B (.int m)) (hg : Gl X "int" := by rfl) (he : starEach [e] X.env = (false, eval e X.env) :: starEach [] X.env := by rfl) :
    EV X (.Call (.Name "int" p) [e] [] pos) σ B (.int m) := ev_ct call_int1 rc_int (nobx X _ (by decide)) boot_int' (av_cons h av_nil he) hg (he := he)
theorem rc_intB {m : Bool} : RC X.K (fun xs H Q => (∃ i, xs = [V.int i] ∧ Q (.int i) H) ∨ ∃ k, xs = [V.bl k] ∧ Q (.int (if k then 1 else 0)) H) [.bool m] (.int (if m then 1 else 0)) := fun xs A H s h Q q => by
  cases h with
  | @cons v _ _ _ g1 g2 =>
    cases g2
    rw [g1.bl_inv]
    exact .inr ⟨m, rfl, q _ A H (Nxt.refl s) (.int _)⟩
theorem ev_intB [W : Wk X] {m : Bool} (h : EV X e σ B (.bool m)) (hg : Gl X "int" := by rfl) (he : starEach [e] X.env = (false, eval e X.env) :: starEach [] X.env := by rfl) :
    EV X (.Call (.Name "int" p) [e] [] pos) σ B (.int (if m then 1 else 0)) := ev_ct call_int1 rc_intB (nobx X _ (by decide)) boot_int' (av_cons h av_nil he) hg (he := he)
theorem rc_max2 {m n : Int} : RC X.K (fun xs H Q => ∃ i j, xs = [V.int i, V.int j] ∧ Q (.int (if j > i then j else i)) H) [.int m, .int n] (.int (if n > m then n else m)) := fun xs A H s h Q q => by
  cases h with
  | @cons v _ _ _ g1 g2 =>
    cases g2 with
    | @cons v _ _ _ g3 g4 =>
      cases g4
      rw [g1.int_inv, g3.int_inv]
      exact ⟨m, n, rfl, q _ A H (Nxt.refl s) (.int _)⟩
theorem ev_max2 [W : Wk X] {m n : Int} (ha : AV X [a, b] σ B [.int m, .int n]) (hg : Gl X "max" := by rfl) (he : starEach [a, b] X.env = (false, eval a X.env) :: starEach [b] X.env := by rfl) (hpl : (backTo pos (starEach [b] X.env)).any (·.1) = false := by rfl) :
    EV X (.Call (.Name "max" p) [a, b] [] pos) σ B (.int (if n > m then n else m)) := ev_cb (call_max2 W.calm) rc_max2 (nobx X _ (by decide)) boot_max' ha hg (he := he) (hpl := hpl)
theorem rc_maxN {m n : Nm} : RC X.K (rMaxN X.K) [nmD m, nmD n] (nmD (if nmLt m n = true then n else m)) := fun xs A H s h Q q => by
  cases h with
  | @cons v _ _ _ g1 g2 =>
    cases g2 with
    | @cons v _ _ _ g3 g4 =>
      cases g4
      obtain ⟨a, rfl, ha⟩ := nm_inv g1
      obtain ⟨b, rfl, hb⟩ := nm_inv g3
      refine ⟨a, b, m, n, rfl, sub_t s ha, sub_t s hb, q _ A H (Nxt.refl s) ?_⟩
      by_cases z : nmLt m n = true
      · rw [if_pos z, if_pos z]; exact g3
      · rw [if_neg z, if_neg z]; exact g1
theorem ev_maxN [W : Wk X] {m n : Nm} (ha : AV X [a, b] σ B [nmD m, nmD n]) (hg : Gl X "max" := by rfl) (he : starEach [a, b] X.env = (false, eval a X.env) :: starEach [b] X.env := by rfl) (hpl : (backTo pos (starEach [b] X.env)).any (·.1) = false := by rfl) :
    EV X (.Call (.Name "max" p) [a, b] [] pos) σ B (nmD (if nmLt m n = true then n else m)) := ev_cb (cr_maxN W.calm (un10 X)) rc_maxN (nobx X _ (by decide)) boot_max' ha hg (he := he) (hpl := hpl)
theorem rc_minN {m n : Nm} : RC X.K (rMinN X.K) [nmD m, nmD n] (nmD (if nmLt n m = true then n else m)) := fun xs A H s h Q q => by
  cases h with
  | @cons v _ _ _ g1 g2 =>
    cases g2 with
    | @cons v _ _ _ g3 g4 =>
      cases g4
      obtain ⟨a, rfl, ha⟩ := nm_inv g1
      obtain ⟨b, rfl, hb⟩ := nm_inv g3
      refine ⟨a, b, m, n, rfl, sub_t s ha, sub_t s hb, q _ A H (Nxt.refl s) ?_⟩
      by_cases z : nmLt n m = true
      · rw [if_pos z, if_pos z]; exact g3
      · rw [if_neg z, if_neg z]; exact g1
theorem ev_minN [W : Wk X] {m n : Nm} (ha : AV X [a, b] σ B [nmD m, nmD n]) (hg : Gl X "min" := by rfl) (he : starEach [a, b] X.env = (false, eval a X.env) :: starEach [b] X.env := by rfl) (hpl : (backTo pos (starEach [b] X.env)).any (·.1) = false := by rfl) :
    EV X (.Call (.Name "min" p) [a, b] [] pos) σ B (nmD (if nmLt n m = true then n else m)) := ev_cb (cr_minN W.calm (un10 X)) rc_minN (nobx X _ (by decide)) boot_min' ha hg (he := he) (hpl := hpl)
/-! x[::e], e being -1 -/
theorem ed_back {te ts : TE} {K : PySem.W.Frag} (hi : items d = some ds) (ha : ED K te σ B d) (hb : ED K ts σ B (.int (-1))) : ED K (tBack K te ts) σ B (likeD d ds.reverse) := fun H1 z Q q =>
  ha H1 z _ fun x B2 H2 n px => (hb.mono n.b) H2 n.i _ fun y B3 H3 m py => by
    have px' := px.up m.b
    refine ⟨-1, py.int_inv, rfl, ?_⟩
    rcases items_cases hi with rfl | rfl
    · obtain ⟨a, xs, rfl, hs, hx⟩ := px'.lst_inv
      exact ⟨a, xs, rfl, .inl ⟨sub_l m.i hs, fun l hl => q _ _ _ ((n.trans m).trans (Nxt.new m.i hl)) (dpL upd_same (hx.rev.up (Sub.updL (m.i.none hl))))⟩⟩
    · obtain ⟨a, xs, rfl, hs, hx⟩ := px'.tup_inv
      exact ⟨a, xs, rfl, .inr ⟨sub_t m.i hs, fun l hl => q _ _ _ ((n.trans m).trans (Nxt.new m.i hl)) (dpT upd_same (hx.rev.up (Sub.updL (m.i.none hl))))⟩⟩
theorem ev_back (hi : items d = some ds) (ha : EV X e σ B d) (hb : EV X i σ B (.int (-1))) : EV X (.Subscript e (.Slice none none (some i) p) pos) σ B (likeD d ds.reverse) := EV.by (pe_back pe_w pe_w) (ed_back hi ha hb)
/-! < and <= of names -/
def rLtN (K : PySem.W.Frag) : R2 := fun x y H Q => ∃ a b p q, x = .ref a ∧ y = .ref b ∧ SqT K H a [.int p.1, .int p.2] ∧ SqT K H b [.int q.1, .int q.2] ∧ Q (.bl (nmLt p q)) H
theorem op_ltN (hu : X.A.units + 10 < cLine) : OpR X (compareOp .Lt) (rLtN X.K) := by
  intro pins s σ H x y v u Q I rx ry h
  obtain ⟨a, b, p, q, rfl, rfl, ha, hb, k⟩ := h
  cases rx; cases ry
  obtain ⟨t1, t2, o1⟩ := nm_obj I ha
  obtain ⟨t3, t4, o2⟩ := nm_obj I hb
  have z := two_lt o1 o2 (A := X.A) (by omega) X.prog X.w X.xe (EP X pins σ Q) ⟨.bl (nmLt p q), H, I, rfl, k⟩
  exact z
theorem ev_ltN [W : Wk X] {m n : Nm} (ha : EV X a σ B (nmD m)) (hb : EV X b σ B (nmD n)) : EV X (.Compare a [.Lt] [b] pos) σ B (.bool (nmLt m n)) := ev_cmpR (op_ltN (un10 X)) (fun x y A H s hx hy Q q => by
  obtain ⟨a, rfl, ha⟩ := nm_inv hx
  obtain ⟨b, rfl, hb⟩ := nm_inv hy
  exact ⟨a, b, m, n, rfl, rfl, sub_t s ha, sub_t s hb, q _ A H (Nxt.refl s) (.bl _)⟩) (nomark _) ha hb
theorem leNot (a b : Int) : decide (a ≤ b) = !decide (b < a) := by
  by_cases q : b < a
  · simp [q]
  · simp [q]; omega
theorem tv_leN [W : Wk X] {m n : Nm} (ha : EV X a σ B (nmD m)) (hb : EV X b σ B (nmD n)) : TV X (.Compare a [.LtE] [b] pos) σ B (!nmLt n m) := tv_cmpR (op_leT (un0 X)) (fun x y A H s hx hy Q q => by
  obtain ⟨a, rfl, ha⟩ := nm_inv hx
  obtain ⟨b, rfl, hb⟩ := nm_inv hy
  refine ⟨a, b, [m.1, m.2], [n.1, n.2], rfl, rfl, sub_t s ha, sub_t s hb, q _ A H (Nxt.refl s) ?_⟩
  have e : Ob.lexAt (fun j => decide (([m.1, m.2] : List Int).getD j 0 = [n.1, n.2].getD j 0)) (fun j => decide (([m.1, m.2] : List Int).getD j 0 ≤ [n.1, n.2].getD j 0)) (decide (([m.1, m.2] : List Int).length ≤ [n.1, n.2].length)) 0 (min ([m.1, m.2] : List Int).length [n.1, n.2].length) = !nmLt n m := by
    show Ob.lexAt _ _ _ 0 (min 2 2) = _
    rw [show min 2 2 = 1 + 1 from rfl, Ob.lexAt_succ, Ob.lexAt_succ, Ob.lexAt_zero]
    unfold nmLt
    obtain ⟨m1, m2⟩ := m
    obtain ⟨n1, n2⟩ := n
    by_cases h1 : m1 = n1
    · subst h1
      by_cases h2 : m2 = n2
      · subst h2; simp
      · simp [h2, leNot]
    · simp [h1, Ne.symm h1, leNot]
  rw [e]
  exact .bl _) (nomark _) ha hb
end
end Who

/-! Who: comprehensions, calls of defs, statements. -/
namespace Who
open PySem L2 PySem.Spec PyProof.Rows
section
variable {X : Cx} {e a b c o i elt tg iter : PySem.Expr} {es rest : List PySem.Expr} {pos p q p2 p3 p4 p5 : Pos} {σ : Stt} {B B1 H : Hp} {d d1 d2 f : PyData} {ds : List PyData} {v : V} {scope : Scope} {own : List (Str × Nat)} {g : TG}
/-- within a block of X -/
abbrev blkX (X : Cx) (scope : Scope) (s : Shared) (H : Hp) (C : Addr) (cl : List (Str × Addr)) (fp : List Addr) : Cx := X.blk s H scope (compEnvC scope cl C X.env) fp
def mE (X : Cx) (scope : Scope) (e : PySem.Expr) : TE := fun σ H Q => ∀ s H0 C cl fp, wE (blkX X scope s H0 C cl fp) e σ H Q
def mT (X : Cx) (scope : Scope) (e : PySem.Expr) : TT := fun σ H Q => ∀ s H0 C cl fp, wT (blkX X scope s H0 C cl fp) e σ H Q
theorem pe_m (s : Shared) (H0 : Hp) (C : Addr) (cl : List (Str × Addr)) (fp : List Addr) : PE (blkX X scope s H0 C cl fp) e (mE X scope e) := ⟨fun pins s1 σ H Q I h => h s H0 C cl fp pins s1 I⟩
theorem pt_m (s : Shared) (H0 : Hp) (C : Addr) (cl : List (Str × Addr)) (fp : List Addr) : PT (blkX X scope s H0 C cl fp) e (mT X scope e) := ⟨fun pins s1 σ H Q I h => h s H0 C cl fp pins s1 I⟩
/-- an item of a comprehension's block -/
def EVb (X : Cx) (scope : Scope) (e : PySem.Expr) (σ : Stt) (B : Hp) (d : PyData) : Prop := ∀ s H0 C cl fp, EV (blkX X scope s H0 C cl fp) e σ B d
def TVb (X : Cx) (scope : Scope) (e : PySem.Expr) (σ : Stt) (B : Hp) (k : Bool) : Prop := ∀ s H0 C cl fp, TV (blkX X scope s H0 C cl fp) e σ B k
def PGb (X : Cx) (scope : Scope) (tg : PySem.Expr) (g : TG) : Prop := ∀ s H0 C cl fp, PG (blkX X scope s H0 C cl fp) tg g
theorem EVb.ed (h : EVb X scope e σ B d) : ED X.K (mE X scope e) σ B d := fun H1 z Q q s H0 C cl fp => h s H0 C cl fp H1 z Q q
theorem TVb.et {k : Bool} (h : TVb X scope e σ B k) : ET (mT X scope e) σ B k := fun H1 z Q q s H0 C cl fp => h s H0 C cl fp H1 z Q q
theorem et_yes : ET tYes σ B true := fun H1 z Q q => q B H1 (Nxt.refl z)
theorem kept_all (val : PyData → PyData) (ds : List PyData) : kept (fun _ => true) val ds = ds.map val := by
  unfold kept
  rw [List.filter_eq_self.mpr (fun _ _ => rfl)]
/-- [elt for tg in a list] -/
theorem ev_lcL [W : Wk X] (val : PyData → PyData) (ok : BlkOk X.N X.env.scope scope own) (hg : PGb X scope tg g) (hs : EV X iter σ B (.list ds)) (hz : ds.length ≤ 100000)
    (ht : ∀ x d B2, d ∈ ds → Sub B B2 → Dp X.K B2 x d → ∃ P : Stt → Prop, GD g (wipe σ (own.map (·.2))) B2 x P ∧ ∀ σ2, P σ2 → wipe σ2 (own.map (·.2)) = wipe σ (own.map (·.2)) ∧ EVb X scope elt σ2 B2 (val d)) (hf : ∀ x, foldedSetIterable iter X.env x = pure x := by intro _; rfl) :
    EV X (.ListComp elt [⟨tg, iter, [], 0⟩] scope pos) σ B (.list (ds.map val)) := (EV.by (pe_lc W.calm W.nd (pi_list pe_w) ok hg (fun _ _ _ _ _ => pts_nil) pe_m hf) (ed_lc (fun _ => true) val hs hz fun x d B2 h1 h2 h3 => by
  obtain ⟨P, hP, hw⟩ := ht x d B2 h1 h2 h3
  exact ⟨P, hP, fun σ2 p => ⟨(hw σ2 p).1, et_yes, fun _ => (hw σ2 p).2.ed⟩⟩)).is (by rw [kept_all])
/-- over a tuple -/
theorem ev_lcT [W : Wk X] (val : PyData → PyData) (ok : BlkOk X.N X.env.scope scope own) (hg : PGb X scope tg g) (hs : EV X iter σ B (.tuple ds)) (hz : ds.length ≤ 100000)
    (ht : ∀ x d B2, d ∈ ds → Sub B B2 → Dp X.K B2 x d → ∃ P : Stt → Prop, GD g (wipe σ (own.map (·.2))) B2 x P ∧ ∀ σ2, P σ2 → wipe σ2 (own.map (·.2)) = wipe σ (own.map (·.2)) ∧ EVb X scope elt σ2 B2 (val d)) (hf : ∀ x, foldedSetIterable iter X.env x = pure x := by intro _; rfl) :
    EV X (.ListComp elt [⟨tg, iter, [], 0⟩] scope pos) σ B (.list (ds.map val)) := (EV.by (pe_lc W.calm W.nd (pi_tup pe_w) ok hg (fun _ _ _ _ _ => pts_nil) pe_m hf) (ed_lcT (fun _ => true) val hs hz fun x d B2 h1 h2 h3 => by
  obtain ⟨P, hP, hw⟩ := ht x d B2 h1 h2 h3
  exact ⟨P, hP, fun σ2 p => ⟨(hw σ2 p).1, et_yes, fun _ => (hw σ2 p).2.ed⟩⟩)).is (by rw [kept_all])
/-- with an if -/
theorem ev_lcLif [W : Wk X] (keep : PyData → Bool) (val : PyData → PyData) (ok : BlkOk X.N X.env.scope scope own) (hg : PGb X scope tg g) (hs : EV X iter σ B (.list ds)) (hz : ds.length ≤ 100000)
    (ht : ∀ x d B2, d ∈ ds → Sub B B2 → Dp X.K B2 x d → ∃ P : Stt → Prop, GD g (wipe σ (own.map (·.2))) B2 x P ∧ ∀ σ2, P σ2 → wipe σ2 (own.map (·.2)) = wipe σ (own.map (·.2)) ∧ TVb X scope c σ2 B2 (keep d) ∧ (keep d = true → EVb X scope elt σ2 B2 (val d))) (hf : ∀ x, foldedSetIterable iter X.env x = pure x := by intro _; rfl) :
    EV X (.ListComp elt [⟨tg, iter, [c], 0⟩] scope pos) σ B (.list ((ds.filter keep).map val)) := EV.by (pe_lc W.calm W.nd (pi_list pe_w) ok hg (fun _ _ _ _ _ => pts_one (pt_m _ _ _ _ _)) pe_m hf) (ed_lc keep val hs hz fun x d B2 h1 h2 h3 => by
  obtain ⟨P, hP, hw⟩ := ht x d B2 h1 h2 h3
  exact ⟨P, hP, fun σ2 p => ⟨(hw σ2 p).1, (hw σ2 p).2.1.et, fun k => ((hw σ2 p).2.2 k).ed⟩⟩)
theorem ev_lcTif [W : Wk X] (keep : PyData → Bool) (val : PyData → PyData) (ok : BlkOk X.N X.env.scope scope own) (hg : PGb X scope tg g) (hs : EV X iter σ B (.tuple ds)) (hz : ds.length ≤ 100000)
    (ht : ∀ x d B2, d ∈ ds → Sub B B2 → Dp X.K B2 x d → ∃ P : Stt → Prop, GD g (wipe σ (own.map (·.2))) B2 x P ∧ ∀ σ2, P σ2 → wipe σ2 (own.map (·.2)) = wipe σ (own.map (·.2)) ∧ TVb X scope c σ2 B2 (keep d) ∧ (keep d = true → EVb X scope elt σ2 B2 (val d))) (hf : ∀ x, foldedSetIterable iter X.env x = pure x := by intro _; rfl) :
    EV X (.ListComp elt [⟨tg, iter, [c], 0⟩] scope pos) σ B (.list ((ds.filter keep).map val)) := EV.by (pe_lc W.calm W.nd (pi_tup pe_w) ok hg (fun _ _ _ _ _ => pts_one (pt_m _ _ _ _ _)) pe_m hf) (ed_lcT keep val hs hz fun x d B2 h1 h2 h3 => by
  obtain ⟨P, hP, hw⟩ := ht x d B2 h1 h2 h3
  exact ⟨P, hP, fun σ2 p => ⟨(hw σ2 p).1, (hw σ2 p).2.1.et, fun k => ((hw σ2 p).2.2 k).ed⟩⟩)
theorem ev_lcA [W : Wk X] (val : PyData → PyData) (ok : BlkOk X.N X.env.scope scope own) (hg : PGb X scope tg g) (hi : items d = some ds) (hs : EV X iter σ B d) (hz : ds.length ≤ 100000)
    (ht : ∀ x d B2, d ∈ ds → Sub B B2 → Dp X.K B2 x d → ∃ P : Stt → Prop, GD g (wipe σ (own.map (·.2))) B2 x P ∧ ∀ σ2, P σ2 → wipe σ2 (own.map (·.2)) = wipe σ (own.map (·.2)) ∧ EVb X scope elt σ2 B2 (val d)) (hf : ∀ x, foldedSetIterable iter X.env x = pure x := by intro _; rfl) :
    EV X (.ListComp elt [⟨tg, iter, [], 0⟩] scope pos) σ B (.list (ds.map val)) := by
  rcases items_cases hi with rfl | rfl
  · exact ev_lcL val ok hg hs hz ht hf
  · exact ev_lcT val ok hg hs hz ht hf
theorem ev_lcAif [W : Wk X] (keep : PyData → Bool) (val : PyData → PyData) (ok : BlkOk X.N X.env.scope scope own) (hg : PGb X scope tg g) (hi : items d = some ds) (hs : EV X iter σ B d) (hz : ds.length ≤ 100000)
    (ht : ∀ x d B2, d ∈ ds → Sub B B2 → Dp X.K B2 x d → ∃ P : Stt → Prop, GD g (wipe σ (own.map (·.2))) B2 x P ∧ ∀ σ2, P σ2 → wipe σ2 (own.map (·.2)) = wipe σ (own.map (·.2)) ∧ TVb X scope c σ2 B2 (keep d) ∧ (keep d = true → EVb X scope elt σ2 B2 (val d))) (hf : ∀ x, foldedSetIterable iter X.env x = pure x := by intro _; rfl) :
    EV X (.ListComp elt [⟨tg, iter, [c], 0⟩] scope pos) σ B (.list ((ds.filter keep).map val)) := by
  rcases items_cases hi with rfl | rfl
  · exact ev_lcLif keep val ok hg hs hz ht hf
  · exact ev_lcTif keep val ok hg hs hz ht hf
/-- over range(n) -/
theorem ev_lcR [W : Wk X] {n : Nat} (val : Nat → PyData) (ok : BlkOk X.N X.env.scope scope own) (hg : PGb X scope tg g) (hs : EV X a σ B (.int n)) (hz : n ≤ 100000)
    (ht : ∀ (m : Nat) B2, m < n → Sub B B2 → ∃ P : Stt → Prop, GD g (wipe σ (own.map (·.2))) B2 (.int m) P ∧ ∀ σ2, P σ2 → wipe σ2 (own.map (·.2)) = wipe σ (own.map (·.2)) ∧ EVb X scope elt σ2 B2 (val m)) (hgl : Gl X "range" := by rfl)
    (h1 : starEach [a] X.env = [(false, eval a X.env)] := by rfl) (hf : ∀ x, foldedSetIterable (.Call (.Name "range" p) [a] [] p2) X.env x = pure x := by intro _; rfl) :
    EV X (.ListComp elt [⟨tg, .Call (.Name "range" p) [a] [] p2, [], 0⟩] scope pos) σ B (.list ((List.range n).map val)) := EV.by (pe_lc W.calm W.nd (pi_range1 hgl (nobx X _ (by decide)) (pa_cons pe_w pa_nil h1) h1) ok hg (fun _ _ _ _ _ => pts_nil) pe_m hf) (ed_lcR val hs hz fun m B2 h1 h2 => by
  obtain ⟨P, hP, hw⟩ := ht m B2 h1 h2
  exact ⟨P, hP, fun σ2 p => ⟨(hw σ2 p).1, et_yes, fun _ => (hw σ2 p).2.ed⟩⟩)
theorem gd_n {n : Nat} {σ' : Stt} (e : (σ.set n none).set n (some v) = σ') : ∃ P : Stt → Prop, GD (gName n) (σ.set n none) B v P ∧ ∀ σ2, P σ2 → σ2 = σ' := ⟨_, gd_name, fun σ2 h => h.trans e⟩

/-! ### defs -/
structure Dfn (P : Program) (w : World) (K : PySem.W.Frag) (mg : Str → Option Value) (base : Heap) (k : Nat) (x : Str) (ps : List Str) (sp : Sp) : Prop where
  ex : ∃ f fd, FnOk P w K mg base CX0 k f fd ps sp ∧ mg x = some (.ref f) ∧ PySem.W.keepIn K (.ref f) = true ∧ Binds K fd ps []
theorem ev_call {k j : Nat} {x : Str} {ps : List Str} {R : List PyData → PyData → Prop} (F : Dfn X.prog X.w X.K X.mg X.base j x ps (spR X.K R)) (hr : Room k X.A) (hR : R ds f) (ha : AV X (e :: es) σ B ds) (hj : j ≤ k := by decide) (hg : Gl X x := by rfl) (hdb : (x == ("__debug__" : Str)) = false := by decide)
    (he : starEach (e :: es) X.env = (false, eval e X.env) :: starEach es X.env := by rfl) (hpl : (backTo pos (starEach es X.env)).any (·.1) = false := by rfl) : EV X (.Call (.Name x p) (e :: es) [] pos) σ B f := by
  obtain ⟨fa, fd, G, hm, hk, hb⟩ := F.ex
  exact EV.by (pe_call G (hr.mono hj) hg hm hk hb .nil pass0 pa_w hdb he hpl) (ed_call ha hR)
/-- a body that gives data r -/
def Ret (X : Cx) (sts : List Stmt) (σ : Stt) (B : Hp) (r : PyData) : Prop := ∀ H, Sub B H → ∀ D : Ends, (∀ v B2 H2, Nxt B H B2 H2 → Dp X.K B2 v r → D.rt v H2) → wSs X sts D σ H
theorem ret_one {r : PyData} (h : EV X e σ B r) : Ret X [.Return (some e) pos] σ B r := fun H s D q => le_Ss (pss_one (ps_ret pe_w)) (h H s _ q)
theorem s_ret {r : PyData} {D : Ends} (s : Sub B H) (h : EV X e σ B r) (q : ∀ v B2 H2, Nxt B H B2 H2 → Dp X.K B2 v r → D.rt v H2) : wS X (.Return (some e) pos) D σ H := le_S (ps_ret pe_w) (h H s _ q)
theorem ss_nil {D : Ends} (h : D.nx σ H) : wSs X [] D σ H := le_Ss pss_nil h
theorem ss_cons {D : Ends} {st : Stmt} {sts : List Stmt} (h : wS X st { D with nx := fun σ' H' => wSs X sts D σ' H' } σ H) : wSs X (st :: sts) D σ H := le_Ss (pss_cons ps_w pss_w) h
theorem ss_one {D : Ends} {st : Stmt} (h : wS X st D σ H) : wSs X [st] D σ H := le_Ss (pss_one ps_w) h
theorem s_set [W : Wk X] (n : Nat) {x : Str} {D : Ends} (s : Sub B H) (h : EV X e σ B d) (q : ∀ v B2 H2, Nxt B H B2 H2 → Dp X.K B2 v d → D.nx (σ.set n (some v)) H2) (hi : X.N[n]? = some x := by rfl) (hx : Loc X.env.scope x := by first | exact Or.inl rfl | exact Or.inr rfl)
    (hs : swapsWith e (some (.Name x p)) pos.line X.env = pure false := by rfl) (hf : X.fn x = true ∨ X.env.scope.names.lookup x = some .local := by first | exact .inl rfl | exact .inr rfl) : wS X (.Assign [.Name x p] e pos) D σ H := le_S (ps_set W.nd hi hx pe_w hs hf) (h H s _ q)
theorem s_if {k : Bool} {D : Ends} {sa sb : List Stmt} (s : Sub B H) (h : TV X c σ B k) (h1 : ∀ B2 H2, Nxt B H B2 H2 → k = true → wSs X sa D σ H2) (h2 : ∀ B2 H2, Nxt B H B2 H2 → k = false → wSs X sb D σ H2) : wS X (.If c sa sb pos) D σ H :=
  le_S (ps_if pt_w pss_w pss_w) (h H s _ fun B2 H2 n => by
    cases k with
    | true => exact h1 B2 H2 n rfl
    | false => exact h2 B2 H2 n rfl)
theorem s_drop {D : Ends} (h : wE X e σ H fun _ H1 => D.nx σ H1) (hs : swapsWith e none pos.line X.env = pure false := by rfl) : wS X (.Expr e pos) D σ H := le_S (ps_expr pe_w hs) h
theorem s_asg {D : Ends} {G : TG} (hg : PG X tg G) (h : wE X e σ H fun x H1 => G x σ H1 D.nx) (hs : swapsWithSole [tg] e pos.line X.env = pure false := by rfl) (hw : swappedStores [tg] e X.env = pure none := by rfl)
    (h1 : (assignEach [tg] X.env).map (·.2) = [assign tg X.env] := by rfl) : wS X (.Assign [tg] e pos) D σ H := le_S (ps_asg pe_w hg hs hw h1) h
theorem pgn [W : Wk X] (n : Nat) {x : Str} (hi : X.N[n]? = some x := by rfl) (hx : Loc X.env.scope x := by first | exact Or.inl rfl | exact Or.inr rfl) (hf : X.fn x = true ∨ X.env.scope.names.lookup x = some .local := by first | exact .inl rfl | exact .inr rfl) : PG X (.Name x pos) (gName n) := pg_name W.nd hi hx hf
theorem pg2 [W : Wk X] {m : Nat} {G1 G2 : TG} (h1 : PG X a G1) (h2 : PG X b G2) (hn : (assignEach [a, b] X.env).length = 2 := by rfl) (hst : (assignEach [a, b] X.env).findIdx? (·.1) = none := by rfl) (s1 : (assignEach [a, b] X.env).map (·.2) = assign a X.env :: (assignEach [b] X.env).map (·.2) := by rfl)
    (s2 : (assignEach [b] X.env).map (·.2) = assign b X.env :: (assignEach [] X.env).map (·.2) := by rfl) : PG X (.Tuple [a, b] m pos) (gTup X.K 2 (gCons G1 (gCons G2 gNil))) := pg_tup W.calm (pgs_cons h1 (pgs_cons h2 pgs_nil s2) s1) hn hst
theorem pg3 [W : Wk X] {m : Nat} {G1 G2 G3 : TG} (h1 : PG X a G1) (h2 : PG X b G2) (h3 : PG X c G3) (hn : (assignEach [a, b, c] X.env).length = 3 := by rfl) (hst : (assignEach [a, b, c] X.env).findIdx? (·.1) = none := by rfl) (s1 : (assignEach [a, b, c] X.env).map (·.2) = assign a X.env :: (assignEach [b, c] X.env).map (·.2) := by rfl)
    (s2 : (assignEach [b, c] X.env).map (·.2) = assign b X.env :: (assignEach [c] X.env).map (·.2) := by rfl) (s3 : (assignEach [c] X.env).map (·.2) = assign c X.env :: (assignEach [] X.env).map (·.2) := by rfl) : PG X (.Tuple [a, b, c] m pos) (gTup X.K 3 (gCons G1 (gCons G2 (gCons G3 gNil)))) := pg_tup W.calm (pgs_cons h1 (pgs_cons h2 (pgs_cons h3 pgs_nil s3) s2) s1) hn hst
end

section
variable {P : Program} {w : World} {K : PySem.W.Frag} {mg : Str → Option Value} {base : Heap}
/-- a def that changes nothing -/
theorem pure_fn {x qual : Str} {st : Stmt} {f : Addr} {fd : FuncData} {N ps : List Str} {k : Nat} {R : List PyData → PyData → Prop} (F : Fun K x qual st f fd) (S : FnScope N ps (defScope st)) (nb : NoGl mg) (hl : ∀ ds r, R ds r → ds.length = ps.length)
    (body : ∀ (cdv : Value) (A : Around) (outer : List Env) (s : Shared) (H0 : Hp) (E : XK) (B : Hp) (vs : List V) (ds : List PyData) (r : PyData), Room k (A.deeper (envOfC qual (defScope st) s.heap.objs.size f cdv)) → Wk (cxOf CX0 P w K mg base N qual (defScope st) f cdv A outer s H0 E).nox → DpAll K B vs ds → R ds r →
      Ret (cxOf CX0 P w K mg base N qual (defScope st) f cdv A outer s H0 E).nox (defBody st) (start N vs) B r) : FnOk P w K mg base CX0 (k + 1) f fd ps (spR K R) := by
  refine F.ok S (fun vs H Q E h => ?_) (fun cdv A outer s H vs Q E hr h => ?_)
  · obtain ⟨B, ds, r, _, hd, hR, _⟩ := h
    rw [hd.len]
    exact hl ds r hR
  · obtain ⟨B, ds, r, sb, hd, hR, q⟩ := h
    have W : Wk (cxOf CX0 P w K mg base N qual (defScope st) f cdv A outer s H E).nox := ⟨rfl, by have := hr.un; show (A.deeper _).units + 100 < _; omega, nb, S.nd⟩
    exact ⟨_, pss_w, body cdv A outer s H E B vs ds r hr W hd hR H sb _ q⟩
end
end Who

namespace Who
open PySem L2 PySem.Spec PyProof.Rows
def top (i : Nat) : Stmt := PySem.Challenge.pw_whoiswho_k91_whole_plain_rule_over_many.main.body.getD i (.Pass ⟨0, 0, 0, 0⟩)
section
variable {P : Program} {w : World} {K : PySem.W.Frag} {mg : Str → Option Value} {base : Heap} {f : Addr} {fd : FuncData}

theorem sc8 : FnScope ["value"] ["value"] (defScope (top 8)) := ⟨rfl, rfl, rfl, by decide +kernel, rfl, by decide +kernel, by decide +kernel⟩
def isI : PyData → Bool
  | .int _ => true
  | _ => false
def isB : PyData → Bool
  | .bool _ => true
  | _ => false
theorem kit_int (d : PyData) (h : tyN d ≠ "dict") : PySem.W.kitOne K (.type (tyN d)) (.type "int") = some (isI d || isB d) := by
  cases d <;> first | rfl | exact absurd rfl h
theorem kit_bool (d : PyData) (h : tyN d ≠ "dict") : PySem.W.kitOne K (.type (tyN d)) (.type "bool") = some (isB d) := by
  cases d <;> first | rfl | exact absurd rfl h
theorem dp_nd {B : Hp} {v : V} {d : PyData} (h : Dp K B v d) : tyN d ≠ "dict" := by
  cases h <;> (simp only [tyN]; decide)
def R8 (ds : List PyData) (r : PyData) : Prop := ∃ d, ds = [d] ∧ r = .bool (isI d)
theorem ok8 (F : Fun K "is_integer" "is_integer" (top 8) f fd) (nb : NoGl mg) : FnOk P w K mg base CX0 1 f fd ["value"] (spR K R8) := by
  refine pure_fn F sc8 nb (fun ds r ⟨d, e, _⟩ => by rw [e]; rfl) fun cdv A outer s H0 E B vs ds r hr W hd hR => ?_
  obtain ⟨d, rfl, rfl⟩ := hR
  cases hd with
  | @cons v _ _ _ h1 h2 =>
    cases h2
    have nd := dp_nd h1
    refine ret_one (EV.is (ev_and (ev_isi (T := "int") (ev_var 0 h1) (kit_int d nd) nd (nb _ (by decide)) boot_int') fun _ => ev_one (ev_not (ev_isi (T := "bool") (ev_var 0 h1) (kit_bool d nd) nd (nb _ (by decide)) boot_bool'))) ?_)
    cases d <;> rfl
end
end Who

namespace Who
open PySem L2 PySem.Spec PyProof.Rows
/-! names as data -/
theorem eqv_nm (a b : Nm) : PyData.eqv (nmD a) (nmD b) = decide (a = b) := by
  obtain ⟨a1, a2⟩ := a
  obtain ⟨b1, b2⟩ := b
  rw [Bool.eq_iff_iff]
  simp [nmD, PyData.eqv, PyData.eqvAll]
theorem shaped_nm (a : Nm) : SeqAt.shaped (nmD a) = true := rfl
theorem canLay_nms : ∀ ns : List Nm, PyData.canLayAll0 (ns.map nmD) = true
  | [] => rfl
  | a :: ns => by
    simp [PyData.canLayAll0, nmD, PyData.canLay0, canLay_nms ns]
theorem depth_nms : ∀ ns : List Nm, PyData.depthAll (ns.map nmD) ≤ 2
  | [] => by simp [PyData.depthAll]
  | a :: ns => by
    have := depth_nms ns
    have h0 : (nmD a).depth ≤ 2 := by simp [nmD, PyData.depth, PyData.depthAll]
    rw [List.map_cons, PyData.depthAll]
    exact Nat.max_le.mpr ⟨h0, this⟩
theorem shaped_of {d : PyData} (h1 : d.canLay0 = true) (h2 : d.depth ≤ 64) : SeqAt.shaped d = true := by
  unfold SeqAt.shaped
  rw [h1, decide_eq_true h2]
  rfl
theorem shaped_nms (ns : List Nm) : SeqAt.shaped (.tuple (ns.map nmD)) = true := by
  have h := depth_nms ns
  refine shaped_of (by rw [PyData.canLay0]; exact canLay_nms ns) ?_
  rw [PyData.depth]
  exact Nat.le_trans (Nat.succ_le_succ h) (by decide)
theorem any_nms (ns : List Nm) (p : Nm) : (ns.map nmD).any (fun z => PyData.eqv z (nmD p)) = decide (p ∈ ns) := by
  rw [Bool.eq_iff_iff]
  simp only [List.any_map, List.any_eq_true, Function.comp, eqv_nm, decide_eq_true_eq]
  constructor
  · rintro ⟨x, hx, e⟩; exact e ▸ hx
  · intro h; exact ⟨p, h, rfl⟩
end Who

namespace Who
open PySem L2 PySem.Spec PyProof.Rows
section
variable {X : Cx} {a b : PySem.Expr} {pos px py pt p2 : Pos} {σ : Stt} {B H : Hp} {d1 d2 : PyData}
theorem s_par [W : Wk X] (i j : Nat) {x y : Str} {kt k2 : Nat} {D : Ends} (s : Sub B H) (h : AV X [a, b] σ B [d1, d2]) (q : ∀ v w B2 H2, Nxt B H B2 H2 → Dp X.K B2 v d1 → Dp X.K B2 w d2 → D.nx ((σ.set i (some v)).set j (some w)) H2)
    (hi : X.N[i]? = some x := by rfl) (hj : X.N[j]? = some y := by rfl) (hij : i ≠ j := by decide) (hx : X.env.scope.names.lookup x = some .local := by rfl) (hy : X.env.scope.names.lookup y = some .local := by rfl)
    (hw : swappedStores [.Tuple [.Name x px, .Name y py] kt pt] (.Tuple [a, b] k2 p2) X.env = pure (some [x, y]) := by rfl) (hs : swapsWithSole [.Tuple [.Name x px, .Name y py] kt pt] (.Tuple [a, b] k2 p2) pos.line X.env = pure false := by rfl) :
    wS X (.Assign [.Tuple [.Name x px, .Name y py] kt pt] (.Tuple [a, b] k2 p2) pos) D σ H := le_S (ps_par W.calm W.nd hi hj hij hx hy pa_w hw hs) (h H s _ fun vs B2 H2 n dd => by
  cases dd with
  | cons h1 h2 =>
    cases h2 with
    | cons h3 h4 =>
      cases h4
      exact ⟨_, _, rfl, q _ _ B2 H2 n h1 h3⟩)
theorem dp1 {K : PySem.W.Frag} {B : Hp} {vs : List V} {d : PyData} (h : DpAll K B vs [d]) : ∃ v, vs = [v] ∧ Dp K B v d := by
  cases h with
  | cons h1 h2 => cases h2; exact ⟨_, rfl, h1⟩
theorem dp2 {K : PySem.W.Frag} {B : Hp} {vs : List V} {d e : PyData} (h : DpAll K B vs [d, e]) : ∃ v w, vs = [v, w] ∧ Dp K B v d ∧ Dp K B w e := by
  cases h with
  | cons h1 h2 => obtain ⟨w, rfl, h3⟩ := dp1 h2; exact ⟨_, w, rfl, h1, h3⟩
theorem dp3 {K : PySem.W.Frag} {B : Hp} {vs : List V} {d e f : PyData} (h : DpAll K B vs [d, e, f]) : ∃ v w x, vs = [v, w, x] ∧ Dp K B v d ∧ Dp K B w e ∧ Dp K B x f := by
  cases h with
  | cons h1 h2 => obtain ⟨w, x, rfl, h3, h4⟩ := dp2 h2; exact ⟨_, w, x, rfl, h1, h3, h4⟩
theorem dp4 {K : PySem.W.Frag} {B : Hp} {vs : List V} {d e f g : PyData} (h : DpAll K B vs [d, e, f, g]) : ∃ v w x y, vs = [v, w, x, y] ∧ Dp K B v d ∧ Dp K B w e ∧ Dp K B x f ∧ Dp K B y g := by
  cases h with
  | cons h1 h2 => obtain ⟨w, x, y, rfl, h3, h4, h5⟩ := dp3 h2; exact ⟨_, w, x, y, rfl, h1, h3, h4, h5⟩
theorem dp5 {K : PySem.W.Frag} {B : Hp} {vs : List V} {d e f g i : PyData} (h : DpAll K B vs [d, e, f, g, i]) : ∃ v w x y z, vs = [v, w, x, y, z] ∧ Dp K B v d ∧ Dp K B w e ∧ Dp K B x f ∧ Dp K B y g ∧ Dp K B z i := by
  cases h with
  | cons h1 h2 => obtain ⟨w, x, y, z, rfl, h3, h4, h5, h6⟩ := dp4 h2; exact ⟨_, w, x, y, z, rfl, h1, h3, h4, h5, h6⟩
end
section
variable {P : Program} {w : World} {K : PySem.W.Frag} {mg : Str → Option Value} {base : Heap} {f : Addr} {fd : FuncData}
theorem kit_seq (d : PyData) (h : tyN d ≠ "dict") : PySem.W.kitAny K (.type (tyN d)) [.type "list", .type "tuple"] = some (items d).isSome := by
  cases d <;> first | rfl | exact absurd rfl h
theorem sc9 : FnScope ["value"] ["value"] (defScope (top 9)) := ⟨rfl, rfl, rfl, by decide +kernel, rfl, by decide +kernel, by decide +kernel⟩
def numD : PyData → Bool
  | .int i => decide (0 ≤ i)
  | _ => false
def R9 (ds : List PyData) (r : PyData) : Prop := ∃ d, ds = [d] ∧ r = .bool (numD d)
theorem ok9 (F : Fun K "is_number" "is_number" (top 9) f fd) (nb : NoGl mg) (F8 : Dfn P w K mg base 1 "is_integer" ["value"] (spR K R8)) : FnOk P w K mg base CX0 2 f fd ["value"] (spR K R9) := by
  refine pure_fn F sc9 nb (fun ds r ⟨d, e, _⟩ => by rw [e]; rfl) fun cdv A outer s H0 E B vs ds r hr W hd hR => ?_
  obtain ⟨d, rfl, rfl⟩ := hR
  obtain ⟨v, rfl, h1⟩ := dp1 hd
  refine ret_one (EV.is (ev_and (l := numD d) (ev_call F8 hr ⟨d, rfl, rfl⟩ (av_cons (ev_var 0 h1) av_nil)) fun k => ?_) (by cases d <;> rfl))
  cases d with
  | int i => exact ev_one (ev_ge (ev_var 0 h1) ev_int)
  | _ => exact absurd k Bool.false_ne_true
theorem sc10 : FnScope ["value"] ["value"] (defScope (top 10)) := ⟨rfl, rfl, rfl, by decide +kernel, rfl, by decide +kernel, by decide +kernel⟩
def R10 (ds : List PyData) (r : PyData) : Prop := ∃ d, ds = [d] ∧ r = .bool (items d).isSome
theorem ok10 (F : Fun K "is_sequence" "is_sequence" (top 10) f fd) (nb : NoGl mg) : FnOk P w K mg base CX0 1 f fd ["value"] (spR K R10) := by
  refine pure_fn F sc10 nb (fun ds r ⟨d, e, _⟩ => by rw [e]; rfl) fun cdv A outer s H0 E B vs ds r hr W hd hR => ?_
  obtain ⟨d, rfl, rfl⟩ := hR
  obtain ⟨v, rfl, h1⟩ := dp1 hd
  exact ret_one (ev_isi2 (T := "list") (U := "tuple") (ev_var 0 h1) (kit_seq d (dp_nd h1)) (dp_nd h1) (nb _ (by decide)) boot_list' (nb _ (by decide)) boot_tuple')
theorem sc12 : FnScope ["value"] ["value"] (defScope (top 12)) := ⟨rfl, rfl, rfl, by decide +kernel, rfl, by decide +kernel, by decide +kernel⟩
def markD (d : PyData) : Bool := match items d with
  | some [x, y] => numD x && numD y
  | _ => false
def R12 (ds : List PyData) (r : PyData) : Prop := ∃ d, ds = [d] ∧ r = .bool (markD d)
theorem ok12 (F : Fun K "is_mark_pair" "is_mark_pair" (top 12) f fd) (nb : NoGl mg) (F9 : Dfn P w K mg base 2 "is_number" ["value"] (spR K R9)) (F10 : Dfn P w K mg base 1 "is_sequence" ["value"] (spR K R10)) : FnOk P w K mg base CX0 3 f fd ["value"] (spR K R12) := by
  refine pure_fn F sc12 nb (fun ds r ⟨d, e, _⟩ => by rw [e]; rfl) fun cdv A outer s H0 E B vs ds r hr W hd hR => ?_
  obtain ⟨d, rfl, rfl⟩ := hR
  obtain ⟨v, rfl, h1⟩ := dp1 hd
  refine ret_one (EV.is (ev_and (l := markD d) (ev_call F10 hr ⟨d, rfl, rfl⟩ (av_cons (ev_var 0 h1) av_nil)) fun k => ?_) ?_)
  · obtain ⟨ds, hi⟩ := Option.isSome_iff_exists.mp k
    refine EV.is (ev_and (l := markD d) (ev_eqI (ev_len hi (ev_var 0 h1)) ev_int) fun k2 => ?_) ?_
    · have hl : ds.length = 2 := by simp at k2; omega
      match ds, hl with
      | [x, y], _ =>
        refine EV.is (ev_and (ev_call F9 hr ⟨x, rfl, rfl⟩ (av_cons (ev_ix hi rfl (ev_var 0 h1) ev_int) av_nil)) fun k3 => ev_one (ev_call F9 hr ⟨y, rfl, rfl⟩ (av_cons (ev_ix hi rfl (ev_var 0 h1) ev_int) av_nil))) ?_
        simp only [markD, hi]
    · by_cases hl : ds.length = 2
      · simp [hl]
      · simp only [markD, hi]
        match ds, hl with
        | [], _ => rfl
        | [x], _ => rfl
        | [x, y], hl => exact absurd rfl hl
        | x :: y :: z :: l, hl => simp
  · cases q : items d with
    | none => simp [markD, q]
    | some ds => simp
end
end Who

namespace Who
open PySem L2 PySem.Spec PyProof.Rows
def NmF (x : PyData) (p : Nm) : Prop := items x = some [.int p.1, .int p.2] ∧ 0 ≤ p.1 ∧ 0 ≤ p.2
theorem NmF.mark {x : PyData} {p : Nm} (h : NmF x p) : markD x = true := by
  simp [markD, h.1, numD, h.2.1, h.2.2]
theorem likeD_items {d : PyData} {ds l : List PyData} (h : items d = some ds) : items (likeD d l) = some l := by
  rcases items_cases h with rfl | rfl <;> rfl
section
variable {X : Cx} {σ : Stt} {B : Hp} {x : V}
/-- a name's turn in a comprehension -/
theorem lc_name (n : Nat) {scope : Scope} {elt : PySem.Expr} {d : PyData} (h : EVb X scope elt (σ.set n (some x)) B d) :
    ∃ P : Stt → Prop, GD (gName n) (wipe σ [n]) B x P ∧ ∀ σ2, P σ2 → wipe σ2 [n] = wipe σ [n] ∧ EVb X scope elt σ2 B d := ⟨_, gd_name, fun σ2 e => by
  have e2 : σ2 = σ.set n (some x) := e.trans (by show (σ.set n none).set n (some x) = _; rw [List.set_set])
  subst e2
  exact ⟨by show (σ.set n (some x)).set n none = σ.set n none; rw [List.set_set], h⟩⟩
theorem lc_name_if (n : Nat) {scope : Scope} {elt c : PySem.Expr} {d : PyData} {k : Bool} (h1 : TVb X scope c (σ.set n (some x)) B k) (h : k = true → EVb X scope elt (σ.set n (some x)) B d) :
    ∃ P : Stt → Prop, GD (gName n) (wipe σ [n]) B x P ∧ ∀ σ2, P σ2 → wipe σ2 [n] = wipe σ [n] ∧ TVb X scope c σ2 B k ∧ (k = true → EVb X scope elt σ2 B d) := ⟨_, gd_name, fun σ2 e => by
  have e2 : σ2 = σ.set n (some x) := e.trans (by show (σ.set n none).set n (some x) = _; rw [List.set_set])
  subst e2
  exact ⟨by show (σ.set n (some x)).set n none = σ.set n none; rw [List.set_set], h1, h⟩⟩
end
section
variable {P : Program} {w : World} {K : PySem.W.Frag} {mg : Str → Option Value} {base : Heap} {f : Addr} {fd : FuncData}
theorem sc14 : FnScope ["names", "value", "name", "one", "other"] ["names", "value"] (defScope (top 14)) := ⟨rfl, rfl, rfl, by decide +kernel, rfl, by decide +kernel, by decide +kernel⟩
def R14 (ds : List PyData) (r : PyData) : Prop := ∃ (ns : List Nm) (d x y : PyData) (p q : Nm), ds = [.tuple (ns.map nmD), d] ∧ items d = some [x, y] ∧ NmF x p ∧ NmF y q ∧ p ∈ ns ∧ q ∈ ns ∧ nmLt p q = true ∧ r = .bool true
theorem ok14 (F : Fun K "is_pair_of" "is_pair_of" (top 14) f fd) (nb : NoGl mg) (F10 : Dfn P w K mg base 1 "is_sequence" ["value"] (spR K R10)) (F12 : Dfn P w K mg base 3 "is_mark_pair" ["value"] (spR K R12)) : FnOk P w K mg base CX0 4 f fd ["names", "value"] (spR K R14) := by
  refine pure_fn F sc14 nb (fun ds r ⟨_, _, _, _, _, _, e, _⟩ => by rw [e]; rfl) fun cdv A outer s H0 E B vs ds r hr W hd hR => ?_
  obtain ⟨ns, d, x, y, p, q, rfl, hi, hp, hq, mp, mq, lt, rfl⟩ := hR
  obtain ⟨v1, v2, rfl, h1, h2⟩ := dp2 hd
  intro H sb D fin
  refine ss_cons (s_if sb (WV.tv (wv_or (tv_not (tv_val (ev_call F10 hr ⟨d, rfl, rfl⟩ (av_cons (ev_var 1 h2) av_nil)))) fun _ => wv_or (tv_neI (ev_len hi (ev_var 1 h2)) ev_int) fun _ => wv_or1 (tv_not (tv_val (ev_all (bs := [markD x, markD y]) (ev_lcA (own := [("name", 2)]) (fun d => .bool (markD d)) (blkOk_by (by rfl)) (fun _ _ _ _ _ => pgn 2) hi (ev_var 1 h2) (by show 2 ≤ 100000; decide) fun x d B2 _ s2 hx => lc_name 2 fun _ _ _ _ _ => ev_call F12 hr ⟨d, rfl, rfl⟩ (av_cons (ev_var 2 hx) av_nil))))))) (fun B2 H2 n hk => ?_) fun B2 H2 n _ => ss_nil ?_)
  · rw [hi, hp.mark, hq.mark] at hk
    simp at hk
  have g1 := h1.up n.b
  have g2 := h2.up n.b
  refine ss_cons (s_par 3 4 n.i (av_cons (ev_tupleOf hp.1 (ev_ix hi rfl (ev_var 1 g2) ev_int)) (av_cons (ev_tupleOf hq.1 (ev_ix hi rfl (ev_var 1 g2) ev_int)) av_nil)) fun v w B3 H3 m a1 a2 => ?_)
  have k1 := g1.up m.b
  refine ss_one (s_ret m.i (EV.is (ev_and (ev_in rfl (shaped_nm p) (shaped_nms ns) (ev_var 3 a1) (ev_var 0 k1)) fun _ => ev_and (ev_in rfl (shaped_nm q) (shaped_nms ns) (ev_var 4 a2) (ev_var 0 k1)) fun _ => ev_one (ev_ltN (m := p) (n := q) (ev_var 3 a1) (ev_var 4 a2))) (f := .bool true) ?_) fun v B4 H4 l z => fin v B4 H4 ((n.trans m).trans l) z)
  have e1 := any_nms ns p
  have e2 := any_nms ns q
  rw [decide_eq_true mp] at e1
  rw [decide_eq_true mq] at e2
  rw [e1, e2, lt]
  rfl
end
end Who

namespace Who
open PySem L2 PySem.Spec PyProof.Rows
section
variable {P : Program} {w : World} {K : PySem.W.Frag} {mg : Str → Option Value} {base : Heap} {f : Addr} {fd : FuncData}
theorem sc15 : FnScope ["names", "value"] ["names", "value"] (defScope (top 15)) := ⟨rfl, rfl, rfl, by decide +kernel, rfl, by decide +kernel, by decide +kernel⟩
def R15 (ds : List PyData) (r : PyData) : Prop := ∃ (ns : List Nm) (d : PyData) (i : Int) (x y : PyData) (p q : Nm), ds = [.tuple (ns.map nmD), d] ∧ items d = some [.int i, x, y] ∧ NmF x p ∧ NmF y q ∧ p ∈ ns ∧ q ∈ ns ∧ nmLt p q = true ∧ r = .bool true
theorem ok15 (F : Fun K "is_link_of" "is_link_of" (top 15) f fd) (nb : NoGl mg) (F8 : Dfn P w K mg base 1 "is_integer" ["value"] (spR K R8)) (F10 : Dfn P w K mg base 1 "is_sequence" ["value"] (spR K R10)) (F14 : Dfn P w K mg base 4 "is_pair_of" ["names", "value"] (spR K R14)) :
    FnOk P w K mg base CX0 5 f fd ["names", "value"] (spR K R15) := by
  refine pure_fn F sc15 nb (fun ds r ⟨_, _, _, _, _, _, _, e, _⟩ => by rw [e]; rfl) fun cdv A outer s H0 E B vs ds r hr W hd hR => ?_
  obtain ⟨ns, d, i, x, y, p, q, rfl, hi, hp, hq, mp, mq, lt, rfl⟩ := hR
  obtain ⟨v1, v2, rfl, h1, h2⟩ := dp2 hd
  have e3 : items (likeD d (cutD [.int i, x, y] (some 1) none)) = some [x, y] := by rw [likeD_items hi]; rfl
  refine ret_one (EV.is (ev_and (ev_call F10 hr ⟨d, rfl, rfl⟩ (av_cons (ev_var 1 h2) av_nil)) fun _ => ev_and (ev_eqI (ev_len hi (ev_var 1 h2)) ev_int) fun _ => ev_and (ev_call F8 hr ⟨.int i, rfl, rfl⟩ (av_cons (ev_ix hi rfl (ev_var 1 h2) ev_int) av_nil)) fun _ =>
    ev_one (ev_call F14 hr ⟨ns, _, x, y, p, q, rfl, e3, hp, hq, mp, mq, lt, rfl⟩ (av_cons (ev_var 0 h1) (av_cons (ev_from hi (ev_var 1 h2) ev_int) av_nil)))) ?_)
  rw [hi]
  rfl
theorem sc16 : FnScope ["value"] ["value"] (defScope (top 16)) := ⟨rfl, rfl, rfl, by decide +kernel, rfl, by decide +kernel, by decide +kernel⟩
def prD (p : Nm × Nm) : PyData := .tuple [nmD p.1, nmD p.2]
def R16 (ds : List PyData) (r : PyData) : Prop := ∃ (d x y : PyData) (p q : Nm), ds = [d] ∧ items d = some [x, y] ∧ NmF x p ∧ NmF y q ∧ r = prD (p, q)
theorem ok16 (F : Fun K "frozen_pair" "frozen_pair" (top 16) f fd) (nb : NoGl mg) : FnOk P w K mg base CX0 1 f fd ["value"] (spR K R16) := by
  refine pure_fn F sc16 nb (fun ds r ⟨_, _, _, _, _, e, _⟩ => by rw [e]; rfl) fun cdv A outer s H0 E B vs ds r hr W hd hR => ?_
  obtain ⟨d, x, y, p, q, rfl, hi, hp, hq, rfl⟩ := hR
  obtain ⟨v, rfl, h1⟩ := dp1 hd
  exact ret_one (ev_tup (av_cons (ev_tupleOf hp.1 (ev_ix hi rfl (ev_var 0 h1) ev_int)) (av_cons (ev_tupleOf hq.1 (ev_ix hi rfl (ev_var 0 h1) ev_int)) av_nil)) (by show 2 ≤ 100000; decide))
theorem sc32 : FnScope ["names", "value", "at"] ["names", "value", "at"] (defScope (top 32)) := ⟨rfl, rfl, rfl, by decide +kernel, rfl, by decide +kernel, by decide +kernel⟩
def R32 (ds : List PyData) (r : PyData) : Prop := ∃ (ns : List Nm) (d : PyData) (p : Nm) (n : Int), ds = [.tuple (ns.map nmD), d, .int n] ∧ NmF d p ∧ p ∈ ns ∧ r = nmD p
theorem ok32 (F : Fun K "need_name_of" "need_name_of" (top 32) f fd) (nb : NoGl mg) (F12 : Dfn P w K mg base 3 "is_mark_pair" ["value"] (spR K R12)) : FnOk P w K mg base CX0 4 f fd ["names", "value", "at"] (spR K R32) := by
  refine pure_fn F sc32 nb (fun ds r ⟨_, _, _, _, e, _⟩ => by rw [e]; rfl) fun cdv A outer s H0 E B vs ds r hr W hd hR => ?_
  obtain ⟨ns, d, p, n, rfl, hp, mp, rfl⟩ := hR
  obtain ⟨v1, v2, v3, rfl, h1, h2, h3⟩ := dp3 hd
  intro H sb D fin
  refine ss_cons (s_if sb (WV.tv (wv_or (tv_not (tv_val (ev_call F12 hr ⟨d, rfl, rfl⟩ (av_cons (ev_var 1 h2) av_nil)))) fun _ => wv_or1 (tv_nin rfl (shaped_nm p) (shaped_nms ns) (ev_tupleOf hp.1 (ev_var 1 h2)) (ev_var 0 h1)))) (fun B2 H2 n hk => ?_) fun B2 H2 n _ => ss_nil (ss_one (s_ret n.i (ev_tupleOf hp.1 (ev_var 1 (h2.up n.b))) fun v B4 H4 l z => fin v B4 H4 (n.trans l) z)))
  have e1 := any_nms ns p
  rw [decide_eq_true mp] at e1
  rw [hp.mark, e1] at hk
  exact absurd hk Bool.false_ne_true
end
end Who

/-! Who: lists and dicts that a body changes; loops, by data. -/
namespace Who
open PySem L2 PySem.Spec PyProof.Rows
/-- only the object at p was changed, and new ones were laid -/
structure NxtE (p : Addr) (B H1 B2 H2 : Hp) : Prop where
  b : Sub B B2
  h : ∀ a o, a ≠ p → H1 a = some o → H2 a = some o
  i : Sub B2 H2
  av : ∀ a o, H1 a = some o → B a = none → B2 a = none
section
variable {B B2 B3 H1 H2 H3 : Hp} {p : Addr} {o : HO}
theorem Nxt.e (n : Nxt B H1 B2 H2) : NxtE p B H1 B2 H2 := ⟨n.b, fun a o _ h => n.h a o h, n.i, n.av⟩
theorem NxtE.put (n : Nxt B H1 B2 H2) {u : HO} (hp : H1 p = some u) (hb : B p = none) : NxtE p B H1 B2 (upd H2 p o) :=
  ⟨n.b, fun a u hne h => by rw [upd_ne hne]; exact n.h a u h, n.i.upd (n.av p u hp hb), n.av⟩
theorem NxtE.trans (x : NxtE p B H1 B2 H2) (y : NxtE p B2 H2 B3 H3) (hp : ∃ u, H1 p = some u) (hb : B p = none) (hq : ∃ u, H2 p = some u) : NxtE p B H1 B3 H3 :=
  ⟨x.b.trans y.b, fun a o hne h => y.h a o hne (x.h a o hne h), y.i, fun a o h n => by
    by_cases e : a = p
    · subst e
      obtain ⟨u, hu⟩ := hq
      exact y.av a u hu (x.av a o h n)
    · exact y.av a o (x.h a o e h) (x.av a o h n)⟩
/-- a new object's changes are no changes of what was there -/
theorem NxtE.nxt {B0 H0 : Hp} (n : Nxt B0 H0 B H1) (y : NxtE p B H1 B2 H2) (hp : H0 p = none) : Nxt B0 H0 B2 H2 :=
  ⟨n.b.trans y.b, fun a o h => y.h a o (ne_of_none h hp) (n.h a o h), y.i, fun a o h m => y.av a o (n.h a o h) (n.av a o h m)⟩
end
structure MLst (K : PySem.W.Frag) (B H : Hp) (p : Addr) (ds : List PyData) : Prop where
  b : B p = none
  h : ∃ xs, H p = some (.lst xs) ∧ DpAll K B xs ds
structure MD (P : Program) (w : World) (K : PySem.W.Frag) (B H : Hp) (d : Addr) (ks : List NestedKey) (g : NestedKey → PyData) : Prop where
  b : B d = none
  h : ∃ ps : List NP, H d = some (NdO P w d ps) ∧ KeysAt K B ps ∧ ps.map (·.1) = ks ∧ ∀ p ∈ ps, Dp K B p.2.2 (g p.1)
/-- a dict that stands in the base -/
def FD (P : Program) (w : World) (K : PySem.W.Frag) (B : Hp) (d : Addr) (ks : List NestedKey) (g : NestedKey → PyData) : Prop :=
  ∃ ps : List NP, B d = some (NdO P w d ps) ∧ KeysAt K B ps ∧ ps.map (·.1) = ks ∧ ∀ p ∈ ps, Dp K B p.2.2 (g p.1)
section
variable {P : Program} {w : World} {K : PySem.W.Frag} {B B2 H H2 : Hp} {p d : Addr} {ds : List PyData} {ks : List NestedKey} {g g' : NestedKey → PyData}
theorem MLst.nxt (m : MLst K B H p ds) (n : Nxt B H B2 H2) : MLst K B2 H2 p ds := by
  obtain ⟨xs, h1, h2⟩ := m.h
  exact ⟨n.av p _ h1 m.b, xs, n.h p _ h1, h2.up n.b⟩
theorem MLst.nxtE {q : Addr} (m : MLst K B H p ds) (n : NxtE q B H B2 H2) (hq : p ≠ q) : MLst K B2 H2 p ds := by
  obtain ⟨xs, h1, h2⟩ := m.h
  exact ⟨n.av p _ h1 m.b, xs, n.h p _ hq h1, h2.up n.b⟩
theorem MLst.is (m : MLst K B H p ds) : ∃ u, H p = some u := let ⟨_, h, _⟩ := m.h; ⟨_, h⟩
theorem MD.is (m : MD P w K B H d ks g) : ∃ u, H d = some u := let ⟨_, h, _⟩ := m.h; ⟨_, h⟩
theorem MD.nxt (m : MD P w K B H d ks g) (n : Nxt B H B2 H2) : MD P w K B2 H2 d ks g := by
  obtain ⟨ps, h1, h2, h3, h4⟩ := m.h
  exact ⟨n.av d _ h1 m.b, ps, n.h d _ h1, h2.up n.b, h3, fun p hp => (h4 p hp).up n.b⟩
theorem MD.nxtE {q : Addr} (m : MD P w K B H d ks g) (n : NxtE q B H B2 H2) (hq : d ≠ q) : MD P w K B2 H2 d ks g := by
  obtain ⟨ps, h1, h2, h3, h4⟩ := m.h
  exact ⟨n.av d _ h1 m.b, ps, n.h d _ hq h1, h2.up n.b, h3, fun p hp => (h4 p hp).up n.b⟩
/-- the list stands in a greater base -/
theorem MLst.frz (m : MLst K B H p ds) (s : Sub B H) : ∃ B', Sub B B' ∧ Sub B' H ∧ Dp K B' (.ref p) (.list ds) ∧ ∃ xs, H p = some (.lst xs) ∧ B' = upd B p (.lst xs) := by
  obtain ⟨xs, h1, h2⟩ := m.h
  have e := Sub.updL (o := HO.lst xs) m.b
  refine ⟨upd B p (.lst xs), e, fun a o z => ?_, dpL upd_same (h2.up e), xs, h1, rfl⟩
  by_cases q : a = p
  · subst q; rw [upd_same] at z; cases z; exact h1
  · rw [upd_ne q] at z; exact s a o z
theorem MLst.frzN {B0 H0 : Hp} (m : MLst K B H p ds) (n : Nxt B0 H0 B H) (hp : H0 p = none) : ∃ B', Nxt B0 H0 B' H ∧ Sub B B' ∧ Dp K B' (.ref p) (.list ds) := by
  obtain ⟨xs, h1, h2⟩ := m.h
  exact ⟨_, n.frz hp h1 m.b, Sub.updL m.b, dpL upd_same (h2.up (Sub.updL m.b))⟩
theorem MD.frz (m : MD P w K B H d ks g) (s : Sub B H) : ∃ B', Sub B B' ∧ Sub B' H ∧ FD P w K B' d ks g := by
  obtain ⟨ps, h1, h2, h3, h4⟩ := m.h
  have e := Sub.updL (o := NdO P w d ps) m.b
  refine ⟨upd B d (NdO P w d ps), e, fun a o z => ?_, ps, upd_same, h2.up e, h3, fun p hp => (h4 p hp).up e⟩
  by_cases q : a = d
  · subst q; rw [upd_same] at z; cases z; exact h1
  · rw [upd_ne q] at z; exact s a o z
theorem FD.up (m : FD P w K B d ks g) (s : Sub B B2) : FD P w K B2 d ks g := by
  obtain ⟨ps, h1, h2, h3, h4⟩ := m
  exact ⟨ps, s d _ h1, h2.up s, h3, fun p hp => (h4 p hp).up s⟩
theorem psAt_mem {ps : List NP} {k : NestedKey} (h : k ∈ ps.map (·.1)) : ∃ p ∈ ps, p.1 = k ∧ psAt ps k = some p.2.2 := by
  induction ps with
  | nil => simp at h
  | cons p r ih =>
    by_cases e : p.1 = k
    · exact ⟨p, List.mem_cons_self, e, psAt_pos e⟩
    · rw [List.map_cons] at h
      rcases List.mem_cons.mp h with z | z
      · exact absurd z.symm e
      · obtain ⟨q, hq, e1, e2⟩ := ih z
        exact ⟨q, List.mem_cons_of_mem _ hq, e1, by rw [psAt_neg e]; exact e2⟩
theorem psAt_no {ps : List NP} {k : NestedKey} (h : k ∉ ps.map (·.1)) : psAt ps k = none := by
  induction ps with
  | nil => rfl
  | cons p r ih =>
    rw [List.map_cons] at h
    have h1 : ¬ p.1 = k := fun e => h (by rw [e]; exact List.mem_cons_self)
    rw [psAt_neg h1]
    exact ih fun z => h (List.mem_cons_of_mem _ z)
theorem psAt_is {ps : List NP} {k : NestedKey} : (psAt ps k).isSome = decide (k ∈ ps.map (·.1)) := by
  by_cases h : k ∈ ps.map (·.1)
  · obtain ⟨p, _, _, e⟩ := psAt_mem h
    rw [e, decide_eq_true h]; rfl
  · rw [psAt_no h, decide_eq_false h]; rfl
/-- keys behind a store -/
def ksPut (ks : List NestedKey) (k : NestedKey) : List NestedKey := if k ∈ ks then ks else ks ++ [k]
def gPut (g : NestedKey → PyData) (k : NestedKey) (d : PyData) : NestedKey → PyData := fun x => if x = k then d else g x
theorem psPut_keys {ps : List NP} {k : NestedKey} {a : Addr} {v : V} : (psPut ps k a v).map (·.1) = ksPut (ps.map (·.1)) k := by
  unfold psPut ksPut
  rw [psAt_is]
  by_cases h : k ∈ ps.map (·.1)
  · rw [if_pos h, if_pos (decide_eq_true h), List.map_map]
    refine List.map_congr_left fun p _ => ?_
    show (if p.1 = k then (p.1, p.2.1, v) else p).1 = p.1
    split <;> rfl
  · rw [if_neg h, if_neg (by rw [decide_eq_false h]; exact Bool.false_ne_true), List.map_append]
    rfl
theorem psPut_vals {Q : NestedKey → V → Prop} {ps : List NP} {k : NestedKey} {a : Addr} {v : V} (h : ∀ p ∈ ps, p.1 ≠ k → Q p.1 p.2.2) (hk : Q k v) : ∀ p ∈ psPut ps k a v, Q p.1 p.2.2 := by
  intro p hp
  unfold psPut at hp
  rw [psAt_is] at hp
  by_cases q : k ∈ ps.map (·.1)
  · rw [if_pos (decide_eq_true q)] at hp
    obtain ⟨r, hr, e⟩ := List.mem_map.mp hp
    by_cases z : r.1 = k
    · rw [if_pos z] at e; subst e; rw [z]; exact hk
    · rw [if_neg z] at e; subst e; exact h r hr z
  · rw [if_neg (by rw [decide_eq_false q]; exact Bool.false_ne_true)] at hp
    rcases List.mem_append.mp hp with z | z
    · exact h p z fun e => q (List.mem_map.mpr ⟨p, z, e⟩)
    · simp at z; subst z; exact hk
end
section
variable {X : Cx} {e a b c o i elt tg iter : PySem.Expr} {es rest : List PySem.Expr} {pos p q p2 p3 p4 p5 : Pos} {σ : Stt} {B B1 H : Hp} {d d1 d2 f : PyData} {ds : List PyData} {v : V} {m : Addr} {ks : List NestedKey} {g : NestedKey → PyData}
theorem ev_neg {n : Int} (h : EV X a σ B (.int n)) : EV X (.UnaryOp .USub a pos) σ B (.int (-n)) := EV.by (pe_un un_neg pe_w) fun H1 z Q q => h H1 z _ fun v B2 H2 n p => ⟨_, p.int_inv, q _ B2 H2 n (.int _)⟩
/-- name = [] -/
theorem s_newL [W : Wk X] (n : Nat) {x : Str} {D : Ends} (s : Sub B H) (q : ∀ l H2, H l = none → Nxt B H B H2 → MLst X.K B H2 l [] → D.nx (σ.set n (some (.ref l))) H2) (hi : X.N[n]? = some x := by rfl) (hx : Loc X.env.scope x := by first | exact Or.inl rfl | exact Or.inr rfl)
    (hs : swapsWith (.List [] p2) (some (.Name x p)) pos.line X.env = pure false := by rfl) (hf : X.fn x = true ∨ X.env.scope.names.lookup x = some .local := by first | exact .inl rfl | exact .inr rfl) : wS X (.Assign [.Name x p] (.List [] p2) pos) D σ H :=
  le_S (ps_set W.nd hi hx (pe_lst pa_nil) hs hf) ⟨by show 0 ≤ sizeLine; decide, fun l hl => q l _ hl (Nxt.mut s hl) ⟨s.none hl, [], upd_same, .nil⟩⟩
/-- name = {} (keys are tuples) -/
theorem s_newD [W : Wk X] (n : Nat) {x : Str} {D : Ends} (s : Sub B H) (q : ∀ l H2, H l = none → Nxt B H B H2 → MD X.prog X.w X.K B H2 l [] g → D.nx (σ.set n (some (.ref l))) H2) (hi : X.N[n]? = some x := by rfl) (hx : Loc X.env.scope x := by first | exact Or.inl rfl | exact Or.inr rfl)
    (hs : swapsWith (.Dict [] [] p2) (some (.Name x p)) pos.line X.env = pure false := by rfl) (hf : X.fn x = true ∨ X.env.scope.names.lookup x = some .local := by first | exact .inl rfl | exact .inr rfl) : wS X (.Assign [.Name x p] (.Dict [] [] p2) pos) D σ H :=
  le_S (ps_set W.nd hi hx pe_nnew hs hf) fun l hl => q l _ hl (Nxt.mut s hl) ⟨s.none hl, [], upd_same, (by intro p hp; cases hp), rfl, (by intro p hp; cases hp)⟩
/-- name.append(e) -/
theorem s_append [W : Wk X] (n : Nat) {x : Str} {D : Ends} (s : Sub B H) (M : MLst X.K B H m ds) (h : EV X e σ B d) (hz : ds.length < 100000) (q : ∀ B2 H2, NxtE m B H B2 H2 → MLst X.K B2 H2 m (ds ++ [d]) → D.nx σ H2) (h0 : σ[n]? = some (some (.ref m)) := by rfl) (hN : X.N[n]? = some x := by rfl)
    (hv : Vis X.env.scope x := by first | exact Or.inl rfl | exact Or.inr (Or.inl rfl) | exact Or.inr (Or.inr rfl)) (hd : (x == ("__debug__" : Str)) = false := by decide) (hcd : (x == ("__classdict__" : Str)) = false := by decide)
    (hs : swapsWith (.Call (.Attribute (.Name x p) "append" p2) [e] [] p3) none pos.line X.env = pure false := by rfl) (hbase : attributeBase (.Name x p) "append" X.env (eval (.Name x p) X.env) = eval (.Name x p) X.env := by rfl)
    (hfew : ((backTo p3 (starEach [e] X.env)).all (fun x => !x.1) && (backToKw p3 (keywordEach [] X.env)).all (fun x => x.1.isSome) && decide ([e].length + ([] : List Keyword).length + (if ([] : List Keyword).isEmpty then 0 else 1) < 30)) = true := by rfl)
    (hline : (p2.endLine == p3.line) = true := by rfl) (hst : starEach [e] X.env = (false, eval e X.env) :: starEach [] X.env := by rfl) : wS X (.Expr (.Call (.Attribute (.Name x p) "append" p2) [e] [] p3) pos) D σ H := by
  obtain ⟨xs, h1, h2⟩ := M.h
  refine le_S (ps_expr (pe_bm PySem.F.plainAttrs_list PySem.F.slot_list_append PySem.F.type_list_append mt_append (pe_var hN hv hd hcd) (pa_cons pe_w pa_nil hst) hbase hfew hline hst) hs) ?_
  refine ⟨_, h0, .inl ⟨rfl, xs, .inl (.inl h1)⟩, h H s _ fun v B2 H2 n p => ⟨m, xs, v, rfl, rfl, n.h m _ h1, ?_, q B2 _ (NxtE.put n h1 M.b) ⟨n.av m _ h1 M.b, _, upd_same, (h2.up n.b).app (.cons p .nil)⟩⟩⟩
  rw [h2.len]
  exact Nat.lt_trans hz (by decide)
/-! dicts -/
theorem key_ref {K : PySem.W.Frag} {l : List NestedKey} (h : Dp K B v (kD (.tup l))) : ∃ a, v = .ref a ∧ Dp K B (.ref a) (kD (.tup l)) := by
  simp only [kD] at h ⊢
  obtain ⟨a, xs, rfl, hs, ha⟩ := h.tup_inv
  exact ⟨a, rfl, .tup hs ha⟩
def okKey (k : NestedKey) : Bool := (match k with | .tup _ => true | _ => false) && decide (k.depth ≤ 8)
theorem okKey_at {K : PySem.W.Frag} {k : NestedKey} (ok : okKey k = true) (h : Dp K B v (kD k)) : ∃ a, v = .ref a ∧ KeyAt K B a k := by
  unfold okKey at ok
  cases k with
  | tup l =>
    obtain ⟨a, e, h'⟩ := key_ref h
    exact ⟨a, e, h', by simpa using ok⟩
  | _ => simp at ok
theorem ev_nget [W : Wk X] (n : Nat) {x : Str} {k : NestedKey} (F : FD X.prog X.w X.K B m ks g) (hk : k ∈ ks) (ok : okKey k = true) (h : EV X i σ B (kD k)) (h0 : σ[n]? = some (some (.ref m)) := by rfl) (hN : X.N[n]? = some x := by rfl)
    (hv : Vis X.env.scope x := by first | exact Or.inl rfl | exact Or.inr (Or.inl rfl) | exact Or.inr (Or.inr rfl)) (hd : (x == ("__debug__" : Str)) = false := by decide) (hcd : (x == ("__classdict__" : Str)) = false := by decide) (hs : NoSl i := by intro _ _; rfl) :
    EV X (.Subscript (.Name x p) i pos) σ B (g k) := EV.by (pe_nget (un10 X) (pe_var hN hv hd hcd) pe_w hs) fun H1 z Q q => ⟨_, h0, h H1 z _ fun v B2 H2 nn p => by
  obtain ⟨ps, h1, h2, h3, h4⟩ := F.up nn.b
  obtain ⟨a, rfl, hka⟩ := okKey_at ok p
  obtain ⟨r, hr, e1, e2⟩ := psAt_mem (ps := ps) (k := k) (by rw [h3]; exact hk)
  exact ⟨a, m, k, ps, r.2.2, rfl, rfl, hka.up nn.i, nn.i m _ h1, h2.up nn.i, e2, q _ B2 H2 nn (by rw [← e1]; exact h4 r hr)⟩⟩
theorem tv_nin' [W : Wk X] (n : Nat) {x : Str} {k : NestedKey} (F : FD X.prog X.w X.K B m ks g) (ok : okKey k = true) (h : EV X i σ B (kD k)) (h0 : σ[n]? = some (some (.ref m)) := by rfl) (hN : X.N[n]? = some x := by rfl)
    (hv : Vis X.env.scope x := by first | exact Or.inl rfl | exact Or.inr (Or.inl rfl) | exact Or.inr (Or.inr rfl)) (hd : (x == ("__debug__" : Str)) = false := by decide) (hcd : (x == ("__classdict__" : Str)) = false := by decide) (hm : behindInMarks .In (.Name x p) = false := by with_unfolding_all rfl) :
    TV X (.Compare i [.In] [.Name x p] pos) σ B (decide (k ∈ ks)) := TV.by (pt_cmpR (op_nin (un10 X)) pe_w (pe_var hN hv hd hcd) hm) fun H1 z Q q => h H1 z _ fun v B2 H2 nn p => ⟨_, h0, by
  obtain ⟨ps, h1, h2, h3, h4⟩ := F.up nn.b
  obtain ⟨a, rfl, hka⟩ := okKey_at ok p
  refine ⟨a, m, k, ps, rfl, rfl, hka.up nn.i, nn.i m _ h1, h2.up nn.i, (psAt ps k).isSome, rfl, ?_⟩
  rw [psAt_is, h3]
  exact q B2 H2 nn⟩
theorem tv_nnin' [W : Wk X] (n : Nat) {x : Str} {k : NestedKey} (F : FD X.prog X.w X.K B m ks g) (ok : okKey k = true) (h : EV X i σ B (kD k)) (h0 : σ[n]? = some (some (.ref m)) := by rfl) (hN : X.N[n]? = some x := by rfl)
    (hv : Vis X.env.scope x := by first | exact Or.inl rfl | exact Or.inr (Or.inl rfl) | exact Or.inr (Or.inr rfl)) (hd : (x == ("__debug__" : Str)) = false := by decide) (hcd : (x == ("__classdict__" : Str)) = false := by decide) (hm : behindInMarks .NotIn (.Name x p) = false := by with_unfolding_all rfl) :
    TV X (.Compare i [.NotIn] [.Name x p] pos) σ B (!decide (k ∈ ks)) := TV.by (pt_cmpR (op_nnotin (un10 X)) pe_w (pe_var hN hv hd hcd) hm) fun H1 z Q q => h H1 z _ fun v B2 H2 nn p => ⟨_, h0, by
  obtain ⟨ps, h1, h2, h3, h4⟩ := F.up nn.b
  obtain ⟨a, rfl, hka⟩ := okKey_at ok p
  refine ⟨a, m, k, ps, rfl, rfl, hka.up nn.i, nn.i m _ h1, h2.up nn.i, (!(psAt ps k).isSome), rfl, ?_⟩
  rw [psAt_is, h3]
  exact q B2 H2 nn⟩
/-- name[i] = e -/
theorem s_nput [W : Wk X] (n : Nat) {x : Str} {k : NestedKey} {D : Ends} (s : Sub B H) (M : MD X.prog X.w X.K B H m ks g) (ok : okKey k = true) (hz : ks.length < 100000) (he : EV X e σ B d) (h : EV X i σ B (kD k)) (q : ∀ B2 H2, NxtE m B H B2 H2 → MD X.prog X.w X.K B2 H2 m (ksPut ks k) (gPut g k d) → D.nx σ H2)
    (h0 : σ[n]? = some (some (.ref m)) := by rfl) (hN : X.N[n]? = some x := by rfl) (hv : Vis X.env.scope x := by first | exact Or.inl rfl | exact Or.inr (Or.inl rfl) | exact Or.inr (Or.inr rfl)) (hd : (x == ("__debug__" : Str)) = false := by decide) (hcd : (x == ("__classdict__" : Str)) = false := by decide)
    (ha : ∀ v, assign (.Subscript (.Name x p) i p2) X.env v = (do
      let ov ← holding [v] (eval (.Name x p) X.env)
      let iv ← holding [v, ov] (eval i X.env)
      standAt p2
      holding [v, ov, iv] (setItem ov iv v)
      release [v, ov, iv] []) := by intro _; rfl) (hs : swapsWithSole [.Subscript (.Name x p) i p2] e pos.line X.env = pure false := by rfl) (hw : swappedStores [.Subscript (.Name x p) i p2] e X.env = pure none := by rfl)
    (h1 : (assignEach [.Subscript (.Name x p) i p2] X.env).map (·.2) = [assign (.Subscript (.Name x p) i p2) X.env] := by rfl) : wS X (.Assign [.Subscript (.Name x p) i p2] e pos) D σ H := by
  refine le_S (ps_asg pe_w (pg_sub (pe_var hN hv hd hcd) pe_w (set_nd (un10 X)) ha) hs hw h1) (he H s _ fun v B2 H2 nn pv => ⟨_, h0, (h.mono nn.b) H2 nn.i _ fun y B3 H3 mm py => ?_⟩)
  obtain ⟨a, rfl, hka⟩ := okKey_at ok py
  have nt := nn.trans mm
  obtain ⟨ps, g1, g2, g3, g4⟩ := M.h
  have hlen : ps.length < 100000 := by rw [← g3, List.length_map] at hz; exact hz
  refine ⟨a, m, k, ps, rfl, rfl, hka.up mm.i, nt.h m _ g1, (g2.up nt.b).up mm.i, Nat.lt_trans hlen (by decide), q B3 _ (NxtE.put nt g1 M.b) ⟨nt.av m _ g1 M.b, _, upd_same, (g2.up nt.b).put hka, ?_, ?_⟩⟩
  · rw [psPut_keys, g3]
  · refine psPut_vals (Q := fun k' v' => Dp X.K B3 v' (gPut g k d k')) (fun p hp hne => ?_) ?_
    · unfold gPut; rw [if_neg hne]; exact (g4 p hp).up nt.b
    · unfold gPut; rw [if_pos rfl]; exact pv.up mm.b
end
end Who

/-! Who: for, by data. -/
namespace Who
open PySem L2 PySem.Spec PyProof.Rows
section
variable {X : Cx} {e a b c o i elt tg iter : PySem.Expr} {es rest : List PySem.Expr} {pos p q p2 p3 p4 p5 : Pos} {σ : Stt} {B B1 H : Hp} {d d0 d1 d2 f : PyData} {ds : List PyData} {v : V} {G : TG} {body : List Stmt}
/-- for tg in a list or a tuple -/
theorem s_for [W : Wk X] {D : Ends} (hp : PassesOwn (model X.prog X.w) X.A X.env X.xe) (hg : PG X tg G) (hi : items d0 = some ds) (s : Sub B H) (hs : EV X iter σ B d0) (Pv : Nat → Stt → Hp → Hp → Prop) (h0 : ∀ B2 H2, Nxt B H B2 H2 → Pv 0 σ B2 H2)
    (ht : ∀ B2, Sub B B2 → ∀ i d x σ' B' H', ds[i]? = some d → Pv i σ' B' H' → Sub B2 B' → Sub B' H' → Dp X.K B' x d → G x σ' H' fun σ2 H2 => wSs X body { D with nx := FdN B2 (Pv (i + 1)), ct := FdN B2 (Pv (i + 1)), bk := D.nx } σ2 H2)
    (hd : ∀ σ' B' H', Pv ds.length σ' B' H' → Sub B B' → Sub B' H' → D.nx σ' H') (hf : ∀ x, foldedSetIterable iter X.env x = pure x := by intro _; rfl) : wS X (.For tg iter body [] pos) D σ H := by
  rcases items_cases hi with rfl | rfl
  · exact le_S (ps_for hp W.calm (pi_list pe_w) hg pss_w hf) (fd_list Pv s hs h0 ht hd)
  · exact le_S (ps_for hp W.calm (pi_tup pe_w) hg pss_w hf) (fd_tup Pv s hs h0 ht hd)
/-- for x, y in enumerate(e) -/
theorem s_enum [W : Wk X] {D : Ends} {x y : Str} {m : Nat} {px py pt : Pos} (n k : Nat) (hp : PassesOwn (model X.prog X.w) X.A X.env X.xe) (hi : items d0 = some ds) (s : Sub B H) (hs : EV X e σ B d0) (Pv : Nat → Stt → Hp → Hp → Prop) (h0 : ∀ B2 H2, Nxt B H B2 H2 → Pv 0 σ B2 H2)
    (up : ∀ i σ' B' H' T o, Pv i σ' B' H' → H' T = none → Sub B' H' → Pv i σ' (upd B' T o) (upd H' T o))
    (ht : ∀ B2, Sub B B2 → ∀ (i : Nat) d x σ' B' H', ds[i]? = some d → Pv i σ' B' H' → Sub B2 B' → Sub B' H' → Dp X.K B' x d → wSs X body { D with nx := FdN B2 (Pv (i + 1)), ct := FdN B2 (Pv (i + 1)), bk := D.nx } ((σ'.set n (some (.int i))).set k (some x)) H')
    (hd : ∀ σ' B' H', Pv ds.length σ' B' H' → Sub B B' → Sub B' H' → D.nx σ' H') (hg1 : PG X (.Name x px) (gName n)) (hg2 : PG X (.Name y py) (gName k)) (hgl : Gl X "enumerate" := by rfl) (hst : starEach [e] X.env = [(false, eval e X.env)] := by rfl)
    (hn : (assignEach [.Name x px, .Name y py] X.env).length = 2 := by rfl) (hst2 : (assignEach [.Name x px, .Name y py] X.env).findIdx? (·.1) = none := by rfl) (s1 : (assignEach [.Name x px, .Name y py] X.env).map (·.2) = assign (.Name x px) X.env :: (assignEach [.Name y py] X.env).map (·.2) := by rfl)
    (s2 : (assignEach [.Name y py] X.env).map (·.2) = assign (.Name y py) X.env :: (assignEach [] X.env).map (·.2) := by rfl) (hf : ∀ x, foldedSetIterable (.Call (.Name "enumerate" p) [e] [] p2) X.env x = pure x := by intro _; rfl) :
    wS X (.For (.Tuple [.Name x px, .Name y py] m pt) (.Call (.Name "enumerate" p) [e] [] p2) body [] pos) D σ H :=
  le_S (ps_for hp W.calm (pi_enumA hgl (nobx X _ (by decide)) (pa_cons pe_w pa_nil hst) hst) (pg2 hg1 hg2 hn hst2 s1 s2) pss_w hf)
    (fd_enum Pv s hs hi h0 up (fun B2 sb i d x T σ' B' H' hx pv s1 s2 hT hd => gd_tup2 (B := B') hT H' s2 _ fun σ2 e => by rw [e]; exact ht B2 sb i d x σ' B' H' hx pv s1 s2 hd) hd)
end
end Who

namespace Who
open PySem L2 PySem.Spec PyProof.Rows
/-- ascending -/
def Asc (ns : List Nm) : Prop := ns.Pairwise fun a b => nmLt a b = true
theorem paired_get {α β : Type} {F : α → β → Prop} : ∀ {xs : List α} {ys : List β}, Paired F xs ys → ∀ {i : Nat} {x : α}, xs[i]? = some x → ∃ y, ys[i]? = some y ∧ F x y
  | _, _, .nil, i, x, e => by simp at e
  | _, _, .cons r t, 0, x, e => by simp at e; subst e; exact ⟨_, by simp, r⟩
  | _, _, .cons r t, i + 1, x, e => by
    obtain ⟨y, h1, h2⟩ := paired_get t (i := i) (by simpa using e)
    exact ⟨y, by simpa using h1, h2⟩
section
variable {P : Program} {w : World} {K : PySem.W.Frag} {mg : Str → Option Value} {base : Heap} {f : Addr} {fd : FuncData}
theorem nmLt_asym {a b : Nm} (h : nmLt a b = true) : nmLt b a = false := by
  unfold nmLt at h ⊢
  by_cases e : a.1 = b.1
  · rw [if_pos e] at h; rw [if_pos e.symm]; simp at h ⊢; omega
  · rw [if_neg e] at h; rw [if_neg (Ne.symm e)]; simp at h ⊢; omega
theorem atI_last {ns : List Nm} {i : Nat} {q : Nm} (h0 : 0 < i) (h : i ≤ ns.length) (hq : ns[i - 1]? = some q) : atI ((ns.take i).map nmD) (-1) = some (nmD q) := by
  have hl : ((ns.take i).map nmD).length = i := by rw [List.length_map, List.length_take]; omega
  unfold atI ixN
  rw [hl, if_neg (by decide), if_pos (by omega)]
  show ((ns.take i).map nmD)[(-1 + (i : Int)).toNat]? = _
  have e : (-1 + (i : Int)).toNat = i - 1 := by omega
  rw [e, List.getElem?_map, List.getElem?_take, if_pos (by omega), hq]
  rfl
theorem sc13 : FnScope ["value", "found", "at", "name"] ["value"] (defScope (top 13)) := ⟨rfl, rfl, rfl, by decide +kernel, rfl, by decide +kernel, by decide +kernel⟩
def R13 (ds : List PyData) (r : PyData) : Prop := ∃ (d : PyData) (xs : List PyData) (ns : List Nm), ds = [d] ∧ items d = some xs ∧ Paired NmF xs ns ∧ Asc ns ∧ ns.length ≤ 1000 ∧ r = .tuple (ns.map nmD)
theorem ok13 (F : Fun K "need_people_names" "need_people_names" (top 13) f fd) (nb : NoGl mg) (F10 : Dfn P w K mg base 1 "is_sequence" ["value"] (spR K R10)) (F12 : Dfn P w K mg base 3 "is_mark_pair" ["value"] (spR K R12)) : FnOk P w K mg base CX0 4 f fd ["value"] (spR K R13) := by
  refine pure_fn F sc13 nb (fun ds r ⟨_, _, _, e, _⟩ => by rw [e]; rfl) fun cdv A outer s H0 E B vs ds r hr W hd hR => ?_
  obtain ⟨d, xs, ns, rfl, hi, hp, asc, hz, rfl⟩ := hR
  obtain ⟨v, rfl, h1⟩ := dp1 hd
  intro H sb D fin
  have hl : xs.length = ns.length := Paired.length hp
  refine ss_cons (s_if sb (tv_not (tv_val (ev_call F10 hr ⟨d, rfl, rfl⟩ (av_cons (ev_var 0 h1) av_nil)))) (fun B2 H2 n hk => ?_) fun B2 H2 n _ => ss_nil ?_)
  · rw [hi] at hk; exact absurd hk Bool.false_ne_true
  refine ss_cons (s_newL 1 n.i fun l H3 hl3 n3 M3 => ?_)
  have fl : H l = none := by
    cases e : H l with
    | none => rfl
    | some u => rw [n.h l u e] at hl3; cases hl3
  refine ss_cons (s_enum 2 3 PassesOwn.never hi n3.i (ev_var 0 ((h1.up n.b).up n3.b)) (fun i σ' B' H' => (∃ x y, σ' = [some v, some (.ref l), x, y]) ∧ Nxt B H B' H' ∧ MLst K B' H' l ((ns.take i).map nmD)) (fun B4 H4 n4 => ⟨⟨none, none, rfl⟩, (n.trans n3).trans n4, M3.nxt n4⟩) (fun i σ' B' H' T o pv hT s' => ?_) ?_ ?_ (pgn 2) (pgn 3))
  · obtain ⟨e, nn, M⟩ := pv
    exact ⟨e, nn.trans (Nxt.new s' hT), M.nxt (Nxt.new s' hT)⟩
  · intro B4 s4 i x u σ' B' H' hx pv sB sH hu
    obtain ⟨⟨y, z, rfl⟩, nn, M⟩ := pv
    obtain ⟨p, hpn, nf⟩ := paired_get hp hx
    have hil : i < ns.length := (List.getElem?_eq_some_iff.mp hpn).1
    obtain ⟨Bf, f1, f2, f3, _⟩ := M.frz sH
    have hu' := hu.up f1
    refine ss_cons (s_if (k := false) f2 (TV.is (WV.tv (wv_or (tv_not (tv_val (ev_call F12 hr ⟨x, rfl, rfl⟩ (av_cons (ev_var 3 hu') av_nil)))) fun _ => wv_or1 (WV.tv (wv_and (l := false) (tv_gt (ev_var 2 (.int i)) ev_int) fun hi0 => wv_and1 (by
      have i0 : 0 < i := by simpa using hi0
      obtain ⟨q, hq⟩ : ∃ q, ns[i - 1]? = some q := ⟨_, List.getElem?_eq_getElem (show i - 1 < ns.length by omega)⟩
      have lt : nmLt q p = true := by
        have h1 := List.getElem?_eq_some_iff.mp hq
        have h2 := List.getElem?_eq_some_iff.mp hpn
        have h3 := List.pairwise_iff_getElem.mp asc (i - 1) i (by omega) hil (by omega)
        rw [h1.2, h2.2] at h3
        exact h3
      exact TV.is (tv_leN (m := p) (n := q) (ev_tupleOf nf.1 (ev_var 3 hu')) (ev_ix rfl (atI_last i0 (by omega) hq) (ev_var 1 f3) (ev_neg ev_int))) (by rw [lt]; rfl)))))) (by rw [nf.mark]; simp)) (fun _ _ _ hk => absurd hk Bool.false_ne_true) fun B5 H5 n5 _ => ss_nil ?_)
    have m5 : Nxt B' H' B' H5 := ⟨Sub.refl _, n5.h, sH.trans n5.h, fun _ _ _ z => z⟩
    refine ss_one (s_append 1 m5.i (M.nxt m5) (ev_tupleOf nf.1 (ev_var 3 hu)) (by rw [List.length_map, List.length_take]; omega) fun B6 H6 n6 M6 => ⟨B6, sB.trans n6.b, n6.i, ⟨_, _, rfl⟩, NxtE.nxt (nn.trans m5) n6 fl, ?_⟩)
    have e : (ns.take (i + 1)).map nmD = (ns.take i).map nmD ++ [nmD p] := by rw [List.take_add_one, hpn]; simp
    rw [e]
    exact M6
  · intro σ' B' H' pv s1 s2
    obtain ⟨⟨y, z, rfl⟩, nn, M⟩ := pv
    rw [hl, List.take_length] at M
    obtain ⟨B5, n5, sB, dd⟩ := M.frzN nn fl
    exact ss_one (s_ret n5.i (ev_tupleOf rfl (ev_var 1 dd)) fun v B6 H6 n6 z => fin v B6 H6 (n5.trans n6) z)
end
end Who

namespace Who
open PySem L2 PySem.Spec PyProof.Rows
section
variable {prog : Program} {w : World} {A : Around} {E : Value → Shared → Prop} {s : Shared} {K : PySem.W.Frag}
theorem lp_item {env : Env} {m : Str → Option Value} {a : Addr} {its : Array Value} {u : Value} {j : Nat} {k : Nat} {p p2 pos : Pos} {Q : Value → Shared → Prop} (ha : s.heap.IsTuple a its) (hk : env.scope.kind = .function) (hl : env.kindOf "link" = some .local) (hn : s.heap.Ns env.locals m) (hv : m "link" = some (.ref a))
    (hj : its[j]? = some u) (h10 : j ≤ 10) (h : ∀ tk, Q u { s with toks := tk }) : wpAny (model prog w) A (eval (.Subscript (.Name "link" p) (.Constant (.int (j : Int)) k p2) pos) env) Q E s := by
  refine Subscript_ (wpAny_Name (wpAny_loadName_local hk hl hn hv (wpAny_Constant_int ?_)) (by decide))
  have hlt : j < its.size := by
    rw [← Array.length_toList]
    have := List.getElem?_eq_some_iff.mp (show its.toList[j]? = some u by simpa using hj)
    exact this.1
  have e : seqIndex? (j : Int) its.size = some j := by
    rw [seqIndex_of (by omega) (by omega)]
    simp
  exact subscriptTail_builtinR (x := u) (IsTup.typeIs ha) slot_tuple_getitem.lookup (getItem_tuple (j := j) (Q := fun r s' => r = u ∧ Q r s') ha (by omega) (by omega) e (by simpa using hj) ⟨rfl, h _⟩) rfl
theorem sc17 : FnScope ["link"] ["link"] (defScope (top 17)) := ⟨rfl, rfl, rfl, by decide +kernel, rfl, by decide +kernel, by decide +kernel⟩
/-- link_place: nothing is changed, a new triple is given -/
theorem lp_run {f : Addr} {fd : FuncData} {a : Addr} {i : Int} {t : Tok} {y z : Value} (X : K.In s.heap) (lim : s.heap.NoLimit) (F : Fun K "link_place" "link_place" (top 17) f fd) (hd : A.depth < recursionLimit) (ha : s.heap.IsTuple a #[.int i t, y, z]) :
    wpAny (model prog w) A (call (.ref f) [.ref a]) (fun v s' => ∃ h' tk, s' = { s with heap := h', toks := tk } ∧ (∀ b o, s.heap.get? b = some o → h'.get? b = some o) ∧ ∃ b t', v = .ref b ∧ h'.IsTuple b #[.int (0 - i) t', y, z]) E s := by
  obtain ⟨oc, od, kV, doc, pm, an, cdv, ct, osl, rfl, lk, hcd⟩ := F.ex
  refine wpAny_call (Att.call_fn X lim lk hcd hd (.of_eq rfl) (by rfl) (fun s₁ hc => ?_) rfl rfl rfl)
  obtain ⟨h1, tk1, rfl⟩ := hc.toInCall.same
  have kp := hc.toInCall.keep
  have ha1 : h1.IsTuple a #[.int i t, y, z] := ha.at fun o e => kp a o e
  have hn := hc.toInCall.ns
  refine wpAny_execs_cons (wpAny_Return_some (wpAny_Tuple_spliced ?_))
  refine Calls.spliced_cons (wpAny_BinOp (wpAny_Constant_int (lp_item (j := 0) (u := .int i t) ha1 rfl rfl hn rfl rfl (by decide) fun tk2 => sub_int ?_)))
  refine Calls.spliced_cons (lp_item (j := 1) (u := y) ha1 rfl rfl hn rfl rfl (by decide) fun tk3 => ?_)
  refine Calls.spliced_cons (lp_item (j := 2) (u := z) ha1 rfl rfl hn rfl rfl (by decide) fun tk4 => ?_)
  refine Calls.spliced_nil ⟨by show 3 ≤ sizeLine; decide, ?_⟩
  exact ⟨_, _, rfl, fun b o e => Heap.get?_push_of_some _ (kp b o e), _, _, rfl, ⟨_, Heap.get?_push_size _ rfl, rfl, 0, rfl⟩⟩
end
/-! links -/
abbrev Lk := Int × Nm × Nm
def lkD (l : Lk) : PyData := .tuple [.int l.1, nmD l.2.1, nmD l.2.2]
def neg1 (l : Lk) : Lk := (0 - l.1, l.2)
def placeK : PyData → PyData
  | .tuple [.int i, y, z] => .tuple [.int (0 - i), y, z]
  | d => d
theorem placeK_lk (l : Lk) : placeK (lkD l) = lkD (neg1 l) := rfl
theorem nm_reads {h : Heap} {a : Addr} {p : Nm} {t u : Tok} (x : h.IsTuple a #[.int p.1 t, .int p.2 u]) : Reads h (.ref a) (nmD p) [] := by
  obtain ⟨o, e, c, n, d⟩ := x
  exact .tuple e c d (.cons (as := []) (.int _ _) (.cons (as := []) (.int _ _) .nil))
theorem lp_key {X : Cx} {f : Addr} {fd : FuncData} (F : Fun X.K "link_place" "link_place" (top 17) f fd) (hd : X.A.depth < recursionLimit) (l : Lk) : KeyFn X (.ref f) placeK (lkD l) := by
  intro pins s σ H x v I dx rx
  obtain ⟨i, p, q⟩ := l
  obtain ⟨a, xs, rfl, hs, ha⟩ := Dp.tup_inv (show Dp X.K H x (.tuple [.int i, nmD p, nmD q]) from dx)
  obtain ⟨v1, v2, v3, rfl, d1, d2, d3⟩ := dp3 ha
  obtain rfl : v = .ref a := rx
  obtain rfl := d1.int_inv
  obtain ⟨b, rfl, hb⟩ := nm_inv d2
  obtain ⟨c, rfl, hc⟩ := nm_inv d3
  obtain ⟨its, rv, pl, hz⟩ := I.tuple hs
  obtain ⟨t1, t2, o1⟩ := nm_obj I hb
  obtain ⟨t3, t4, o2⟩ := nm_obj I hc
  cases rv with
  | cons r1 rr =>
    obtain ⟨t, rfl⟩ := r1
    obtain ⟨w1, w2, rfl, rw1, rw2⟩ := vals2 rr
    obtain rfl : w1 = .ref b := rw1
    obtain rfl : w2 = .ref c := rw2
    refine wpAny_mono (lp_run (A := X.A.in1.in1) I.kIn (I.ok.mod.nolimit.keeps I.bk) F hd pl) (fun r s' hq => ?_) fun _ _ z => z
    obtain ⟨h', tk, rfl, kp, n, t', rfl, hn⟩ := hq
    refine ⟨h', tk, rfl, kp, ?_⟩
    obtain ⟨o, e, cc, m, dd⟩ := hn
    exact .tuple e cc dd (.cons (as := []) (.int _ _) (.cons (as := []) (nm_reads (two_at o1 kp)) (.cons (as := []) (nm_reads (two_at o2 kp)) .nil)))
end Who

namespace Who
open PySem L2 PySem.Spec PyProof.Rows
section
variable {X : Cx} {e a b c o i elt tg iter : PySem.Expr} {es rest : List PySem.Expr} {pos p q p2 p3 p4 p5 px py pt : Pos} {σ : Stt} {B B1 H : Hp} {d d0 d1 d2 f : PyData} {ds es2 : List PyData} {v : V} {g : NestedKey → PyData}
theorem rd_cat (hz : ds.length + es2.length ≤ 100000) : RD X.K (rCatA X.K) (.tuple ds) (.tuple es2) (.tuple (ds ++ es2)) := fun x y A H s hx hy Q q => by
  obtain ⟨a, xs, rfl, hs, ha⟩ := hx.tup_inv
  obtain ⟨b, ys, rfl, ht, hb⟩ := hy.tup_inv
  have l1 := ha.len
  have l2 := hb.len
  refine ⟨a, b, xs, ys, rfl, rfl, sub_t s hs, sub_t s ht, ?_, fun e => ?_, fun e1 e2 => ?_, fun _ _ l hl => ?_⟩
  · have : (100000 : Nat) ≤ sizeLine := by decide
    omega
  · subst e
    have : ds = [] := List.length_eq_zero_iff.mp (by simpa using l1.symm)
    subst this
    exact q _ A H (Nxt.refl s) hy
  · subst e2
    have : es2 = [] := List.length_eq_zero_iff.mp (by simpa using l2.symm)
    subst this
    rw [List.append_nil] at q
    exact q _ A H (Nxt.refl s) hx
  · exact q _ _ _ (Nxt.new s hl) (dpT upd_same ((ha.app hb).up (Sub.updL (s.none hl))))
theorem ev_cat (hz : ds.length + es2.length ≤ 100000) (ha : EV X a σ B (.tuple ds)) (hb : EV X b σ B (.tuple es2)) : EV X (.BinOp a .Add b pos) σ B (.tuple (ds ++ es2)) := ev_op op_catA (rd_cat hz) ha hb
/-- x, y = [], {} -/
theorem s_parLD [W : Wk X] (m n : Nat) {x y : Str} {kt k2 : Nat} {D : Ends} (s : Sub B H) (q : ∀ l r H2, H l = none → H r = none → l ≠ r → Nxt B H B H2 → MLst X.K B H2 l [] → MD X.prog X.w X.K B H2 r [] g → D.nx ((σ.set m (some (.ref l))).set n (some (.ref r))) H2)
    (hi : X.N[m]? = some x := by rfl) (hj : X.N[n]? = some y := by rfl) (hij : m ≠ n := by decide) (hx : X.env.scope.names.lookup x = some .local := by rfl) (hy : X.env.scope.names.lookup y = some .local := by rfl)
    (s1 : starEach [.List [] p3, .Dict [] [] p4] X.env = (false, eval (.List [] p3) X.env) :: starEach [.Dict [] [] p4] X.env := by rfl) (s2 : starEach [.Dict [] [] p4] X.env = (false, eval (.Dict [] [] p4) X.env) :: starEach [] X.env := by rfl)
    (hw : swappedStores [.Tuple [.Name x px, .Name y py] kt pt] (.Tuple [.List [] p3, .Dict [] [] p4] k2 p2) X.env = pure (some [x, y]) := by rfl) (hs : swapsWithSole [.Tuple [.Name x px, .Name y py] kt pt] (.Tuple [.List [] p3, .Dict [] [] p4] k2 p2) pos.line X.env = pure false := by rfl) :
    wS X (.Assign [.Tuple [.Name x px, .Name y py] kt pt] (.Tuple [.List [] p3, .Dict [] [] p4] k2 p2) pos) D σ H := le_S (ps_par W.calm W.nd hi hj hij hx hy (pa_cons (pe_lst pa_nil) (pa_cons pe_nnew pa_nil s2) s1) hw hs)
  ⟨by show 0 ≤ sizeLine; decide, fun l hl r hr => by
    have hne : l ≠ r := ne_of_none (a := l) (b := r) upd_same hr
    have hr0 : H r = none := by rw [upd_ne hne.symm] at hr; exact hr
    have n1 : Nxt B H B (upd H l (.lst [])) := Nxt.mut s hl
    have n2 : Nxt B (upd H l (.lst [])) B (upd (upd H l (.lst [])) r (NdO X.prog X.w r [])) := Nxt.mut n1.i hr
    refine ⟨_, _, rfl, q l r _ hl hr0 hne (n1.trans n2) ?_ ⟨s.none hr0, [], upd_same, (by intro p hp; cases hp), rfl, (by intro p hp; cases hp)⟩⟩
    exact ⟨s.none hl, [], by rw [upd_ne hne]; exact upd_same, .nil⟩⟩
/-- sorted(e, key=f) -/
theorem ev_sortedK [W : Wk X] {x : Str} {fa : Addr} {k : PyData → PyData} (h1 : PySem.W.AllAlike (ds.map k)) (h2 : PySem.W.Sortable (ds.map k)) (h3 : ∀ d ∈ ds, (k d).depth ≤ 60) (hk : ∀ d ∈ ds, KeyFn X (.ref fa) k d) (hf : X.mg x = some (.ref fa)) (h : EV X e σ B (.list ds)) (hgx : Gl X x := by rfl) (hdx : (x == ("__debug__" : Str)) = false := by decide) (hg : Gl X "sorted" := by rfl)
    (hs : starEach [e] X.env = (false, eval e X.env) :: starEach [] X.env := by rfl)
    (he : backTo pos (starEach [e] X.env) = (false, eval e X.env) :: backTo pos (starEach [] X.env) := by rfl) (hpl : (backTo pos (starEach [e] X.env)).any (·.1) = false := by rfl)
    (hall : (backToKw pos (keywordEach [⟨some "key", .Name x p2, p3⟩] X.env)).all (·.1.isSome) = true := by rfl) (hnone : (backToKw pos (keywordEach [⟨some "key", .Name x p2, p3⟩] X.env)).any (·.1.isNone) = false := by rfl) (hks : (backToKw pos (keywordEach [⟨some "key", .Name x p2, p3⟩] X.env)).filterMap (·.1) = [Str.ofString "key"] := by rfl) :
    EV X (.Call (.Name "sorted" p) [e] [⟨some "key", .Name x p2, p3⟩] pos) σ B (.list (ds.mergeSort (keyLe k))) :=
  EV.by (pe_callBK (cr_sortK (f := fa) (k := k) (un65 X)) hg (nobx X _ (by decide)) boot_sorted' (pa_cons pe_w pa_nil hs) (pk_cons (pe_glob (v := .ref fa) hgx hf rfl hdx) pk_nil) (by decide) (by decide) he hpl hall hnone hks)
    fun H1 z Q q => h H1 z _ fun v B2 H2 n p => by
      obtain ⟨a, ys, rfl, hs, ha⟩ := p.lst_inv
      exact ⟨a, ys, ds, B2, rfl, rfl, n.i, sub_l n.i hs, ha, h1, h2, h3, hk, fun l zs hl hz => q _ _ _ (n.trans (Nxt.new n.i hl)) (dpL upd_same (hz.up (Sub.updL (n.i.none hl))))⟩
end
/-! keys -/
def nmK (p : Nm) : NestedKey := .tup [.num p.1, .num p.2]
def prK (p : Nm × Nm) : NestedKey := .tup [nmK p.1, nmK p.2]
theorem kD_nm (p : Nm) : kD (nmK p) = nmD p := by simp [nmK, kD, kDs, nmD]
theorem kD_pr (p : Nm × Nm) : kD (prK p) = prD p := by simp [prK, kD, kDs, kD_nm, prD]
theorem ok_nm (p : Nm) : okKey (nmK p) = true := by simp [okKey, nmK, NestedKey.depth, NestedKey.depthAll]
theorem ok_pr (p : Nm × Nm) : okKey (prK p) = true := by simp [okKey, prK, nmK, NestedKey.depth, NestedKey.depthAll]
theorem nmK_inj {p q : Nm} (h : nmK p = nmK q) : p = q := by
  obtain ⟨a, b⟩ := p
  obtain ⟨c, d⟩ := q
  unfold nmK at h
  injection h with h
  injection h with h1 h
  injection h with h2 _
  injection h1 with h1
  injection h2 with h2
  simp only at h1 h2
  rw [h1, h2]
theorem prK_inj {p q : Nm × Nm} (h : prK p = prK q) : p = q := by
  obtain ⟨a, b⟩ := p
  obtain ⟨c, d⟩ := q
  unfold prK at h
  injection h with h
  injection h with h1 h
  injection h with h2 _
  have e1 := nmK_inj h1
  have e2 := nmK_inj h2
  simp only at e1 e2
  rw [e1, e2]
theorem alike_lks {l l' : Lk} : PySem.W.alike (lkD l) (lkD l') = true := by simp [lkD, nmD, PySem.W.alike, PySem.W.alikeAll]
theorem depth_lk (l : Lk) : (lkD l).depth ≤ 60 := by
  have : (lkD l).depth ≤ 3 := by simp [lkD, nmD, PyData.depth, PyData.depthAll]
  omega
section
variable {P : Program} {w : World} {K : PySem.W.Frag} {mg : Str → Option Value} {base : Heap} {f : Addr} {fd : FuncData}
def LkF (ns : List Nm) (x : PyData) (l : Lk) : Prop := ∃ a b, items x = some [.int l.1, a, b] ∧ NmF a l.2.1 ∧ NmF b l.2.2 ∧ l.2.1 ∈ ns ∧ l.2.2 ∈ ns ∧ nmLt l.2.1 l.2.2 = true
theorem sc18 : FnScope ["names", "value", "found", "pairs", "at", "link"] ["names", "value"] (defScope (top 18)) := ⟨rfl, rfl, rfl, by decide +kernel, rfl, by decide +kernel, by decide +kernel⟩
def lksD (ls : List Lk) : PyData := .tuple ((ls.map lkD).mergeSort (keyLe placeK))
def R18 (ds : List PyData) (r : PyData) : Prop := ∃ (ns : List Nm) (d : PyData) (xs : List PyData) (ls : List Lk), ds = [.tuple (ns.map nmD), d] ∧ items d = some xs ∧ Paired (LkF ns) xs ls ∧ (ls.map (·.2)).Nodup ∧ ls.length ≤ 1000 ∧ r = lksD ls
theorem ok18 (F : Fun K "need_links" "need_links" (top 18) f fd) (nb : NoGl mg) (F10 : Dfn P w K mg base 1 "is_sequence" ["value"] (spR K R10)) (F15 : Dfn P w K mg base 5 "is_link_of" ["names", "value"] (spR K R15)) (F16 : Dfn P w K mg base 1 "frozen_pair" ["value"] (spR K R16))
    {f17 : Addr} {fd17 : FuncData} (F17 : Fun K "link_place" "link_place" (top 17) f17 fd17) (m17 : mg "link_place" = some (.ref f17)) : FnOk P w K mg base CX0 6 f fd ["names", "value"] (spR K R18) := by
  refine pure_fn F sc18 nb (fun ds r ⟨_, _, _, _, e, _⟩ => by rw [e]; rfl) fun cdv A outer s H0 E B vs ds r hr W hd hR => ?_
  obtain ⟨ns, d, xs, ls, rfl, hi, hp, nd, hz, rfl⟩ := hR
  obtain ⟨v1, v2, rfl, h1, h2⟩ := dp2 hd
  intro H sb D fin
  have hl : xs.length = ls.length := Paired.length hp
  refine ss_cons (s_if sb (tv_not (tv_val (ev_call F10 hr ⟨d, rfl, rfl⟩ (av_cons (ev_var 1 h2) av_nil)))) (fun B2 H2 n hk => ?_) fun B2 H2 n _ => ss_nil ?_)
  · rw [hi] at hk; exact absurd hk Bool.false_ne_true
  refine ss_cons (s_parLD (g := fun _ => .bool true) 2 3 n.i fun l r H3 hl3 hr3 hne n3 ML MG => ?_)
  have fl : H l = none := by
    cases e : H l with
    | none => rfl
    | some u => rw [n.h l u e] at hl3; cases hl3
  have fr : H r = none := by
    cases e : H r with
    | none => rfl
    | some u => rw [n.h r u e] at hr3; cases hr3
  refine ss_cons (s_enum 4 5 PassesOwn.never hi n3.i (ev_var 1 ((h2.up n.b).up n3.b)) (fun i σ' B' H' => (∃ x y, σ' = [some v1, some v2, some (.ref l), some (.ref r), x, y]) ∧ Nxt B H B' H' ∧ MLst K B' H' l ((ls.take i).map lkD) ∧ ∃ g, MD P w K B' H' r ((ls.take i).map fun z => prK z.2) g) (fun B4 H4 n4 => ⟨⟨none, none, rfl⟩, (n.trans n3).trans n4, ML.nxt n4, _, MG.nxt n4⟩) (fun i σ' B' H' T o pv hT s' => ?_) ?_ ?_ (pgn 4) (pgn 5))
  · obtain ⟨e, nn, M, g, G⟩ := pv
    exact ⟨e, nn.trans (Nxt.new s' hT), M.nxt (Nxt.new s' hT), g, G.nxt (Nxt.new s' hT)⟩
  · intro B4 s4 i x u σ' B' H' hx pv sB sH hu
    obtain ⟨⟨y, z, rfl⟩, nn, M, g, G⟩ := pv
    obtain ⟨lk, hln, a, b, hit, na, nb', ma, mb, lt⟩ := paired_get hp hx
    have hil : i < ls.length := (List.getElem?_eq_some_iff.mp hln).1
    have e3 : items (likeD x (cutD [.int lk.1, a, b] (some 1) none)) = some [a, b] := by rw [likeD_items hit]; rfl
    have fresh : prK lk.2 ∉ (ls.take i).map fun z => prK z.2 := fun h => by
      obtain ⟨q, hq, e⟩ := List.mem_map.mp h
      obtain ⟨j, hj, ej⟩ := List.mem_iff_getElem.mp hq
      rw [List.length_take] at hj
      have e1 : ls[j]'(by omega) = q := by rw [← ej, List.getElem_take]
      have e2 : ls[i] = lk := (List.getElem?_eq_some_iff.mp hln).2
      have h3 := List.pairwise_iff_getElem.mp nd j i (by rw [List.length_map]; omega) (by rw [List.length_map]; exact hil) (by omega)
      rw [List.getElem_map, List.getElem_map, e1, e2] at h3
      exact h3 (prK_inj e)
    obtain ⟨Bf, f1, f2, f3⟩ := G.frz sH
    have hu' := hu.up f1
    have g1 := (h1.up (n.b.trans n3.b)).up (s4.trans sB)
    refine ss_cons (s_if (k := false) f2 (TV.is (WV.tv (wv_or (tv_not (tv_val (ev_call F15 hr ⟨ns, x, lk.1, a, b, lk.2.1, lk.2.2, rfl, hit, na, nb', ma, mb, lt, rfl⟩ (av_cons (ev_var 0 (g1.up f1)) (av_cons (ev_var 5 hu') av_nil))))) fun _ => wv_or1 (tv_nin' 3 f3 (ok_pr lk.2) (EV.is (ev_call F16 hr ⟨_, a, b, lk.2.1, lk.2.2, rfl, e3, na, nb', rfl⟩ (av_cons (ev_from hit (ev_var 5 hu') ev_int) av_nil)) (kD_pr lk.2).symm)))) (by rw [decide_eq_false fresh]; rfl)) (fun _ _ _ hk => absurd hk Bool.false_ne_true) fun B5 H5 n5 _ => ss_nil ?_)
    have m5 : Nxt B' H' B' H5 := ⟨Sub.refl _, n5.h, sH.trans n5.h, fun _ _ _ z => z⟩
    have G5 := G.nxt m5
    have M5 := M.nxt m5
    refine ss_cons (s_nput 3 m5.i G5 (ok_pr lk.2) (by rw [List.length_map, List.length_take]; omega) ev_bl (EV.is (ev_call F16 hr ⟨_, a, b, lk.2.1, lk.2.2, rfl, e3, na, nb', rfl⟩ (av_cons (ev_from hit (ev_var 5 hu) ev_int) av_nil)) (kD_pr lk.2).symm) fun B6 H6 n6 G6 => ?_)
    have M6 := M5.nxtE n6 hne
    have nn6 := NxtE.nxt (nn.trans m5) n6 fr
    have hu6 := hu.up n6.b
    refine ss_one (s_append 2 n6.i M6 (EV.is (ev_cat (ds := [.int lk.1]) (es2 := [nmD lk.2.1, nmD lk.2.2]) (by show 3 ≤ 100000; decide) (ev_tup (av_cons (ev_ix hit rfl (ev_var 5 hu6) ev_int) av_nil) (by show 1 ≤ 100000; decide)) (ev_call F16 hr ⟨_, a, b, lk.2.1, lk.2.2, rfl, e3, na, nb', rfl⟩ (av_cons (ev_from hit (ev_var 5 hu6) ev_int) av_nil))) (f := lkD lk) rfl) (by rw [List.length_map, List.length_take]; omega) fun B7 H7 n7 M7 => ⟨B7, (sB.trans n6.b).trans n7.b, n7.i, ⟨_, _, rfl⟩, NxtE.nxt nn6 n7 fl, ?_, ?_⟩)
    · have e : (ls.take (i + 1)).map lkD = (ls.take i).map lkD ++ [lkD lk] := by rw [List.take_add_one, hln]; simp
      rw [e]
      exact M7
    · have e : (ls.take (i + 1)).map (fun z => prK z.2) = ksPut ((ls.take i).map fun z => prK z.2) (prK lk.2) := by
        unfold ksPut
        rw [if_neg fresh, List.take_add_one, hln]; simp
      rw [e]
      exact ⟨_, G6.nxtE n7 hne.symm⟩
  · intro σ' B' H' pv s1 s2
    obtain ⟨⟨y, z, rfl⟩, nn, M, g, G⟩ := pv
    rw [hl, List.take_length] at M
    obtain ⟨B5, n5, sB, dd⟩ := M.frzN nn fl
    have mm : (ls.map lkD).map placeK = ls.map fun l => lkD (neg1 l) := by rw [List.map_map]; rfl
    refine ss_one (s_ret n5.i (ev_tupleOf rfl (ev_sortedK (fa := f17) (k := placeK) ?_ ?_ ?_ ?_ m17 (ev_var 2 dd))) fun v B6 H6 n6 z => fin v B6 H6 (n5.trans n6) z)
    · rw [mm]
      intro d hd d' hd'
      obtain ⟨x, _, rfl⟩ := List.mem_map.mp hd
      obtain ⟨x', _, rfl⟩ := List.mem_map.mp hd'
      exact alike_lks
    · rw [mm]
      refine .inl fun d hd => ?_
      obtain ⟨x, _, rfl⟩ := List.mem_map.mp hd
      exact ⟨_, _, rfl⟩
    · intro d hd
      obtain ⟨x, _, rfl⟩ := List.mem_map.mp hd
      exact depth_lk (neg1 x)
    · intro d hd
      obtain ⟨x, _, rfl⟩ := List.mem_map.mp hd
      exact lp_key F17 hr.depth x
end
end Who

namespace Who
open PySem L2 PySem.Spec PyProof.Rows
theorem MD.frzN {P : Program} {w : World} {K : PySem.W.Frag} {B H B0 H0 : Hp} {d : Addr} {ks : List NestedKey} {g : NestedKey → PyData} (m : MD P w K B H d ks g) (n : Nxt B0 H0 B H) (hd : H0 d = none) : ∃ B', Nxt B0 H0 B' H ∧ Sub B B' ∧ FD P w K B' d ks g := by
  obtain ⟨ps, h1, h2, h3, h4⟩ := m.h
  have e := Sub.updL (o := NdO P w d ps) m.b
  exact ⟨_, n.frz hd h1 m.b, e, ps, upd_same, h2.up e, h3, fun p hp => (h4 p hp).up e⟩
theorem Nxt.back {B H B2 H2 : Hp} (n : Nxt B H B2 H2) {l : Addr} (h : H2 l = none) : H l = none := by
  cases e : H l with
  | none => rfl
  | some u => rw [n.h l u e] at h; cases h
section
variable {X : Cx} {e a b c o i elt tg iter : PySem.Expr} {es rest : List PySem.Expr} {pos p q p2 p3 p4 p5 px py pt : Pos} {σ : Stt} {B B1 H : Hp} {d d0 d1 d2 f : PyData} {ds es2 : List PyData} {v : V} {g : NestedKey → PyData} {m : Addr} {ks : List NestedKey}
theorem keysDp {K : PySem.W.Frag} : ∀ {ps : List NP}, KeysAt K B ps → DpAll K B (ps.map fun q => V.ref q.2.1) ((ps.map (·.1)).map kD)
  | [], _ => .nil
  | p :: ps, h => .cons (h p List.mem_cons_self).1 (keysDp fun q hq => h q (List.mem_cons_of_mem _ hq))
theorem ev_listD [W : Wk X] (n : Nat) {x : Str} (F : FD X.prog X.w X.K B m ks g) (h0 : σ[n]? = some (some (.ref m)) := by rfl) (hN : X.N[n]? = some x := by rfl)
    (hv : Vis X.env.scope x := by first | exact Or.inl rfl | exact Or.inr (Or.inl rfl) | exact Or.inr (Or.inr rfl)) (hd : (x == ("__debug__" : Str)) = false := by decide) (hcd : (x == ("__classdict__" : Str)) = false := by decide) (hg : Gl X "list" := by rfl)
    (s1 : starEach [.Name x p2] X.env = (false, eval (.Name x p2) X.env) :: starEach [] X.env := by rfl) : EV X (.Call (.Name "list" p) [.Name x p2] [] pos) σ B (.list (ks.map kD)) :=
  EV.by (pe_callTy (call_list_nd W.calm) hg (nobx X _ (by decide)) boot_list' (pa_cons (pe_var hN hv hd hcd) pa_nil s1) (by decide) (by decide) s1) fun H1 z Q q => ⟨_, h0, by
    obtain ⟨ps, h1, h2, h3, h4⟩ := F
    refine ⟨m, ps, rfl, z m _ h1, fun l hl => q _ _ _ (Nxt.new z hl) (dpL upd_same ?_)⟩
    have dd := (keysDp h2).up (Sub.updL (o := HO.lst (ps.map fun q => V.ref q.2.1)) (z.none hl))
    rw [h3] at dd
    exact dd⟩
end
theorem alike_prs {l l' : Nm × Nm} : PySem.W.alike (prD l) (prD l') = true := by simp [prD, nmD, PySem.W.alike, PySem.W.alikeAll]
theorem depth_pr (l : Nm × Nm) : (prD l).depth ≤ 60 := by
  have : (prD l).depth ≤ 3 := by simp [prD, nmD, PyData.depth, PyData.depthAll]
  omega
section
variable {P : Program} {w : World} {K : PySem.W.Frag} {mg : Str → Option Value} {base : Heap} {f : Addr} {fd : FuncData}
def BrF (ns : List Nm) (x : PyData) (l : Nm × Nm) : Prop := ∃ a b, items x = some [a, b] ∧ NmF a l.1 ∧ NmF b l.2 ∧ l.1 ∈ ns ∧ l.2 ∈ ns ∧ nmLt l.1 l.2 = true
def brsD (bs : List (Nm × Nm)) : PyData := .tuple ((bs.map prD).mergeSort (keyLe id))
theorem sc19 : FnScope ["names", "value", "found", "at", "bar"] ["names", "value"] (defScope (top 19)) := ⟨rfl, rfl, rfl, by decide +kernel, rfl, by decide +kernel, by decide +kernel⟩
def R19 (ds : List PyData) (r : PyData) : Prop := ∃ (ns : List Nm) (d : PyData) (xs : List PyData) (bs : List (Nm × Nm)), ds = [.tuple (ns.map nmD), d] ∧ items d = some xs ∧ Paired (BrF ns) xs bs ∧ bs.Nodup ∧ bs.length ≤ 1000 ∧ r = brsD bs
theorem ok19 (F : Fun K "need_bars" "need_bars" (top 19) f fd) (nb : NoGl mg) (F10 : Dfn P w K mg base 1 "is_sequence" ["value"] (spR K R10)) (F14 : Dfn P w K mg base 4 "is_pair_of" ["names", "value"] (spR K R14)) (F16 : Dfn P w K mg base 1 "frozen_pair" ["value"] (spR K R16)) : FnOk P w K mg base CX0 6 f fd ["names", "value"] (spR K R19) := by
  refine pure_fn F sc19 nb (fun ds r ⟨_, _, _, _, e, _⟩ => by rw [e]; rfl) fun cdv A outer s H0 E B vs ds r hr W hd hR => ?_
  obtain ⟨ns, d, xs, bs, rfl, hi, hp, nd, hz, rfl⟩ := hR
  obtain ⟨v1, v2, rfl, h1, h2⟩ := dp2 hd
  intro H sb D fin
  have hl : xs.length = bs.length := Paired.length hp
  refine ss_cons (s_if sb (tv_not (tv_val (ev_call F10 hr ⟨d, rfl, rfl⟩ (av_cons (ev_var 1 h2) av_nil)))) (fun B2 H2 n hk => ?_) fun B2 H2 n _ => ss_nil ?_)
  · rw [hi] at hk; exact absurd hk Bool.false_ne_true
  refine ss_cons (s_newD (g := fun _ => .bool true) 2 n.i fun r H3 hr3 n3 MG => ?_)
  have fr : H r = none := by
    cases e : H r with
    | none => rfl
    | some u => rw [n.h r u e] at hr3; cases hr3
  refine ss_cons (s_enum 3 4 PassesOwn.never hi n3.i (ev_var 1 ((h2.up n.b).up n3.b)) (fun i σ' B' H' => (∃ x y, σ' = [some v1, some v2, some (.ref r), x, y]) ∧ Nxt B H B' H' ∧ ∃ g, MD P w K B' H' r ((bs.take i).map prK) g) (fun B4 H4 n4 => ⟨⟨none, none, rfl⟩, (n.trans n3).trans n4, _, MG.nxt n4⟩) (fun i σ' B' H' T o pv hT s' => ?_) ?_ ?_ (pgn 3) (pgn 4))
  · obtain ⟨e, nn, g, G⟩ := pv
    exact ⟨e, nn.trans (Nxt.new s' hT), g, G.nxt (Nxt.new s' hT)⟩
  · intro B4 s4 i x u σ' B' H' hx pv sB sH hu
    obtain ⟨⟨y, z, rfl⟩, nn, g, G⟩ := pv
    obtain ⟨lk, hln, a, b, hit, na, nb', ma, mb, lt⟩ := paired_get hp hx
    have hil : i < bs.length := (List.getElem?_eq_some_iff.mp hln).1
    have fresh : prK lk ∉ (bs.take i).map prK := fun h => by
      obtain ⟨q, hq, e⟩ := List.mem_map.mp h
      obtain ⟨j, hj, ej⟩ := List.mem_iff_getElem.mp hq
      rw [List.length_take] at hj
      have e1 : bs[j]'(by omega) = q := by rw [← ej, List.getElem_take]
      have e2 : bs[i] = lk := (List.getElem?_eq_some_iff.mp hln).2
      have h3 := List.pairwise_iff_getElem.mp nd j i (by omega) hil (by omega)
      rw [e1, e2] at h3
      exact h3 (prK_inj e)
    obtain ⟨Bf, f1, f2, f3⟩ := G.frz sH
    have hu' := hu.up f1
    have g1 := (h1.up (n.b.trans n3.b)).up (s4.trans sB)
    refine ss_cons (s_if (k := false) f2 (TV.is (WV.tv (wv_or (tv_not (tv_val (ev_call F14 hr ⟨ns, x, a, b, lk.1, lk.2, rfl, hit, na, nb', ma, mb, lt, rfl⟩ (av_cons (ev_var 0 (g1.up f1)) (av_cons (ev_var 4 hu') av_nil))))) fun _ => wv_or1 (tv_nin' 2 f3 (ok_pr lk) (EV.is (ev_call F16 hr ⟨_, a, b, lk.1, lk.2, rfl, hit, na, nb', rfl⟩ (av_cons (ev_var 4 hu') av_nil)) (kD_pr lk).symm)))) (by rw [decide_eq_false fresh]; rfl)) (fun _ _ _ hk => absurd hk Bool.false_ne_true) fun B5 H5 n5 _ => ss_nil ?_)
    have m5 : Nxt B' H' B' H5 := ⟨Sub.refl _, n5.h, sH.trans n5.h, fun _ _ _ z => z⟩
    have G5 := G.nxt m5
    refine ss_one (s_nput 2 m5.i G5 (ok_pr lk) (by rw [List.length_map, List.length_take]; omega) ev_bl (EV.is (ev_call F16 hr ⟨_, a, b, lk.1, lk.2, rfl, hit, na, nb', rfl⟩ (av_cons (ev_var 4 hu) av_nil)) (kD_pr lk).symm) fun B6 H6 n6 G6 => ⟨B6, sB.trans n6.b, n6.i, ⟨_, _, rfl⟩, NxtE.nxt (nn.trans m5) n6 fr, ?_⟩)
    have e : (bs.take (i + 1)).map prK = ksPut ((bs.take i).map prK) (prK lk) := by
      unfold ksPut
      rw [if_neg fresh, List.take_add_one, hln]; simp
    rw [e]
    exact ⟨_, G6⟩
  · intro σ' B' H' pv s1 s2
    obtain ⟨⟨y, z, rfl⟩, nn, g, G⟩ := pv
    rw [hl, List.take_length] at G
    obtain ⟨Bf, nf, f1, f3⟩ := G.frzN nn fr
    have mm : (bs.map prK).map kD = bs.map prD := by rw [List.map_map]; exact List.map_congr_left fun p _ => kD_pr p
    refine ss_one (s_ret nf.i (ev_tupleOf rfl (ev_sorted ?_ ?_ ?_ (EV.is (ev_listD 2 f3) (by rw [mm])))) fun v B6 H6 n6 z => fin v B6 H6 (nf.trans n6) z)
    · intro d hd d' hd'
      obtain ⟨x, _, rfl⟩ := List.mem_map.mp hd
      obtain ⟨x', _, rfl⟩ := List.mem_map.mp hd'
      exact alike_prs
    · refine .inl fun d hd => ?_
      obtain ⟨x, _, rfl⟩ := List.mem_map.mp hd
      exact ⟨_, _, rfl⟩
    · intro d hd
      obtain ⟨x, _, rfl⟩ := List.mem_map.mp hd
      exact depth_pr x
/-! the web -/
theorem sc20 : FnScope ["names", "links", "bars"] ["names", "links", "bars"] (defScope (top 20)) := ⟨rfl, rfl, rfl, by decide +kernel, rfl, by decide +kernel, by decide +kernel⟩
/-- right names, links, bars in any form -/
def NmsF (d : PyData) (ns : List Nm) : Prop := ∃ xs, items d = some xs ∧ Paired NmF xs ns ∧ Asc ns ∧ ns.length ≤ 1000
def LksF (ns : List Nm) (d : PyData) (ls : List Lk) : Prop := ∃ xs, items d = some xs ∧ Paired (LkF ns) xs ls ∧ (ls.map (·.2)).Nodup ∧ ls.length ≤ 1000
def BrsF (ns : List Nm) (d : PyData) (bs : List (Nm × Nm)) : Prop := ∃ xs, items d = some xs ∧ Paired (BrF ns) xs bs ∧ bs.Nodup ∧ bs.length ≤ 1000
def nmsD (ns : List Nm) : PyData := .tuple (ns.map nmD)
def R20 (ds : List PyData) (r : PyData) : Prop := ∃ (ns : List Nm) (ls : List Lk) (bs : List (Nm × Nm)) (d1 d2 d3 : PyData), ds = [d1, d2, d3] ∧ NmsF d1 ns ∧ LksF ns d2 ls ∧ BrsF ns d3 bs ∧ r = .tuple [nmsD ns, lksD ls, brsD bs]
theorem ok20 (F : Fun K "need_web" "need_web" (top 20) f fd) (nb : NoGl mg) (F13 : Dfn P w K mg base 4 "need_people_names" ["value"] (spR K R13)) (F18 : Dfn P w K mg base 6 "need_links" ["names", "value"] (spR K R18)) (F19 : Dfn P w K mg base 6 "need_bars" ["names", "value"] (spR K R19)) :
    FnOk P w K mg base CX0 7 f fd ["names", "links", "bars"] (spR K R20) := by
  refine pure_fn F sc20 nb (fun ds r ⟨_, _, _, _, _, _, e, _⟩ => by rw [e]; rfl) fun cdv A outer s H0 E B vs ds r hr W hd hR => ?_
  obtain ⟨ns, ls, bs, d1, d2, d3, rfl, ⟨x1, i1, p1, asc, z1⟩, ⟨x2, i2, p2, n2, z2⟩, ⟨x3, i3, p3, n3, z3⟩, rfl⟩ := hR
  obtain ⟨v1, v2, v3, rfl, h1, h2, h3⟩ := dp3 hd
  intro H sb D fin
  refine ss_cons (s_set 0 sb (ev_call F13 hr ⟨d1, x1, ns, rfl, i1, p1, asc, z1, rfl⟩ (av_cons (ev_var 0 h1) av_nil)) fun u B2 H2 n hu => ?_)
  have g2 := h2.up n.b
  have g3 := h3.up n.b
  exact ss_one (s_ret n.i (ev_tup (av_cons (ev_var 0 hu) (av_cons (ev_call F18 hr ⟨ns, d2, x2, ls, rfl, i2, p2, n2, z2, rfl⟩ (av_cons (ev_var 0 hu) (av_cons (ev_var 1 g2) av_nil))) (av_cons (ev_call F19 hr ⟨ns, d3, x3, bs, rfl, i3, p3, n3, z3, rfl⟩ (av_cons (ev_var 0 hu) (av_cons (ev_var 2 g3) av_nil))) av_nil))) (by show 3 ≤ 100000; decide)) fun v B4 H4 l z => fin v B4 H4 (n.trans l) z)
theorem sc21 : FnScope ["names", "links"] ["names", "links"] (defScope (top 21)) := ⟨rfl, rfl, rfl, by decide +kernel, rfl, by decide +kernel, by decide +kernel⟩
def R21 (ds : List PyData) (r : PyData) : Prop := ∃ (ns : List Nm) (ls : List Lk) (d1 d2 : PyData), ds = [d1, d2] ∧ NmsF d1 ns ∧ LksF ns d2 ls ∧ r = lksD ls
theorem ok21 (F : Fun K "link_order" "link_order" (top 21) f fd) (nb : NoGl mg) (F13 : Dfn P w K mg base 4 "need_people_names" ["value"] (spR K R13)) (F18 : Dfn P w K mg base 6 "need_links" ["names", "value"] (spR K R18)) :
    FnOk P w K mg base CX0 7 f fd ["names", "links"] (spR K R21) := by
  refine pure_fn F sc21 nb (fun ds r ⟨_, _, _, _, e, _⟩ => by rw [e]; rfl) fun cdv A outer s H0 E B vs ds r hr W hd hR => ?_
  obtain ⟨ns, ls, d1, d2, rfl, ⟨x1, i1, p1, asc, z1⟩, ⟨x2, i2, p2, n2, z2⟩, rfl⟩ := hR
  obtain ⟨v1, v2, rfl, h1, h2⟩ := dp2 hd
  exact ret_one (ev_call F18 hr ⟨ns, d2, x2, ls, rfl, i2, p2, n2, z2, rfl⟩ (av_cons (ev_call F13 hr ⟨d1, x1, ns, rfl, i1, p1, asc, z1, rfl⟩ (av_cons (ev_var 0 h1) av_nil)) (av_cons (ev_var 1 h2) av_nil)))
end
end Who

/-! Who: reading what a body changes: the dict stands in the base for the time of one reading. -/
namespace Who
open PySem L2 PySem.Spec PyProof.Rows
def del (B : Hp) (m : Addr) : Hp := fun b => if b = m then none else B b
theorem del_ne {B : Hp} {m a : Addr} (h : a ≠ m) : del B m a = B a := by unfold del; rw [if_neg h]
theorem del_eq {B : Hp} {m : Addr} : del B m m = none := by unfold del; rw [if_pos rfl]
theorem del_sub {B : Hp} {m : Addr} : Sub (del B m) B := fun a o h => by
  by_cases e : a = m
  · subst e; rw [del_eq] at h; cases h
  · rw [del_ne e] at h; exact h
end Who
namespace L2
open PySem Who
section
variable {K : PySem.W.Frag} {B : Hp} {m : Addr} {φ : Heap → Prop}
theorem rd_del (hm : B m = some (.ext φ)) {a : Addr} {u : HO} (nu : ∀ ψ, u ≠ .ext ψ) (h : Rd B a u) : Rd (del B m) a u := by
  have ne : a ≠ m := fun e => by
    subst e
    rcases h with h | ⟨o, h⟩
    · rw [hm] at h; cases h; exact nu _ rfl
    · rw [hm] at h; cases h
  rcases h with h | ⟨o, h⟩
  · exact .inl (by rw [del_ne ne]; exact h)
  · exact .inr ⟨o, by rw [del_ne ne]; exact h⟩
mutual
theorem Dp.del (hm : B m = some (.ext φ)) : ∀ (d : PyData) (v : V), Dp K B v d → Dp K (Who.del B m) v d
  | .none, _, h => by cases h; exact .non
  | .bool b, _, h => by cases h; exact .bl b
  | .int i, _, h => by cases h; exact .int i
  | .str x, _, h => by cases h; exact .str x
  | .list ds, _, h => by
    cases h with
    | lst hs ha => exact .lst (hs.imp (rd_del hm fun _ z => nomatch z) id) (DpAll.del hm ds _ ha)
  | .tuple ds, _, h => by
    cases h with
    | tup hs ha => exact .tup (hs.imp (rd_del hm fun _ z => nomatch z) id) (DpAll.del hm ds _ ha)
  | .dict _, _, h => by cases h
theorem DpAll.del (hm : B m = some (.ext φ)) : ∀ (ds : List PyData) (vs : List V), DpAll K B vs ds → DpAll K (Who.del B m) vs ds
  | [], _, h => by cases h; exact .nil
  | d :: ds, _, h => by
    cases h with
    | cons h1 h2 => exact .cons (Dp.del hm d _ h1) (DpAll.del hm ds _ h2)
end
end
end L2
namespace Who
open PySem L2 PySem.Spec PyProof.Rows
theorem Nxt.thaw {B H B2 H2 : Hp} {m : Addr} {o : HO} (hb : B m = none) (n : Nxt (upd B m o) H B2 H2) : Nxt B H (del B2 m) H2 :=
  ⟨fun a u h => by
    have e : a ≠ m := ne_of_none h hb
    rw [del_ne e]
    exact n.b a u (by rw [upd_ne e]; exact h), n.h, del_sub.trans n.i, fun a u h z => by
    by_cases e : a = m
    · subst e; exact del_eq
    · rw [del_ne e]; exact n.av a u h (by rw [upd_ne e]; exact z)⟩
/-- at one heap -/
def EVH (X : Cx) (e : PySem.Expr) (σ : Stt) (B H : Hp) (d : PyData) : Prop := ∀ Q : VK, (∀ v B2 H2, Nxt B H B2 H2 → Dp X.K B2 v d → Q v H2) → wE X e σ H Q
def AVH (X : Cx) (es : List PySem.Expr) (σ : Stt) (B H : Hp) (ds : List PyData) : Prop := ∀ Q : List V → Hp → Prop, (∀ vs B2 H2, Nxt B H B2 H2 → DpAll X.K B2 vs ds → Q vs H2) → wA X es σ H Q
def TVH (X : Cx) (e : PySem.Expr) (σ : Stt) (B H : Hp) (k : Bool) : Prop := ∀ Q : Bool → Hp → Prop, (∀ H2, Nxt B H B H2 → Q k H2) → wT X e σ H Q
section
variable {X : Cx} {e a b c o i elt tg iter : PySem.Expr} {es rest : List PySem.Expr} {pos p q p2 p3 p4 p5 px py pt : Pos} {σ : Stt} {B B1 Bf H : Hp} {d d0 d1 d2 f : PyData} {ds es2 : List PyData} {v : V} {g : NestedKey → PyData} {m : Addr} {ks : List NestedKey} {G : TG} {body : List Stmt}
theorem EV.h (h : EV X e σ B d) (s : Sub B H) : EVH X e σ B H d := fun Q q => h H s Q q
theorem AV.h (h : AV X es σ B ds) (s : Sub B H) : AVH X es σ B H ds := fun Q q => h H s Q q
theorem TV.h {k : Bool} (h : TV X e σ Bf k) (s : Sub B Bf) (sf : Sub Bf H) : TVH X e σ B H k := fun Q q => h H sf Q fun B2 H2 n => q H2 ⟨Sub.refl B, n.h, (s.trans sf).trans n.h, fun _ _ _ z => z⟩
theorem EVH.is (h : EVH X e σ B H d) (q : d = f) : EVH X e σ B H f := q ▸ h
theorem TVH.is {k l : Bool} (h : TVH X e σ B H k) (q : k = l) : TVH X e σ B H l := q ▸ h
theorem MD.look (M : MD X.prog X.w X.K B H m ks g) (s : Sub B H) (k : ∀ Bf, Sub B Bf → Sub Bf H → FD X.prog X.w X.K Bf m ks g → EV X e σ Bf d) : EVH X e σ B H d := fun Q q => by
  obtain ⟨ps, h1, h2, h3, h4⟩ := M.h
  have e := Sub.updL (o := NdO X.prog X.w m ps) M.b
  have sf : Sub (upd B m (NdO X.prog X.w m ps)) H := fun a o z => by
    by_cases q : a = m
    · subst q; rw [upd_same] at z; cases z; exact h1
    · rw [upd_ne q] at z; exact s a o z
  refine k _ e sf ⟨ps, upd_same, h2.up e, h3, fun p hp => (h4 p hp).up e⟩ H sf Q fun v B2 H2 n dp => q v _ H2 (n.thaw M.b) (Dp.del (n.b m _ upd_same) d v dp)
theorem MD.looks (M : MD X.prog X.w X.K B H m ks g) (s : Sub B H) (k : ∀ Bf, Sub B Bf → Sub Bf H → FD X.prog X.w X.K Bf m ks g → AV X es σ Bf ds) : AVH X es σ B H ds := fun Q q => by
  obtain ⟨ps, h1, h2, h3, h4⟩ := M.h
  have e := Sub.updL (o := NdO X.prog X.w m ps) M.b
  have sf : Sub (upd B m (NdO X.prog X.w m ps)) H := fun a o z => by
    by_cases q : a = m
    · subst q; rw [upd_same] at z; cases z; exact h1
    · rw [upd_ne q] at z; exact s a o z
  refine k _ e sf ⟨ps, upd_same, h2.up e, h3, fun p hp => (h4 p hp).up e⟩ H sf Q fun v B2 H2 n dp => q v _ H2 (n.thaw M.b) (DpAll.del (n.b m _ upd_same) ds v dp)
theorem MD.test {k : Bool} (M : MD X.prog X.w X.K B H m ks g) (s : Sub B H) (h : ∀ Bf, Sub B Bf → Sub Bf H → FD X.prog X.w X.K Bf m ks g → TV X e σ Bf k) : TVH X e σ B H k := by
  obtain ⟨Bf, s1, s2, F⟩ := M.frz s
  exact (h Bf s1 s2 F).h s1 s2
theorem s_retH {r : PyData} {D : Ends} (h : EVH X e σ B H r) (q : ∀ v B2 H2, Nxt B H B2 H2 → Dp X.K B2 v r → D.rt v H2) : wS X (.Return (some e) pos) D σ H := le_S (ps_ret pe_w) (h _ q)
theorem s_setH [W : Wk X] (n : Nat) {x : Str} {D : Ends} (h : EVH X e σ B H d) (q : ∀ v B2 H2, Nxt B H B2 H2 → Dp X.K B2 v d → D.nx (σ.set n (some v)) H2) (hi : X.N[n]? = some x := by rfl) (hx : Loc X.env.scope x := by first | exact Or.inl rfl | exact Or.inr rfl)
    (hs : swapsWith e (some (.Name x p)) pos.line X.env = pure false := by rfl) (hf : X.fn x = true ∨ X.env.scope.names.lookup x = some .local := by first | exact .inl rfl | exact .inr rfl) : wS X (.Assign [.Name x p] e pos) D σ H := le_S (ps_set W.nd hi hx pe_w hs hf) (h _ q)
theorem s_parH [W : Wk X] (i j : Nat) {x y : Str} {kt k2 : Nat} {D : Ends} (h : AVH X [a, b] σ B H [d1, d2]) (q : ∀ v w B2 H2, Nxt B H B2 H2 → Dp X.K B2 v d1 → Dp X.K B2 w d2 → D.nx ((σ.set i (some v)).set j (some w)) H2)
    (hi : X.N[i]? = some x := by rfl) (hj : X.N[j]? = some y := by rfl) (hij : i ≠ j := by decide) (hx : X.env.scope.names.lookup x = some .local := by rfl) (hy : X.env.scope.names.lookup y = some .local := by rfl)
    (hw : swappedStores [.Tuple [.Name x px, .Name y py] kt pt] (.Tuple [a, b] k2 p2) X.env = pure (some [x, y]) := by rfl) (hs : swapsWithSole [.Tuple [.Name x px, .Name y py] kt pt] (.Tuple [a, b] k2 p2) pos.line X.env = pure false := by rfl) :
    wS X (.Assign [.Tuple [.Name x px, .Name y py] kt pt] (.Tuple [a, b] k2 p2) pos) D σ H := le_S (ps_par W.calm W.nd hi hj hij hx hy pa_w hw hs) (h _ fun vs B2 H2 n dd => by
  cases dd with
  | cons h1 h2 =>
    cases h2 with
    | cons h3 h4 =>
      cases h4
      exact ⟨_, _, rfl, q _ _ B2 H2 n h1 h3⟩)
theorem s_ifH {k : Bool} {D : Ends} {sa sb : List Stmt} (h : TVH X c σ B H k) (h1 : ∀ H2, Nxt B H B H2 → k = true → wSs X sa D σ H2) (h2 : ∀ H2, Nxt B H B H2 → k = false → wSs X sb D σ H2) : wS X (.If c sa sb pos) D σ H :=
  le_S (ps_if pt_w pss_w pss_w) (h _ fun H2 n => by
    cases k with
    | true => exact h1 H2 n rfl
    | false => exact h2 H2 n rfl)
/-- for tg in a list, whose reading looks at what is changed -/
theorem s_forH [W : Wk X] {D : Ends} (hp : PassesOwn (model X.prog X.w) X.A X.env X.xe) (hg : PG X tg G) (hs : EVH X iter σ B H (.list ds)) (Pv : Nat → Stt → Hp → Hp → Prop) (h0 : ∀ B2 H2, Nxt B H B2 H2 → Pv 0 σ B2 H2)
    (ht : ∀ B2, Sub B B2 → ∀ i d x σ' B' H', ds[i]? = some d → Pv i σ' B' H' → Sub B2 B' → Sub B' H' → Dp X.K B' x d → G x σ' H' fun σ2 H2 => wSs X body { D with nx := FdN B2 (Pv (i + 1)), ct := FdN B2 (Pv (i + 1)), bk := D.nx } σ2 H2)
    (hd : ∀ σ' B' H', Pv ds.length σ' B' H' → Sub B B' → Sub B' H' → D.nx σ' H') (hf : ∀ x, foldedSetIterable iter X.env x = pure x := by intro _; rfl) : wS X (.For tg iter body [] pos) D σ H :=
  le_S (ps_for hp W.calm (pi_list pe_w) hg pss_w hf) (hs _ fun v B2 H2 n p => by
    obtain ⟨a, xs, rfl, hl, ha⟩ := p.lst_inv
    refine ⟨a, rfl, ⟨xs, sub_l n.i hl⟩, for_list (K := X.K) (a := a) (xs := xs) (fun i => FdN B2 (Pv i)) ⟨B2, Sub.refl _, n.i, h0 B2 H2 n⟩ (fun i σ' H' _ ⟨B', s1, s2, _⟩ => sub_l (s1.trans s2) hl) ?_ ?_⟩
    · rintro i x σ' H' hx ⟨B', s1, s2, pv⟩
      obtain ⟨d, hd', dx⟩ := ha.at' hx
      exact ht B2 n.b i d x σ' B' H' hd' pv s1 s2 (dx.up s1)
    · rintro σ' H' ⟨B', s1, s2, pv⟩
      rw [ha.len] at pv
      exact hd σ' B' H' pv (n.b.trans s1) s2)
/-- f(x, ..), x a dict that stands in the base -/
theorem ev_callD {k j : Nat} {x y : Str} {ps : List Str} {sp : Sp} (n : Nat) (F : Dfn X.prog X.w X.K X.mg X.base j x ps sp) (hr : Room k X.A) (ha : AV X es σ B ds) (hsp : ∀ vs B1 H1, Sub B B1 → Sub B1 H1 → DpAll X.K B1 vs ds → ∀ Q : VK, (∀ v B2 H2, Nxt B1 H1 B2 H2 → Dp X.K B2 v f → Q v H2) → sp (.ref m :: vs) H1 Q E0) (hj : j ≤ k := by decide) (hg : Gl X x := by rfl) (hdb : (x == ("__debug__" : Str)) = false := by decide)
    (h0 : σ[n]? = some (some (.ref m)) := by rfl) (hN : X.N[n]? = some y := by rfl) (hv : Vis X.env.scope y := by first | exact Or.inl rfl | exact Or.inr (Or.inl rfl) | exact Or.inr (Or.inr rfl)) (hd : (y == ("__debug__" : Str)) = false := by decide) (hcd : (y == ("__classdict__" : Str)) = false := by decide)
    (he : starEach (.Name y p2 :: es) X.env = (false, eval (.Name y p2) X.env) :: starEach es X.env := by rfl) (hpl : (backTo pos (starEach es X.env)).any (·.1) = false := by rfl) : EV X (.Call (.Name x p) (.Name y p2 :: es) [] pos) σ B f := by
  obtain ⟨fa, fd, G, hm, hk, hb⟩ := F.ex
  refine EV.by (pe_call G (hr.mono hj) hg hm hk hb .nil pass0 (pa_cons (pe_var hN hv hd hcd) pa_w he) hdb he hpl) fun H1 z Q q => ⟨_, h0, ha H1 z _ fun vs B2 H2 n dd => ?_⟩
  show sp ((V.ref m :: vs) ++ []) H2 Q E0
  rw [List.append_nil]
  exact hsp vs B2 H2 n.b n.i dd Q fun v B3 H3 n3 dp => q v B3 H3 (n.trans n3) dp
end
section
variable {P : Program} {w : World} {K : PySem.W.Frag} {mg : Str → Option Value} {base : Heap}
/-- a def, by its promise -/
theorem imp_fn {x qual : Str} {st : Stmt} {f : Addr} {fd : FuncData} {N ps : List Str} {k : Nat} {sp : Sp} (F : Fun K x qual st f fd) (S : FnScope N ps (defScope st)) (nb : NoGl mg) (hl : ∀ vs H Q E, sp vs H Q E → vs.length = ps.length)
    (body : ∀ (cdv : Value) (A : Around) (outer : List Env) (s : Shared) (H : Hp) (E : XK) (vs : List V) (Q : VK), Room k (A.deeper (envOfC qual (defScope st) s.heap.objs.size f cdv)) → Wk (cxOf CX0 P w K mg base N qual (defScope st) f cdv A outer s H E).nox → sp vs H Q E →
      wSs (cxOf CX0 P w K mg base N qual (defScope st) f cdv A outer s H E).nox (defBody st) { nx := fun _ H' => Q .non H', rt := Q } (start N vs) H) : FnOk P w K mg base CX0 (k + 1) f fd ps sp := by
  refine F.ok S hl (fun cdv A outer s H vs Q E hr h => ?_)
  have W : Wk (cxOf CX0 P w K mg base N qual (defScope st) f cdv A outer s H E).nox := ⟨rfl, by have := hr.un; show (A.deeper _).units + 100 < _; omega, nb, S.nd⟩
  exact ⟨_, pss_w, body cdv A outer s H E vs Q hr W h⟩
/-- the reading of a dict comprehension over a tuple -/
theorem nd_tup {a : Addr} {xs : List V} {g : TG} {tk tv : TE} {vs : List Nat} {σ : Stt} {H1 : Hp} {D : Addr} {Q : VK} (Pv : Nat → Hp → Prop) (h0 : Pv 0 (upd H1 D (NdO P w D []))) (hl : ∀ i H, i ≤ xs.length → Pv i H → SqT K H a xs)
    (hs : ∀ i x H, xs[i]? = some x → Pv i H → g x (wipe σ vs) H fun σ2 H3 => wipe σ2 vs = wipe σ vs ∧ tk σ2 H3 fun y H4 => tv σ2 H4 fun z H5 => ∃ a k ps, y = .ref a ∧ KeyAt K H5 a k ∧ H5 D = some (NdO P w D ps) ∧ KeysAt K H5 ps ∧ ps.length < sizeLine ∧ Pv (i + 1) (upd H5 D (NdO P w D (psPut ps k a z))))
    (hd : ∀ H, Pv xs.length H → Q (.ref D) H) :
    ∃ W : Nat → Nat → Hp → Prop, (∃ m, W 0 m (upd H1 D (NdO P w D []))) ∧ ∀ i m H2, W i m H2 → ((Itt K a).stop i H2 ∧ Q (.ref D) H2) ∨
    ((Itt K a).go i H2 ∧ ∃ Nx : Hp → Prop, (∀ H', Nx H' → ∃ m', m' < m ∧ W (i + 1) m' H') ∧ ∀ x H', (Itt K a).yld i H2 x H' → g x (wipe σ vs) H' fun σ2 H3 => wipe σ2 vs = wipe σ vs ∧
      tk σ2 H3 fun y H4 => tv σ2 H4 fun z H5 => ∃ a k ps, y = .ref a ∧ KeyAt K H5 a k ∧ H5 D = some (NdO P w D ps) ∧ KeysAt K H5 ps ∧ ps.length < sizeLine ∧ Nx (upd H5 D (NdO P w D (psPut ps k a z)))) := by
  refine ⟨fun i m H => m = xs.length - i ∧ i ≤ xs.length ∧ Pv i H, ⟨xs.length, by simp, Nat.zero_le _, h0⟩, ?_⟩
  rintro i m H ⟨rfl, hi, p⟩
  have q := hl i H hi p
  by_cases hlt : i < xs.length
  · refine .inr ⟨⟨xs, xs[i], q, by simp [hlt]⟩, Pv (i + 1), fun H' p' => ⟨xs.length - (i + 1), by omega, rfl, hlt, p'⟩, fun x H' y => ?_⟩
    obtain ⟨e, y⟩ := y
    subst e
    exact hs i x _ (y xs q) p
  · have e : i = xs.length := by omega
    subst e
    exact .inl ⟨⟨xs, q, Nat.le_refl _⟩, hd H p⟩
end
end Who

namespace Who
open PySem L2 PySem.Spec PyProof.Rows
/-- a dict from names to names -/
def Gr (P : Program) (w : World) (K : PySem.W.Frag) (B H : Hp) (d : Addr) (ns : List Nm) (lab : Nm → Nm) : Prop := ∃ g, MD P w K B H d (ns.map nmK) g ∧ ∀ n ∈ ns, g (nmK n) = nmD (lab n)
def FGr (P : Program) (w : World) (K : PySem.W.Frag) (B : Hp) (d : Addr) (ns : List Nm) (lab : Nm → Nm) : Prop := ∃ g, FD P w K B d (ns.map nmK) g ∧ ∀ n ∈ ns, g (nmK n) = nmD (lab n)
section
variable {P : Program} {w : World} {K : PySem.W.Frag} {B B2 H H2 : Hp} {d : Addr} {ns : List Nm} {lab : Nm → Nm}
theorem Gr.nxt (m : Gr P w K B H d ns lab) (n : Nxt B H B2 H2) : Gr P w K B2 H2 d ns lab := let ⟨g, h, e⟩ := m; ⟨g, h.nxt n, e⟩
theorem Gr.nxtE {q : Addr} (m : Gr P w K B H d ns lab) (n : NxtE q B H B2 H2) (hq : d ≠ q) : Gr P w K B2 H2 d ns lab := let ⟨g, h, e⟩ := m; ⟨g, h.nxtE n hq, e⟩
theorem Gr.is (m : Gr P w K B H d ns lab) : ∃ u, H d = some u := let ⟨_, h, _⟩ := m; h.is
theorem Gr.b (m : Gr P w K B H d ns lab) : B d = none := let ⟨_, h, _⟩ := m; h.b
theorem FGr.up (m : FGr P w K B d ns lab) (s : Sub B B2) : FGr P w K B2 d ns lab := let ⟨g, h, e⟩ := m; ⟨g, h.up s, e⟩
end
theorem mem_nmK {ns : List Nm} {n : Nm} (h : n ∈ ns) : nmK n ∈ ns.map nmK := List.mem_map.mpr ⟨n, h, rfl⟩
section
variable {X : Cx} {e a b c o i elt tg iter : PySem.Expr} {es rest : List PySem.Expr} {pos p q p2 p3 p4 p5 px py pt : Pos} {σ : Stt} {B B1 Bf H : Hp} {d d0 d1 d2 f : PyData} {ds es2 : List PyData} {v : V} {m : Addr} {ns : List Nm} {lab : Nm → Nm}
theorem ev_gr [W : Wk X] (n : Nat) {x : Str} {k : Nm} (F : FGr X.prog X.w X.K B m ns lab) (hk : k ∈ ns) (h : EV X i σ B (nmD k)) (h0 : σ[n]? = some (some (.ref m)) := by rfl) (hN : X.N[n]? = some x := by rfl)
    (hv : Vis X.env.scope x := by first | exact Or.inl rfl | exact Or.inr (Or.inl rfl) | exact Or.inr (Or.inr rfl)) (hd : (x == ("__debug__" : Str)) = false := by decide) (hcd : (x == ("__classdict__" : Str)) = false := by decide) (hs : NoSl i := by intro _ _; rfl) :
    EV X (.Subscript (.Name x p) i pos) σ B (nmD (lab k)) := by
  obtain ⟨g, F, e⟩ := F
  exact EV.is (ev_nget n F (mem_nmK hk) (ok_nm k) (EV.is h (kD_nm k).symm) h0 hN hv hd hcd hs) (e k hk)
theorem tv_nmEq [W : Wk X] {k l : Nm} (ha : EV X a σ B (nmD k)) (hb : EV X b σ B (nmD l)) : TV X (.Compare a [.Eq] [b] pos) σ B (decide (k = l)) := TV.is (tv_eqD (shaped_nm k) (shaped_nm l) ha hb) (eqv_nm k l)
theorem tv_nmNe [W : Wk X] {k l : Nm} (ha : EV X a σ B (nmD k)) (hb : EV X b σ B (nmD l)) : TV X (.Compare a [.NotEq] [b] pos) σ B (!decide (k = l)) := TV.is (tv_neD (shaped_nm k) (shaped_nm l) ha hb) (by rw [eqv_nm k l])
end
section
variable {P : Program} {w : World} {K : PySem.W.Frag} {mg : Str → Option Value} {base : Heap} {f : Addr} {fd : FuncData}
/-! lone_groups -/
theorem sc22 : FnScope ["names", "name"] ["names"] (defScope (top 22)) := ⟨rfl, rfl, rfl, by decide +kernel, rfl, by decide +kernel, by decide +kernel⟩
def sp22 (P : Program) (w : World) (K : PySem.W.Frag) : Sp := fun vs H Q _ => ∃ B v ns, vs = [v] ∧ Sub B H ∧ Dp K B v (nmsD ns) ∧ ns.Nodup ∧ ns.length ≤ 1000 ∧ ∀ d B2 H2, H d = none → Nxt B H B2 H2 → Gr P w K B2 H2 d ns id → Q (.ref d) H2
theorem ok22 (F : Fun K "lone_groups" "lone_groups" (top 22) f fd) (nb : NoGl mg) : FnOk P w K mg base CX0 1 f fd ["names"] (sp22 P w K) := by
  refine imp_fn F sc22 nb (fun vs H Q E ⟨_, v, _, e, _⟩ => by rw [e]; rfl) fun cdv A outer s H E vs Q hr W hsp => ?_
  obtain ⟨B, v, ns, rfl, sb, hd, nd, hz, fin⟩ := hsp
  refine ss_one (le_S (ps_ret (pe_ndc (own := [("name", 1)]) (un10 _) W.calm W.nd (pi_tup (pv 0)) (blkOk_by (by rfl)) (fun _ _ _ _ _ => pgn 1) (fun _ _ _ _ _ => pv 1) (fun _ _ _ _ _ => pv 1))) ?_)
  obtain ⟨a, xs, rfl, hs, ha⟩ := hd.tup_inv
  refine ⟨.ref a, rfl, a, rfl, ⟨xs, sub_t sb hs⟩, fun D hD => nd_tup (fun i H' => Nxt B H B H' ∧ ∃ g, MD P w K B H' D ((ns.take i).map nmK) g ∧ ∀ n ∈ ns.take i, g (nmK n) = nmD n) ⟨(Nxt.refl sb).put hD (sb.none hD), kD, ⟨sb.none hD, [], upd_same, (by intro p hp; cases hp), rfl, (by intro p hp; cases hp)⟩, fun n hn => by simp at hn⟩ (fun i H' _ ⟨n, _⟩ => sub_t n.i hs) ?_ ?_⟩
  · rintro i x H' hx ⟨n, g, M, hg⟩
    obtain ⟨d, hd', dx⟩ := ha.at' hx
    rw [List.getElem?_map] at hd'
    obtain ⟨p, hp, rfl⟩ := Option.map_eq_some_iff.mp hd'
    have hil : i < ns.length := (List.getElem?_eq_some_iff.mp hp).1
    refine ⟨by rfl, x, rfl, x, rfl, ?_⟩
    obtain ⟨b, rfl, hb⟩ := okKey_at (ok_nm p) (show Dp K B x (kD (nmK p)) by rw [kD_nm]; exact dx)
    obtain ⟨ps, h1, h2, h3, h4⟩ := M.h
    have hlen : ps.length < 100000 := by
      have := congrArg List.length h3
      rw [List.length_map, List.length_map, List.length_take] at this
      omega
    have fresh : nmK p ∉ (ns.take i).map nmK := fun h => by
      obtain ⟨q, hq, e⟩ := List.mem_map.mp h
      obtain ⟨j, hj, ej⟩ := List.mem_iff_getElem.mp hq
      rw [List.length_take] at hj
      have e1 : ns[j]'(by omega) = q := by rw [← ej, List.getElem_take]
      have e2 : ns[i] = p := (List.getElem?_eq_some_iff.mp hp).2
      have h3 := List.pairwise_iff_getElem.mp nd j i (by omega) hil (by omega)
      rw [e1, e2] at h3
      exact h3 (nmK_inj e)
    have et : (ns.take (i + 1)).map nmK = ksPut ((ns.take i).map nmK) (nmK p) := by
      unfold ksPut
      rw [if_neg fresh, List.take_add_one, hp]; simp
    refine ⟨b, nmK p, ps, rfl, hb.up n.i, h1, h2.up n.i, Nat.lt_trans hlen (by decide), n.put hD M.b, gPut g (nmK p) (nmD p), ⟨M.b, _, upd_same, h2.put hb, ?_, ?_⟩, ?_⟩
    · rw [psPut_keys, h3, et]
    · refine psPut_vals (Q := fun k' v' => Dp K B v' (gPut g (nmK p) (nmD p) k')) (fun q hq hne => ?_) ?_
      · unfold gPut; rw [if_neg hne]; exact h4 q hq
      · unfold gPut; rw [if_pos rfl]; exact dx
    · intro q hq
      rw [List.take_add_one, hp] at hq
      unfold gPut
      by_cases e : nmK q = nmK p
      · rw [if_pos e, nmK_inj e]
      · rw [if_neg e]
        rcases List.mem_append.mp hq with z | z
        · exact hg q z
        · simp at z; subst z; exact absurd rfl e
  · rintro H' ⟨n, g, M, hg⟩
    have hl := ha.len
    rw [List.length_map] at hl
    rw [hl, List.take_length] at M hg
    exact fin D B H' hD n ⟨g, M, hg⟩
end
end Who

namespace Who
open PySem L2 PySem.Spec PyProof.Rows
def minL (lab : Nm → Nm) (p q : Nm) : Nm := if nmLt (lab q) (lab p) = true then lab q else lab p
def maxL (lab : Nm → Nm) (p q : Nm) : Nm := if nmLt (lab p) (lab q) = true then lab q else lab p
/-- the labels behind join_groups -/
def joinL (lab : Nm → Nm) (p q : Nm) : Nm → Nm := fun n => if lab n = maxL lab p q then minL lab p q else lab n
theorem fresh_at {ns : List Nm} (nd : ns.Nodup) {i : Nat} {n : Nm} (h : ns[i]? = some n) : n ∉ ns.take i := fun hq => by
  obtain ⟨j, hj, ej⟩ := List.mem_iff_getElem.mp hq
  have hil : i < ns.length := (List.getElem?_eq_some_iff.mp h).1
  rw [List.length_take] at hj
  have e1 : ns[j]'(by omega) = n := by rw [← ej, List.getElem_take]
  have e2 : ns[i] = n := (List.getElem?_eq_some_iff.mp h).2
  have h3 := List.pairwise_iff_getElem.mp nd j i (by omega) hil (by omega)
  rw [e1, e2] at h3
  exact h3 rfl
theorem keys_nm (ns : List Nm) : (ns.map nmK).map kD = ns.map nmD := by rw [List.map_map]; exact List.map_congr_left fun p _ => kD_nm p
section
variable {P : Program} {w : World} {K : PySem.W.Frag} {mg : Str → Option Value} {base : Heap} {f : Addr} {fd : FuncData}
theorem sc23 : FnScope ["groups", "one", "other", "least", "gone", "name"] ["groups", "one", "other"] (defScope (top 23)) := ⟨rfl, rfl, rfl, by decide +kernel, rfl, by decide +kernel, by decide +kernel⟩
def sp23 (P : Program) (w : World) (K : PySem.W.Frag) : Sp := fun vs H Q _ => ∃ (B : Hp) (d : Addr) (a b : V) (ns : List Nm) (lab : Nm → Nm) (p q : Nm), vs = [.ref d, a, b] ∧ Sub B H ∧ Gr P w K B H d ns lab ∧ Dp K B a (nmD p) ∧ Dp K B b (nmD q) ∧ p ∈ ns ∧ q ∈ ns ∧ ns.Nodup ∧ ns.length ≤ 1000 ∧
  ∀ B2 H2, NxtE d B H B2 H2 → Gr P w K B2 H2 d ns (joinL lab p q) → Q .non H2
theorem ok23 (F : Fun K "join_groups" "join_groups" (top 23) f fd) (nb : NoGl mg) : FnOk P w K mg base CX0 1 f fd ["groups", "one", "other"] (sp23 P w K) := by
  refine imp_fn F sc23 nb (fun vs H Q E ⟨_, _, _, _, _, _, _, _, e, _⟩ => by rw [e]; rfl) fun cdv A outer s H E vs Q hr W hsp => ?_
  obtain ⟨B, d, a, b, ns, lab, p, q, rfl, sb, ⟨g, M, hg⟩, ha, hb, hp, hq, nd, hz, fin⟩ := hsp
  refine ss_cons (s_parH 3 4 (d1 := nmD (minL lab p q)) (d2 := nmD (maxL lab p q)) (M.looks sb fun Bf s1 s2 F => ?_) fun v u B2 H2 n dv du => ?_)
  · have FG : FGr P w K Bf d ns lab := ⟨g, F, hg⟩
    have e1 := ha.up s1
    have e2 := hb.up s1
    exact av_cons (ev_minN (av_cons (ev_gr 0 FG hp (ev_var 1 e1)) (av_cons (ev_gr 0 FG hq (ev_var 2 e2)) av_nil))) (av_cons (ev_maxN (av_cons (ev_gr 0 FG hp (ev_var 1 e1)) (av_cons (ev_gr 0 FG hq (ev_var 2 e2)) av_nil))) av_nil)
  have M2 := M.nxt n
  refine ss_one (s_forH PassesOwn.never (pgn 5) (M2.look n.i fun Bf s1 s2 F => EV.is (ev_listD 0 F) (by rw [keys_nm])) (fun i σ' B' H' => (∃ x, σ' = [some (.ref d), some a, some b, some v, some u, x]) ∧ NxtE d B H B' H' ∧ Gr P w K B' H' d ns (fun n => if n ∈ ns.take i then joinL lab p q n else lab n)) (fun B4 H4 n4 => ⟨⟨none, rfl⟩, (n.trans n4).e, g, M2.nxt n4, fun m hm => by simpa using hg m hm⟩) ?_ ?_)
  · intro B4 s4 i d0 x σ' B' H' hx pv sB sH dx
    obtain ⟨⟨y, rfl⟩, nn, g', G, hg''⟩ := pv
    have hg' : ∀ n ∈ ns, g' (nmK n) = nmD (if n ∈ ns.take i then joinL lab p q n else lab n) := hg''
    rw [List.getElem?_map] at hx
    obtain ⟨nm, hnm, rfl⟩ := Option.map_eq_some_iff.mp hx
    have mem : nm ∈ ns := List.mem_of_getElem? hnm
    have fr := fresh_at nd hnm
    have et : ns.take (i + 1) = ns.take i ++ [nm] := by rw [List.take_add_one, hnm]; rfl
    have dv' := dv.up (s4.trans sB)
    have du' := du.up (s4.trans sB)
    have cur : (if nm ∈ ns.take i then joinL lab p q nm else lab nm) = lab nm := if_neg fr
    refine ss_one (s_ifH (k := decide (lab nm = maxL lab p q)) (MD.test G sH fun Bf s1 s2 F => TV.is (tv_nmEq (ev_gr 0 ⟨g', F, hg'⟩ mem (ev_var 5 (dx.up s1))) (ev_var 4 (du'.up s1))) (by rw [cur])) (fun H5 n5 hk => ?_) fun H5 n5 hk => ss_nil ?_)
    · have hk' : lab nm = maxL lab p q := of_decide_eq_true hk
      refine ss_one (s_nput 0 n5.i (G.nxt n5) (ok_nm nm) (by rw [List.length_map]; omega) (ev_var 3 dv') (EV.is (ev_var 5 dx) (kD_nm nm).symm) fun B6 H6 n6 G6 => ?_)
      refine ⟨B6, sB.trans n6.b, n6.i, ⟨_, rfl⟩, (nn.trans n5.e M.is M.b G.is).trans n6 M.is M.b (G.nxt n5).is, gPut g' (nmK nm) (nmD (minL lab p q)), ?_, fun m hm => ?_⟩
      · have ek : ksPut (ns.map nmK) (nmK nm) = ns.map nmK := if_pos (mem_nmK mem)
        rw [ek] at G6
        exact G6
      · show gPut g' (nmK nm) (nmD (minL lab p q)) (nmK m) = nmD (if m ∈ ns.take (i + 1) then joinL lab p q m else lab m)
        rw [et]
        unfold gPut
        by_cases e : nmK m = nmK nm
        · have e' := nmK_inj e
          subst e'
          rw [if_pos e, if_pos (List.mem_append_right _ (List.mem_singleton.mpr rfl))]
          unfold joinL
          rw [if_pos hk']
        · have e' : m ≠ nm := fun z => e (by rw [z])
          rw [if_neg e, hg' m hm]
          by_cases z : m ∈ ns.take i
          · rw [if_pos z, if_pos (List.mem_append_left _ z)]
          · rw [if_neg z, if_neg fun y => (List.mem_append.mp y).elim z fun y => e' (List.mem_singleton.mp y)]
    · have hk' : ¬ lab nm = maxL lab p q := of_decide_eq_false hk
      refine ⟨B', sB, n5.i, ⟨_, rfl⟩, nn.trans n5.e M.is M.b G.is, g', G.nxt n5, fun m hm => ?_⟩
      show g' (nmK m) = nmD (if m ∈ ns.take (i + 1) then joinL lab p q m else lab m)
      rw [et, hg' m hm]
      by_cases z : m ∈ ns.take i
      · rw [if_pos z, if_pos (List.mem_append_left _ z)]
      · rw [if_neg z]
        by_cases e : m = nm
        · subst e
          rw [if_pos (List.mem_append_right _ (List.mem_singleton.mpr rfl))]
          unfold joinL
          rw [if_neg hk']
        · rw [if_neg fun y => (List.mem_append.mp y).elim z fun y => e (List.mem_singleton.mp y)]
  · rintro σ' B' H' ⟨_, nn, g', G, hg''⟩ s1 s2
    have hg' : ∀ n ∈ ns, g' (nmK n) = nmD (if n ∈ ns.take (ns.map nmD).length then joinL lab p q n else lab n) := hg''
    refine fin B' H' nn ⟨g', G, fun m hm => ?_⟩
    rw [hg' m hm, List.length_map, List.take_length, if_pos hm]
end
end Who

namespace Who
open PySem L2 PySem.Spec PyProof.Rows
section
variable {X : Cx} {es : List PySem.Expr} {pos p p2 : Pos} {σ : Stt} {B H : Hp} {ds : List PyData} {m : Addr}
theorem w_callD {k j : Nat} {x y : Str} {ps : List Str} {sp : Sp} {Q : VK} (n : Nat) (F : Dfn X.prog X.w X.K X.mg X.base j x ps sp) (hr : Room k X.A) (s : Sub B H) (ha : AV X es σ B ds) (hsp : ∀ vs B1 H1, Nxt B H B1 H1 → DpAll X.K B1 vs ds → sp (.ref m :: vs) H1 Q E0) (hj : j ≤ k := by decide) (hg : Gl X x := by rfl) (hdb : (x == ("__debug__" : Str)) = false := by decide)
    (h0 : σ[n]? = some (some (.ref m)) := by rfl) (hN : X.N[n]? = some y := by rfl) (hv : Vis X.env.scope y := by first | exact Or.inl rfl | exact Or.inr (Or.inl rfl) | exact Or.inr (Or.inr rfl)) (hd : (y == ("__debug__" : Str)) = false := by decide) (hcd : (y == ("__classdict__" : Str)) = false := by decide)
    (he : starEach (.Name y p2 :: es) X.env = (false, eval (.Name y p2) X.env) :: starEach es X.env := by rfl) (hpl : (backTo pos (starEach es X.env)).any (·.1) = false := by rfl) : wE X (.Call (.Name x p) (.Name y p2 :: es) [] pos) σ H Q := by
  obtain ⟨fa, fd, G, hm, hk, hb⟩ := F.ex
  refine le_E (pe_call G (hr.mono hj) hg hm hk hb .nil pass0 (pa_cons (pe_var hN hv hd hcd) pa_w he) hdb he hpl) ⟨_, h0, ha H s _ fun vs B2 H2 nn dd => ?_⟩
  show sp ((V.ref m :: vs) ++ []) H2 Q E0
  rw [List.append_nil]
  exact hsp vs B2 H2 nn dd
end
theorem s_asgE {X : Cx} {tg e : PySem.Expr} {pos : Pos} {σ : Stt} {B H : Hp} {d : PyData} {D : Ends} {G : TG} (hg : PG X tg G) (s : Sub B H) (h : EV X e σ B d) (q : ∀ v B2 H2, Nxt B H B2 H2 → Dp X.K B2 v d → G v σ H2 D.nx) (hs : swapsWithSole [tg] e pos.line X.env = pure false := by rfl) (hw : swappedStores [tg] e X.env = pure none := by rfl)
    (h1 : (assignEach [tg] X.env).map (·.2) = [assign tg X.env] := by rfl) : wS X (.Assign [tg] e pos) D σ H := s_asg hg (h H s _ q) hs hw h1
theorem eqv_pr (a b : Nm × Nm) : PyData.eqv (prD a) (prD b) = decide (a = b) := by
  obtain ⟨⟨a1, a2⟩, ⟨a3, a4⟩⟩ := a
  obtain ⟨⟨b1, b2⟩, ⟨b3, b4⟩⟩ := b
  rw [Bool.eq_iff_iff]
  simp [prD, nmD, PyData.eqv, PyData.eqvAll, and_assoc]
theorem shaped_pr (a : Nm × Nm) : SeqAt.shaped (prD a) = true := rfl
def betw (lab : Nm → Nm) (p q : Nm) (bar : Nm × Nm) : Bool := decide ((lab bar.1 = lab p ∧ lab bar.2 = lab q) ∨ (lab bar.1 = lab q ∧ lab bar.2 = lab p))
/-- in, no, join -/
def fateN (lab : Nm → Nm) (bs : List (Nm × Nm)) (l : Lk) : Nat := if lab l.2.1 = lab l.2.2 then 0 else if bs.any (betw lab l.2.1 l.2.2) = true then 1 else 2
def fateS : Nat → Str
  | 0 => "in"
  | 1 => "no"
  | _ => "join"
def nextL (lab : Nm → Nm) (bs : List (Nm × Nm)) (l : Lk) : Nm → Nm := if fateN lab bs l = 2 then joinL lab l.2.1 l.2.2 else lab
/-- bars within the names -/
def InB (ns : List Nm) (bs : List (Nm × Nm)) : Prop := ∀ b ∈ bs, b.1 ∈ ns ∧ b.2 ∈ ns
def brs (bs : List (Nm × Nm)) : PyData := .tuple (bs.map prD)
section
variable {P : Program} {w : World} {K : PySem.W.Frag} {mg : Str → Option Value} {base : Heap} {f : Addr} {fd : FuncData}
theorem sc24 : FnScope ["groups", "bars", "one", "other", "ends", "bar"] ["groups", "bars", "one", "other"] (defScope (top 24)) := ⟨rfl, rfl, rfl, by decide +kernel, rfl, by decide +kernel, by decide +kernel⟩
def sp24 (P : Program) (w : World) (K : PySem.W.Frag) : Sp := fun vs H Q _ => ∃ (B : Hp) (d : Addr) (u a b : V) (ns : List Nm) (lab : Nm → Nm) (bs : List (Nm × Nm)) (p q : Nm), vs = [.ref d, u, a, b] ∧ Sub B H ∧ FGr P w K B d ns lab ∧ Dp K B u (brs bs) ∧ Dp K B a (nmD p) ∧ Dp K B b (nmD q) ∧ p ∈ ns ∧ q ∈ ns ∧ InB ns bs ∧ bs.length ≤ 1000 ∧
  ∀ v B2 H2, Nxt B H B2 H2 → Dp K B2 v (.list ((bs.filter (betw lab p q)).map prD)) → Q v H2
theorem prD_at (z : Nm × Nm) : items (prD z) = some [nmD z.1, nmD z.2] := rfl
theorem ok24 (F : Fun K "bars_between" "bars_between" (top 24) f fd) (nb : NoGl mg) : FnOk P w K mg base CX0 1 f fd ["groups", "bars", "one", "other"] (sp24 P w K) := by
  refine imp_fn F sc24 nb (fun vs H Q E ⟨_, _, _, _, _, _, _, _, _, _, e, _⟩ => by rw [e]; rfl) fun cdv A outer s H E vs Q hr W hsp => ?_
  obtain ⟨B, d, u, a, b, ns, lab, bs, p, q, rfl, sb, FG, hu, ha, hb, hp, hq, inb, hz, fin⟩ := hsp
  refine ss_cons (s_set 4 sb (EV.is (ev_tup (av_cons (ev_gr 0 FG hp (ev_var 2 ha)) (av_cons (ev_gr 0 FG hq (ev_var 3 hb)) av_nil)) (by show 2 ≤ 100000; decide)) (f := prD (lab p, lab q)) rfl) fun e B2 H2 n he => ?_)
  have FG2 := FG.up n.b
  have hu2 := hu.up n.b
  have key : ∀ z : Nm × Nm, (([prD (lab p, lab q), prD (lab q, lab p)] : List PyData).any fun x => PyData.eqv x (prD (lab z.1, lab z.2))) = betw lab p q z := fun z => by
    simp only [List.any_cons, List.any_nil, eqv_pr, Bool.or_false]
    unfold betw
    rw [Bool.eq_iff_iff]
    simp only [Bool.or_eq_true, decide_eq_true_eq, Prod.mk.injEq]
    constructor
    · rintro (⟨h1, h2⟩ | ⟨h1, h2⟩)
      · exact .inl ⟨h1.symm, h2.symm⟩
      · exact .inr ⟨h1.symm, h2.symm⟩
    · rintro (⟨h1, h2⟩ | ⟨h1, h2⟩)
      · exact .inl ⟨h1.symm, h2.symm⟩
      · exact .inr ⟨h1.symm, h2.symm⟩
  refine ss_one (s_ret n.i (EV.is (ev_lcTif (own := [("bar", 5)]) (ds := bs.map prD) (fun x => match x with
    | .tuple [.tuple [.int a, .int b], .tuple [.int c, .int d]] => betw lab p q ((a, b), (c, d))
    | _ => false) id (blkOk_by (by rfl)) (fun _ _ _ _ _ => pgn 5) (ev_var 1 hu2) (by rw [List.length_map]; omega) fun x d0 B3 hd s3 hx => ?_) ?_) fun v B4 H4 l z => fin v B4 H4 (n.trans l) z)
  · obtain ⟨z, hz, rfl⟩ := List.mem_map.mp hd
    refine lc_name_if 5 (fun _ _ _ _ _ => ?_) fun _ _ _ _ _ _ => ev_var 5 hx
    have FG3 := FG2.up s3
    have he3 := he.up s3
    refine TV.is (tv_in (d1 := prD (lab z.1, lab z.2)) (d2 := .tuple [prD (lab p, lab q), prD (lab q, lab p)]) rfl (shaped_pr _) rfl ?_ ?_) (key z)
    · exact EV.is (ev_tup (av_cons (ev_gr 0 FG3 (inb z hz).1 (ev_ix (prD_at z) rfl (ev_var 5 hx) ev_int)) (av_cons (ev_gr 0 FG3 (inb z hz).2 (ev_ix (prD_at z) rfl (ev_var 5 hx) ev_int)) av_nil)) (by show 2 ≤ 100000; decide)) rfl
    · exact ev_tup (av_cons (ev_var 4 he3) (av_cons (EV.is (ev_back (prD_at (lab p, lab q)) (ev_var 4 he3) (ev_neg ev_int)) rfl) av_nil)) (by show 2 ≤ 100000; decide)
  · rw [List.map_id, List.filter_map]
    rfl
theorem dp_cut {B : Hp} {v : V} {l : Lk} (h : Dp K B v (lkD l)) : ∃ a x y, v = .ref a ∧ SqT K B a [.int l.1, x, y] ∧ Dp K B x (nmD l.2.1) ∧ Dp K B y (nmD l.2.2) := by
  obtain ⟨i, p, q⟩ := l
  obtain ⟨a, xs, rfl, hs, ha⟩ := Dp.tup_inv (show Dp K B v (.tuple [.int i, nmD p, nmD q]) from h)
  obtain ⟨v1, v2, v3, rfl, d1, d2, d3⟩ := dp3 ha
  rw [d1.int_inv] at hs
  exact ⟨a, v2, v3, rfl, hs, d2, d3⟩
theorem sc26 : FnScope ["groups", "bars", "link", "weight", "one", "other"] ["groups", "bars", "link"] (defScope (top 26)) := ⟨rfl, rfl, rfl, by decide +kernel, rfl, by decide +kernel, by decide +kernel⟩
def sp26 (P : Program) (w : World) (K : PySem.W.Frag) : Sp := fun vs H Q _ => ∃ (B : Hp) (d : Addr) (u a : V) (ns : List Nm) (lab : Nm → Nm) (bs : List (Nm × Nm)) (l : Lk), vs = [.ref d, u, a] ∧ Sub B H ∧ Gr P w K B H d ns lab ∧ Dp K B u (brs bs) ∧ Dp K B a (lkD l) ∧ l.2.1 ∈ ns ∧ l.2.2 ∈ ns ∧ InB ns bs ∧ bs.length ≤ 1000 ∧ ns.Nodup ∧ ns.length ≤ 1000 ∧
  ∀ B2 H2, NxtE d B H B2 H2 → Gr P w K B2 H2 d ns (nextL lab bs l) → Q (.str (fateS (fateN lab bs l))) H2
theorem ok26 (F : Fun K "next_fate" "next_fate" (top 26) f fd) (nb : NoGl mg) (F23 : Dfn P w K mg base 1 "join_groups" ["groups", "one", "other"] (sp23 P w K)) (F24 : Dfn P w K mg base 1 "bars_between" ["groups", "bars", "one", "other"] (sp24 P w K)) : FnOk P w K mg base CX0 2 f fd ["groups", "bars", "link"] (sp26 P w K) := by
  refine imp_fn F sc26 nb (fun vs H Q E ⟨_, _, _, _, _, _, _, _, e, _⟩ => by rw [e]; rfl) fun cdv A outer s H E vs Q hr W hsp => ?_
  obtain ⟨B, d, u, a, ns, lab, bs, l, rfl, sb, ⟨g, M, hg⟩, hu, ha, hp, hq, inb, hz, nd, hn, fin⟩ := hsp
  refine ss_cons (s_asgE (pg3 (pgn 3) (pgn 4) (pgn 5)) sb (ev_var 2 ha) fun v B2 H2 n dv => ?_)
  obtain ⟨t, x, y, rfl, ht, dx, dy⟩ := dp_cut dv
  refine gd_tup3 (i := 3) (j := 4) (k := 5) ht H2 n.i _ fun σ2 e2 => ?_
  have e3 : σ2 = [some (.ref d), some u, some a, some (.int l.1), some x, some y] := e2
  subst e3
  have M2 := M.nxt n
  have hu2 := hu.up n.b
  refine ss_cons (s_ifH (M2.test n.i fun Bf s1 s2 F => tv_nmEq (ev_gr 0 ⟨g, F, hg⟩ hp (ev_var 4 (dx.up s1))) (ev_gr 0 ⟨g, F, hg⟩ hq (ev_var 5 (dy.up s1)))) (fun H3 n3 hk => ?_) fun H3 n3 hk => ss_nil ?_)
  · have hk' : lab l.2.1 = lab l.2.2 := of_decide_eq_true hk
    have e0 : fateN lab bs l = 0 := if_pos hk'
    refine ss_one (s_ret (B := B2) n3.i ev_str fun v B4 H4 n4 dv4 => ?_)
    rw [dv4.str_inv]
    have z := fin B4 H4 ((n.trans n3).trans n4).e ⟨g, (M2.nxt n3).nxt n4, fun m hm => by rw [hg m hm]; unfold nextL; rw [e0]; rfl⟩
    rw [e0] at z
    exact z
  have hk0 : ¬ lab l.2.1 = lab l.2.2 := of_decide_eq_false hk
  have M3 := M2.nxt n3
  refine ss_cons (s_ifH (k := bs.any (betw lab l.2.1 l.2.2)) (M3.test n3.i fun Bf s1 s2 F => TV.is (tv_gt (ev_len (d := .list ((bs.filter (betw lab l.2.1 l.2.2)).map prD)) rfl (ev_callD 0 F24 hr (av_cons (ev_var 1 (hu2.up s1)) (av_cons (ev_var 4 (dx.up s1)) (av_cons (ev_var 5 (dy.up s1)) av_nil))) fun vs B5 H5 s5 s6 dd Q5 q5 => ?_)) ev_int) ?_) (fun H4 n4 hk => ?_) fun H4 n4 hk => ss_nil ?_)
  · obtain ⟨v1, v2, v3, rfl, d1, d2, d3⟩ := dp3 dd
    exact ⟨B5, d, v1, v2, v3, ns, lab, bs, l.2.1, l.2.2, rfl, s6, FGr.up ⟨g, F, hg⟩ s5, d1, d2, d3, hp, hq, inb, hz, q5⟩
  · rw [List.length_map]
    cases e : bs.any (betw lab l.2.1 l.2.2) with
    | true =>
      obtain ⟨z, hz, hb⟩ := List.any_eq_true.mp e
      have : 0 < (bs.filter (betw lab l.2.1 l.2.2)).length := List.length_pos_of_mem (List.mem_filter.mpr ⟨hz, hb⟩)
      exact decide_eq_true (by omega)
    | false =>
      have : bs.filter (betw lab l.2.1 l.2.2) = [] := List.filter_eq_nil_iff.mpr fun z hz hb => by
        rw [List.any_eq_true.mpr ⟨z, hz, hb⟩] at e
        cases e
      rw [this]
      rfl
  · have e0 : fateN lab bs l = 1 := by unfold fateN; rw [if_neg hk0, if_pos hk]
    refine ss_one (s_ret (B := B2) n4.i ev_str fun v B5 H5 n5 dv5 => ?_)
    rw [dv5.str_inv]
    have z := fin B5 H5 (((n.trans n3).trans n4).trans n5).e ⟨g, (M3.nxt n4).nxt n5, fun m hm => by rw [hg m hm]; unfold nextL; rw [e0]; rfl⟩
    rw [e0] at z
    exact z
  · have e0 : fateN lab bs l = 2 := by unfold fateN; rw [if_neg hk0, if_neg (by rw [hk]; exact Bool.false_ne_true)]
    have M4 := M3.nxt n4
    refine ss_cons (s_drop (w_callD 0 F23 hr n4.i (av_cons (ev_var 4 dx) (av_cons (ev_var 5 dy) av_nil)) fun vs B5 H5 n5 dd => ?_))
    obtain ⟨v1, v2, rfl, d1, d2⟩ := dp2 dd
    refine ⟨B5, d, v1, v2, ns, lab, l.2.1, l.2.2, rfl, n5.i, ⟨g, M4.nxt n5, hg⟩, d1, d2, hp, hq, nd, hn, fun B6 H6 n6 G6 => ?_⟩
    refine ss_one (s_ret n6.i ev_str fun v B7 H7 n7 dv7 => ?_)
    rw [dv7.str_inv]
    have nn := (((n.trans n3).trans n4).trans n5)
    have is1 := M.is
    have z := fin B7 H7 (((nn.e.trans n6 M.is M.b (M4.nxt n5).is).trans n7.e M.is M.b G6.is)) (by
      unfold nextL
      rw [e0]
      exact G6.nxt n7)
    rw [e0] at z
    exact z
end
end Who

namespace Who
open PySem L2 PySem.Spec PyProof.Rows
section
variable {X : Cx} {e : PySem.Expr} {pos p p2 p3 : Pos} {σ : Stt} {B H : Hp} {ds : List PyData} {m : Addr}
/-- name.append(e), e any expression -/
theorem s_appendW [W : Wk X] (n : Nat) {x : Str} {D : Ends} (M : MLst X.K B H m ds) (h : wE X e σ H fun v H2 => ∃ xs, H2 m = some (.lst xs) ∧ xs.length < sizeLine ∧ D.nx σ (upd H2 m (.lst (xs ++ [v])))) (h0 : σ[n]? = some (some (.ref m)) := by rfl) (hN : X.N[n]? = some x := by rfl)
    (hv : Vis X.env.scope x := by first | exact Or.inl rfl | exact Or.inr (Or.inl rfl) | exact Or.inr (Or.inr rfl)) (hd : (x == ("__debug__" : Str)) = false := by decide) (hcd : (x == ("__classdict__" : Str)) = false := by decide)
    (hs : swapsWith (.Call (.Attribute (.Name x p) "append" p2) [e] [] p3) none pos.line X.env = pure false := by rfl) (hbase : attributeBase (.Name x p) "append" X.env (eval (.Name x p) X.env) = eval (.Name x p) X.env := by rfl)
    (hfew : ((backTo p3 (starEach [e] X.env)).all (fun x => !x.1) && (backToKw p3 (keywordEach [] X.env)).all (fun x => x.1.isSome) && decide ([e].length + ([] : List Keyword).length + (if ([] : List Keyword).isEmpty then 0 else 1) < 30)) = true := by rfl)
    (hline : (p2.endLine == p3.line) = true := by rfl) (hst : starEach [e] X.env = (false, eval e X.env) :: starEach [] X.env := by rfl) : wS X (.Expr (.Call (.Attribute (.Name x p) "append" p2) [e] [] p3) pos) D σ H := by
  obtain ⟨xs, h1, h2⟩ := M.h
  refine le_S (ps_expr (pe_bm PySem.F.plainAttrs_list PySem.F.slot_list_append PySem.F.type_list_append mt_append (pe_var hN hv hd hcd) (pa_cons pe_w pa_nil hst) hbase hfew hline hst) hs) ?_
  refine ⟨_, h0, .inl ⟨rfl, xs, .inl (.inl h1)⟩, ?_⟩
  have step : ∀ (Q1 Q2 : VK), (∀ v H2, Q1 v H2 → Q2 v H2) → wE X e σ H Q1 → wE X e σ H Q2 := fun Q1 Q2 q w pins s I => thn (w pins s I) fun a s' ⟨v, H', I', r, z⟩ => ⟨v, H', I', r, q v H' z⟩
  exact step _ _ (fun v H2 ⟨ys, g1, g2, g3⟩ => ⟨m, ys, v, rfl, rfl, g1, g2, g3⟩) h
end
theorem Gr.frzL {P : Program} {w : World} {K : PySem.W.Frag} {B H : Hp} {d l : Addr} {ns : List Nm} {lab : Nm → Nm} {o : HO} (G : Gr P w K B H d ns lab) (hne : d ≠ l) (hb : B l = none) : Gr P w K (upd B l o) H d ns lab := by
  obtain ⟨g, M, e⟩ := G
  obtain ⟨ps, h1, h2, h3, h4⟩ := M.h
  exact ⟨g, ⟨by rw [upd_ne hne]; exact M.b, ps, h1, h2.up (Sub.updL hb), h3, fun p hp => (h4 p hp).up (Sub.updL hb)⟩, e⟩
/-- the labels behind links -/
def labsL (bs : List (Nm × Nm)) (ls : List Lk) (lab : Nm → Nm) : Nm → Nm := ls.foldl (fun lab l => nextL lab bs l) lab
def fatesL (bs : List (Nm × Nm)) : List Lk → (Nm → Nm) → List Nat
  | [], _ => []
  | l :: ls, lab => fateN lab bs l :: fatesL bs ls (nextL lab bs l)
theorem fatesL_app (bs : List (Nm × Nm)) : ∀ (xs ys : List Lk) (lab : Nm → Nm), fatesL bs (xs ++ ys) lab = fatesL bs xs lab ++ fatesL bs ys (labsL bs xs lab)
  | [], _, _ => rfl
  | l :: xs, ys, lab => by
    show _ :: fatesL bs (xs ++ ys) _ = _ :: (fatesL bs xs _ ++ _)
    rw [fatesL_app bs xs ys]
    rfl
theorem labsL_app (bs : List (Nm × Nm)) (xs ys : List Lk) (lab : Nm → Nm) : labsL bs (xs ++ ys) lab = labsL bs ys (labsL bs xs lab) := List.foldl_append
theorem fatesL_len (bs : List (Nm × Nm)) : ∀ (xs : List Lk) (lab : Nm → Nm), (fatesL bs xs lab).length = xs.length
  | [], _ => rfl
  | l :: xs, lab => congrArg (· + 1) (fatesL_len bs xs _)
def fsD (fs : List Nat) : List PyData := fs.map fun n => .str (fateS n)
def lnD (ls : List Lk) : PyData := .tuple (ls.map lkD)
def InL (ns : List Nm) (ls : List Lk) : Prop := ∀ l ∈ ls, l.2.1 ∈ ns ∧ l.2.2 ∈ ns
section
variable {P : Program} {w : World} {K : PySem.W.Frag} {mg : Str → Option Value} {base : Heap} {f : Addr} {fd : FuncData}
theorem sc27 : FnScope ["names", "links", "bars", "groups", "fates", "link"] ["names", "links", "bars"] (defScope (top 27)) := ⟨rfl, rfl, rfl, by decide +kernel, rfl, by decide +kernel, by decide +kernel⟩
def sp27 (P : Program) (w : World) (K : PySem.W.Frag) : Sp := fun vs H Q _ => ∃ (B : Hp) (a b c : V) (ns : List Nm) (ls : List Lk) (bs : List (Nm × Nm)) (db : PyData), vs = [a, b, c] ∧ Sub B H ∧ Dp K B a (nmsD ns) ∧ Dp K B b db ∧ items db = some (ls.map lkD) ∧ Dp K B c (brs bs) ∧ InL ns ls ∧ InB ns bs ∧ ls.length ≤ 1000 ∧ bs.length ≤ 1000 ∧ ns.Nodup ∧ ns.length ≤ 1000 ∧
  ∀ t tf d B2 H2, Nxt B H B2 H2 → H d = none → B2 t = some (.tup [tf, .ref d]) → Dp K B2 tf (.tuple (fsD (fatesL bs ls id))) → Gr P w K B2 H2 d ns (labsL bs ls id) → Q (.ref t) H2
theorem ok27 (F : Fun K "rule_groups" "rule_groups" (top 27) f fd) (nb : NoGl mg) (F22 : Dfn P w K mg base 1 "lone_groups" ["names"] (sp22 P w K)) (F26 : Dfn P w K mg base 2 "next_fate" ["groups", "bars", "link"] (sp26 P w K)) : FnOk P w K mg base CX0 3 f fd ["names", "links", "bars"] (sp27 P w K) := by
  refine imp_fn F sc27 nb (fun vs H Q E ⟨_, _, _, _, _, _, _, _, e, _⟩ => by rw [e]; rfl) fun cdv A outer s H E vs Q hr W hsp => ?_
  obtain ⟨B, a, b, c, ns, ls, bs, db, rfl, sb, ha, hb, hib, hc, inl, inb, zl, zb, nd, hn, fin⟩ := hsp
  obtain ⟨f22, fd22, G22, m22, k22, b22⟩ := F22.ex
  refine ss_cons (le_S (ps_par (i := 3) (j := 4) W.calm W.nd rfl rfl (by decide) rfl rfl (pa_cons (pe_call G22 (hr.mono (by decide)) (by rfl) m22 k22 b22 .nil pass0 (pa_cons (pv 0) pa_nil)) (pa_cons (pe_lst pa_nil) pa_nil)) rfl) ?_)
  refine ⟨a, rfl, B, a, ns, rfl, sb, ha, nd, hn, fun d B2 H2 hd n G => ⟨by show 0 ≤ sizeLine; decide, fun l hl => ⟨_, _, rfl, ?_⟩⟩⟩
  have hl2 := n.back hl
  have n1 : Nxt B2 H2 B2 (upd H2 l (.lst [])) := Nxt.mut n.i hl
  have ML : MLst K B2 (upd H2 l (.lst [])) l [] := ⟨n.i.none hl, [], upd_same, .nil⟩
  have hne : d ≠ l := ne_of_none G.is.choose_spec hl
  refine ss_cons (s_for PassesOwn.never (pgn 5) hib n1.i (ev_var 1 (hb.up n.b)) (fun i σ' B' H' => (∃ x, σ' = [some a, some b, some c, some (.ref d), some (.ref l), x]) ∧ Nxt B H B' H' ∧ MLst K B' H' l (fsD (fatesL bs (ls.take i) id)) ∧ Gr P w K B' H' d ns (labsL bs (ls.take i) id)) (fun B4 H4 n4 => ⟨⟨none, rfl⟩, (n.trans n1).trans n4, ML.nxt n4, (G.nxt n1).nxt n4⟩) ?_ ?_)
  · intro B4 s4 i d0 x σ' B' H' hx pv sB sH dx
    obtain ⟨⟨y, rfl⟩, nn, M, G'⟩ := pv
    rw [List.getElem?_map] at hx
    obtain ⟨lk, hlk, rfl⟩ := Option.map_eq_some_iff.mp hx
    have mem := inl lk (List.mem_of_getElem? hlk)
    have et : ls.take (i + 1) = ls.take i ++ [lk] := by rw [List.take_add_one, hlk]; rfl
    have hc' := (hc.up n.b).up (s4.trans sB)
    refine ss_one (s_appendW 4 M (w_callD 3 F26 hr sH (av_cons (ev_var 2 hc') (av_cons (ev_var 5 dx) av_nil)) fun vs B5 H5 n5 dd => ?_))
    obtain ⟨v1, v2, rfl, d1, d2⟩ := dp2 dd
    refine ⟨B5, d, v1, v2, ns, _, bs, lk, rfl, n5.i, G'.nxt n5, d1, d2, mem.1, mem.2, inb, zb, nd, hn, fun B6 H6 n6 G6 => ?_⟩
    obtain ⟨xs, h1, h2⟩ := ((M.nxt n5).nxtE n6 hne.symm).h
    have bl : B6 l = none := ((M.nxt n5).nxtE n6 hne.symm).b
    have hlen : xs.length < sizeLine := by
      rw [h2.len]
      unfold fsD
      rw [List.length_map, fatesL_len, List.length_take]
      have : (1000 : Nat) < sizeLine := by decide
      omega
    refine ⟨xs, h1, hlen, B6, (sB.trans n5.b).trans n6.b, n6.i.upd bl, ⟨_, rfl⟩, ?_, ⟨bl, _, upd_same, ?_⟩, ?_⟩
    · exact (NxtE.nxt (nn.trans n5) n6 hd).put hl2 bl
    · rw [et, fatesL_app]
      have e : fsD (fatesL bs (ls.take i) id ++ fatesL bs [lk] (labsL bs (ls.take i) id)) = fsD (fatesL bs (ls.take i) id) ++ [.str (fateS (fateN (labsL bs (ls.take i) id) bs lk))] := by
        unfold fsD
        rw [List.map_append]
        rfl
      rw [e]
      exact h2.app (.cons (.str _) .nil)
    · have e : labsL bs (ls.take (i + 1)) id = nextL (labsL bs (ls.take i) id) bs lk := by rw [et, labsL_app]; rfl
      rw [e]
      have nput : NxtE l B6 H6 B6 (upd H6 l (.lst (xs ++ [.str (fateS (fateN (labsL bs (ls.take i) id) bs lk))]))) := NxtE.put (Nxt.refl n6.i) h1 bl
      exact G6.nxtE nput hne
  · rintro σ' B' H' ⟨⟨y, rfl⟩, nn, M, G'⟩ s1 s2
    rw [List.length_map, List.take_length] at M G'
    obtain ⟨xs, h1, h2⟩ := M.h
    have n5 : Nxt B H (upd B' l (.lst xs)) H' := nn.frz hl2 h1 M.b
    have dd : Dp K (upd B' l (.lst xs)) (.ref l) (.list (fsD (fatesL bs ls id))) := dpL upd_same (h2.up (Sub.updL M.b))
    have G5 : Gr P w K (upd B' l (.lst xs)) H' d ns (labsL bs ls id) := G'.frzL hne M.b
    refine ss_one (le_S (ps_ret (pe_tup (pa_cons pe_w (pa_cons (pv 3) pa_nil)))) ((ev_tupleOf (X := (cxOf CX0 P w K mg base ["names", "links", "bars", "groups", "fates", "link"] "rule_groups" (defScope (top 27)) f cdv A outer s H E).nox) rfl (ev_var 4 dd)) H' n5.i _ fun v B6 H6 n6 dv => ⟨_, rfl, by show 2 ≤ sizeLine; decide, fun t ht => ?_⟩))
    have nt := Nxt.new (o := .tup [v, .ref d]) n6.i ht
    exact fin t v d _ _ ((n5.trans n6).trans nt) hd upd_same (dv.up nt.b) ((G5.nxt n6).nxt nt)
end
end Who

namespace Who
open PySem L2 PySem.Spec PyProof.Rows
/-! sorted names -/
def leN (a b : Nm) : Bool := keyLe id (nmD a) (nmD b)
def srt (ns : List Nm) : List Nm := ns.mergeSort leN
theorem srt_map (ns : List Nm) : (ns.map nmD).mergeSort (keyLe id) = (srt ns).map nmD := (PySem.W.sort_maps (r := leN) (s := keyLe id) (l := ns) nmD (fun _ _ _ _ => rfl)).symm
theorem mem_srt {ns : List Nm} {n : Nm} : n ∈ srt ns ↔ n ∈ ns := (List.mergeSort_perm _ _).mem_iff
theorem len_srt (ns : List Nm) : (srt ns).length = ns.length := (List.mergeSort_perm _ _).length_eq
theorem alike_nms (ns : List Nm) : PySem.W.AllAlike (ns.map nmD) := fun d hd d' hd' => by
  obtain ⟨x, _, rfl⟩ := List.mem_map.mp hd
  obtain ⟨x', _, rfl⟩ := List.mem_map.mp hd'
  simp [nmD, PySem.W.alike, PySem.W.alikeAll]
theorem sortable_nms (ns : List Nm) : PySem.W.Sortable (ns.map nmD) := .inl fun d hd => by
  obtain ⟨x, _, rfl⟩ := List.mem_map.mp hd
  exact ⟨_, _, rfl⟩
theorem depth_nms60 (ns : List Nm) : ∀ d ∈ ns.map nmD, d.depth ≤ 60 := fun d hd => by
  obtain ⟨x, _, rfl⟩ := List.mem_map.mp hd
  have : (nmD x).depth ≤ 2 := by simp [nmD, PyData.depth, PyData.depthAll]
  omega
/-- the labels in the order in which they come first -/
def firsts {α : Type} [DecidableEq α] (lab : Nm → α) (xs : List Nm) : List α := xs.foldl (fun L n => if lab n ∈ L then L else L ++ [lab n]) []
theorem firsts_snoc {α : Type} [DecidableEq α] (lab : Nm → α) (xs : List Nm) (n : Nm) : firsts lab (xs ++ [n]) = if lab n ∈ firsts lab xs then firsts lab xs else firsts lab xs ++ [lab n] := by
  unfold firsts
  rw [List.foldl_append]
  rfl
def rowL {α : Type} [DecidableEq α] (lab : Nm → α) (xs : List Nm) (m : α) : List Nm := xs.filter fun n => decide (lab n = m)
theorem firsts_rev {α : Type} [DecidableEq α] (lab : Nm → α) (xs : List Nm) : ∀ n ∈ xs, lab n ∈ firsts lab xs := by
  have key : ∀ (ys : List Nm), ∀ n ∈ ys.reverse, lab n ∈ firsts lab ys.reverse := by
    intro ys
    induction ys with
    | nil => intro n hn; simp at hn
    | cons y ys ih =>
      intro n hn
      rw [List.reverse_cons] at hn ⊢
      rw [firsts_snoc]
      rcases List.mem_append.mp hn with z | z
      · have := ih n z
        split
        · exact this
        · exact List.mem_append_left _ this
      · have e : n = y := List.mem_singleton.mp z
        subst e
        split
        · assumption
        · exact List.mem_append_right _ (List.mem_singleton.mpr rfl)
  have := key xs.reverse
  rw [List.reverse_reverse] at this
  exact this
theorem rowL_none {α : Type} [DecidableEq α] {lab : Nm → α} {xs : List Nm} {m : α} (h : m ∉ firsts lab xs) : rowL lab xs m = [] :=
  List.filter_eq_nil_iff.mpr fun n hn e => h ((of_decide_eq_true e) ▸ firsts_rev lab xs n hn)
theorem rowL_snoc {α : Type} [DecidableEq α] (lab : Nm → α) (xs : List Nm) (n : Nm) (m : α) : rowL lab (xs ++ [n]) m = if m = lab n then rowL lab xs m ++ [n] else rowL lab xs m := by
  unfold rowL
  rw [List.filter_append]
  by_cases e : m = lab n
  · subst e; rw [if_pos rfl]; simp
  · rw [if_neg e]; simp [Ne.symm e]
theorem firsts_len {α : Type} [DecidableEq α] (lab : Nm → α) (xs : List Nm) : (firsts lab xs).length ≤ xs.length := by
  have key : ∀ (ys : List Nm), (firsts lab ys.reverse).length ≤ ys.length := by
    intro ys
    induction ys with
    | nil => exact Nat.le_refl _
    | cons y ys ih =>
      rw [List.reverse_cons, firsts_snoc]
      split
      · exact Nat.le_succ_of_le ih
      · rw [List.length_append]
        exact Nat.succ_le_succ ih
  have := key xs.reverse
  rw [List.reverse_reverse, List.length_reverse] at this
  exact this
theorem nodup_inj {α β : Type} {f : α → β} {p q : α} : ∀ {xs : List α}, (xs.map f).Nodup → p ∈ xs → q ∈ xs → f p = f q → p = q
  | [], _, hp, _, _ => by cases hp
  | x :: xs, h, hp, hq, e => by
    rw [List.map_cons, List.nodup_cons] at h
    rcases List.mem_cons.mp hp with e1 | hp'
    · rcases List.mem_cons.mp hq with e2 | hq'
      · rw [e1, e2]
      · rw [e1] at e
        exact absurd (List.mem_map.mpr ⟨q, hq', e.symm⟩) h.1
    · rcases List.mem_cons.mp hq with e2 | hq'
      · rw [e2] at e
        exact absurd (List.mem_map.mpr ⟨p, hp', e⟩) h.1
      · exact nodup_inj h.2 hp' hq' e
theorem nodup_nmK : ∀ {ls : List Nm}, ls.Nodup → (ls.map nmK).Nodup
  | [], _ => List.nodup_nil
  | x :: ls, h => by
    rw [List.nodup_cons] at h
    rw [List.map_cons, List.nodup_cons]
    refine ⟨fun z => ?_, nodup_nmK h.2⟩
    obtain ⟨y, hy, e⟩ := List.mem_map.mp z
    exact h.1 (nmK_inj e ▸ hy)
theorem nodup_snoc {α : Type} {ls : List α} {m : α} (h : ls.Nodup) (hm : m ∉ ls) : (ls ++ [m]).Nodup := by
  rw [List.nodup_append]
  refine ⟨h, by simp, fun a ha b hb => ?_⟩
  rw [List.mem_singleton.mp hb]
  exact fun e => hm (e ▸ ha)
theorem firsts_nodup {α : Type} [DecidableEq α] (lab : Nm → α) (xs : List Nm) : (firsts lab xs).Nodup := by
  have key : ∀ (ys : List Nm), (firsts lab ys.reverse).Nodup := by
    intro ys
    induction ys with
    | nil => exact List.nodup_nil
    | cons y ys ih =>
      rw [List.reverse_cons, firsts_snoc]
      split
      · exact ih
      · exact nodup_snoc ih (by assumption)
  have := key xs.reverse
  rw [List.reverse_reverse] at this
  exact this
/-- rows of names, lists that are filled -/
structure RSt (P : Program) (w : World) (K : PySem.W.Frag) (H0 B H : Hp) (r : Addr) (ls : List Nm) (row : Nm → List Nm) : Prop where
  b : B r = none
  h0 : H0 r = none
  nd : ls.Nodup
  h : ∃ ps : List NP, H r = some (NdO P w r ps) ∧ KeysAt K B ps ∧ ps.map (·.1) = ls.map nmK ∧ (∀ p ∈ ps, ∃ l xs n, p.1 = nmK n ∧ p.2.2 = .ref l ∧ B l = none ∧ H0 l = none ∧ H l = some (.lst xs) ∧ DpAll K B xs ((row n).map nmD)) ∧ (ps.map fun p => p.2.2).Nodup
section
variable {P : Program} {w : World} {K : PySem.W.Frag} {H0 B H B2 H2 : Hp} {r : Addr} {ls : List Nm} {row : Nm → List Nm}
theorem RSt.nxt (m : RSt P w K H0 B H r ls row) (n : Nxt B H B2 H2) : RSt P w K H0 B2 H2 r ls row := by
  obtain ⟨ps, h1, h2, h3, h4, h5⟩ := m.h
  refine ⟨n.av r _ h1 m.b, m.h0, m.nd, ps, n.h r _ h1, h2.up n.b, h3, fun p hp => ?_, h5⟩
  obtain ⟨l, xs, k, e1, e2, e3, e4, e5, e6⟩ := h4 p hp
  exact ⟨l, xs, k, e1, e2, n.av l _ e5 e3, e4, n.h l _ e5, e6.up n.b⟩
theorem RSt.is (m : RSt P w K H0 B H r ls row) : ∃ u, H r = some u := let ⟨_, h, _⟩ := m.h; ⟨_, h⟩
/-- a name is put at the end of its row -/
theorem RSt.app (m : RSt P w K H0 B H r ls row) (s : Sub B H) {k nm : Nm} {y : V} (hk : k ∈ ls) (hy : Dp K B y (nmD nm)) : ∃ ps l xs, H r = some (NdO P w r ps) ∧ KeysAt K B ps ∧ ps.length = ls.length ∧ psAt ps (nmK k) = some (.ref l) ∧ H l = some (.lst xs) ∧ xs.length = (row k).length ∧ l ≠ r ∧ B l = none ∧ H0 l = none ∧
    RSt P w K H0 B (upd H l (.lst (xs ++ [y]))) r ls (fun n => if n = k then row n ++ [nm] else row n) := by
  obtain ⟨ps, h1, h2, h3, h4, h5⟩ := m.h
  obtain ⟨p, hp, e0, e0'⟩ := psAt_mem (ps := ps) (k := nmK k) (by rw [h3]; exact mem_nmK hk)
  obtain ⟨l, xs, n, e1, e2, e3, e4, e5, e6⟩ := h4 p hp
  have en : n = k := nmK_inj (e1.symm.trans e0)
  subst en
  have hlr : l ≠ r := ne_of e5 h1 (fun z => nomatch z)
  refine ⟨ps, l, xs, h1, h2, by have := congrArg List.length h3; rwa [List.length_map, List.length_map] at this, by rw [e0', e2], e5, by rw [e6.len, List.length_map], hlr, e3, e4, m.b, m.h0, m.nd, ps, by rw [upd_ne hlr.symm]; exact h1, h2, h3, fun q hq => ?_, h5⟩
  obtain ⟨l', xs', n', f1, f2, f3, f4, f5, f6⟩ := h4 q hq
  by_cases z : l' = l
  · subst z
    rw [e5] at f5
    cases f5
    have hpq : p = q := nodup_inj h5 hp hq (by rw [e2, f2])
    subst hpq
    have en' : n' = n := nmK_inj (f1.symm.trans e1)
    subst en'
    refine ⟨l', xs ++ [y], n', f1, f2, f3, f4, upd_same, ?_⟩
    rw [if_pos rfl, List.map_append]
    exact f6.app (.cons hy .nil)
  · refine ⟨l', xs', n', f1, f2, f3, f4, by rw [upd_ne z]; exact f5, ?_⟩
    have hne : n' ≠ n := fun e => z (by
      have hpq : p = q := nodup_inj (f := fun p : NP => p.1) (by rw [h3]; exact nodup_nmK m.nd) hp hq (by rw [e1, f1, e])
      subst hpq
      rw [e2] at f2
      injection f2 with f2
      exact f2.symm)
    rw [if_neg hne]
    exact f6
/-- a new row with a name -/
theorem RSt.new (m : RSt P w K H0 B H r ls row) (s : Sub B H) {k nm : Nm} {a z : Addr} {y : V} (hy : Dp K B y (nmD nm)) (hk : k ∉ ls) (e : row k = []) (ha : KeyAt K B a (nmK k)) (hz : H z = none) (h0z : H0 z = none) : ∃ ps, H r = some (NdO P w r ps) ∧ KeysAt K B ps ∧ ps.length = ls.length ∧ psAt ps (nmK k) = none ∧ z ≠ r ∧
    RSt P w K H0 B (upd (upd (upd H z (.lst [])) r (NdO P w r (psPut ps (nmK k) a (.ref z)))) z (.lst ([] ++ [y]))) r (ls ++ [k]) (fun n => if n = k then row n ++ [nm] else row n) := by
  obtain ⟨ps, h1, h2, h3, h4, h5⟩ := m.h
  have hno : nmK k ∉ ps.map (·.1) := by
    rw [h3]
    intro q
    obtain ⟨y, hy, e⟩ := List.mem_map.mp q
    exact hk (nmK_inj e ▸ hy)
  have hat := psAt_no hno
  have eput : psPut ps (nmK k) a (.ref z) = ps ++ [(nmK k, a, .ref z)] := by
    unfold psPut
    rw [hat]
    rfl
  have hzr : z ≠ r := (ne_of_none h1 hz).symm
  refine ⟨ps, h1, h2, by have := congrArg List.length h3; rwa [List.length_map, List.length_map] at this, hat, hzr, m.b, m.h0, nodup_snoc m.nd hk, _, by rw [upd_ne hzr.symm]; exact upd_same, h2.put ha, ?_, fun p hp => ?_, ?_⟩
  · rw [eput, List.map_append, h3, List.map_append]; rfl
  · rw [eput] at hp
    rcases List.mem_append.mp hp with q | q
    · obtain ⟨l, xs, n, e1, e2, e3, e4, e5, e6⟩ := h4 p q
      have hlr : l ≠ r := ne_of e5 h1 (fun z => nomatch z)
      have hlz : l ≠ z := ne_of_none e5 hz
      have hn : n ≠ k := fun en => hno (by rw [← en, ← e1]; exact List.mem_map.mpr ⟨p, q, rfl⟩)
      exact ⟨l, xs, n, e1, e2, e3, e4, by rw [upd_ne hlz, upd_ne hlr, upd_ne hlz]; exact e5, by rw [if_neg hn]; exact e6⟩
    · have ep : p = (nmK k, a, .ref z) := List.mem_singleton.mp q
      subst ep
      exact ⟨z, [] ++ [y], k, rfl, rfl, s.none hz, h0z, upd_same, by rw [if_pos rfl, e]; exact .cons hy .nil⟩
  · rw [eput, List.map_append]
    refine nodup_snoc h5 fun q => ?_
    obtain ⟨p, hp, ep⟩ := List.mem_map.mp q
    obtain ⟨l, xs, n, e1, e2, e3, e4, e5, e6⟩ := h4 p hp
    have : l = z := by
      have e7 : p.2.2 = V.ref z := ep
      rw [e2] at e7
      injection e7
    exact ne_of_none e5 hz this
def rowK (row : Nm → List Nm) : NestedKey → PyData
  | .tup [.num i, .num j] => .list ((row (i, j)).map nmD)
  | _ => .none
theorem rowK_at (row : Nm → List Nm) (n : Nm) : rowK row (nmK n) = .list ((row n).map nmD) := rfl
open Classical in
/-- all rows stand in the base -/
theorem RSt.frz {B0 : Hp} (m : RSt P w K H0 B H r ls row) (n : Nxt B0 H0 B H) : ∃ B', Nxt B0 H0 B' H ∧ Sub B B' ∧ FD P w K B' r (ls.map nmK) (rowK row) := by
  obtain ⟨ps, h1, h2, h3, h4, h5⟩ := m.h
  let Mx : Addr → Prop := fun a => a = r ∨ ∃ p ∈ ps, p.2.2 = .ref a
  let B' : Hp := fun a => if (B a).isSome = true then B a else if Mx a then H a else none
  have sB : Sub B B' := fun a o h => by
    show (if (B a).isSome = true then B a else if Mx a then H a else none) = some o
    rw [if_pos (by rw [h]; rfl)]
    exact h
  have atM : ∀ a o, B a = none → Mx a → H a = some o → B' a = some o := fun a o hb hm hh => by
    show (if (B a).isSome = true then B a else if Mx a then H a else none) = some o
    rw [hb, if_neg (by simp), if_pos hm]
    exact hh
  refine ⟨B', ⟨n.b.trans sB, n.h, fun a o h => ?_, fun a o h z => ?_⟩, sB, ps, atM r _ m.b (.inl rfl) h1, h2.up sB, h3, fun p hp => ?_⟩
  · have h' : (if (B a).isSome = true then B a else if Mx a then H a else none) = some o := h
    by_cases e : (B a).isSome = true
    · rw [if_pos e] at h'; exact n.i a o h'
    · rw [if_neg e] at h'
      by_cases e2 : Mx a
      · rw [if_pos e2] at h'; exact h'
      · rw [if_neg e2] at h'; cases h'
  · have hb := n.av a o h z
    show (if (B a).isSome = true then B a else if Mx a then H a else none) = none
    rw [hb, if_neg (by simp), if_neg]
    rintro (e | ⟨p, hp, e⟩)
    · subst e; rw [m.h0] at h; cases h
    · obtain ⟨l, xs, k, e1, e2, e3, e4, e5, e6⟩ := h4 p hp
      rw [e2] at e
      injection e with e
      subst e
      rw [e4] at h
      cases h
  · obtain ⟨l, xs, k, e1, e2, e3, e4, e5, e6⟩ := h4 p hp
    rw [e2, e1, rowK_at]
    exact dpL (atM l _ e3 (.inr ⟨p, hp, e2⟩) e5) (e6.up sB)
end
end Who

namespace Who
open PySem L2 PySem.Spec PyProof.Rows
/-- what told_groups gives -/
def toldD (ns : List Nm) (lab : Nm → Nm) : PyData := .tuple ((srt (firsts lab (srt ns))).map fun m => .tuple ((rowL lab (srt ns) m).map nmD))
def unRow (row : Nm → List Nm) : PyData → PyData
  | .tuple [.int i, .int j] => .tuple ((row (i, j)).map nmD)
  | _ => .none
section
variable {P : Program} {w : World} {K : PySem.W.Frag} {mg : Str → Option Value} {base : Heap} {f : Addr} {fd : FuncData}
theorem sc25 : FnScope ["groups", "rows", "name", "least"] ["groups"] (defScope (top 25)) := ⟨rfl, rfl, rfl, by decide +kernel, rfl, by decide +kernel, by decide +kernel⟩
def sp25 (P : Program) (w : World) (K : PySem.W.Frag) : Sp := fun vs H Q _ => ∃ (B : Hp) (d : Addr) (ns : List Nm) (lab : Nm → Nm), vs = [.ref d] ∧ Sub B H ∧ FGr P w K B d ns lab ∧ ns.length ≤ 1000 ∧
  ∀ v B2 H2, Nxt B H B2 H2 → Dp K B2 v (toldD ns lab) → Q v H2
theorem ok25 (F : Fun K "told_groups" "told_groups" (top 25) f fd) (nb : NoGl mg) : FnOk P w K mg base CX0 1 f fd ["groups"] (sp25 P w K) := by
  refine imp_fn F sc25 nb (fun vs H Q E ⟨_, _, _, _, e, _⟩ => by rw [e]; rfl) fun cdv A outer s H E vs Q hr W hsp => ?_
  obtain ⟨B, d, ns, lab, rfl, sb, FG, hz, fin⟩ := hsp
  refine ss_cons (s_newD (g := fun _ => .none) 1 sb fun r H2 hr2 n MG => ?_)
  have R0 : RSt P w K H B H2 r [] (fun _ => []) := by
    obtain ⟨ps, h1, h2, h3, h4⟩ := MG.h
    have e : ps = [] := List.map_eq_nil_iff.mp h3
    subst e
    exact ⟨MG.b, hr2, List.nodup_nil, [], h1, h2, rfl, (fun p hp => nomatch hp), List.nodup_nil⟩
  have FG2 := FG.up n.b
  refine ss_cons (s_for (ds := (srt ns).map nmD) PassesOwn.never (pgn 2) rfl n.i (EV.is (ev_sorted (alike_nms ns) (sortable_nms ns) (depth_nms60 ns) ?_) (by rw [srt_map])) (fun i σ' B' H' => (∃ x, σ' = [some (.ref d), some (.ref r), x, none]) ∧ Nxt B H B' H' ∧ RSt P w K H B' H' r (firsts lab ((srt ns).take i)) (rowL lab ((srt ns).take i))) (fun B4 H4 n4 => ⟨⟨none, rfl⟩, n.trans n4, R0.nxt n4⟩) ?_ ?_)
  · obtain ⟨g, F, hg⟩ := FG2
    exact EV.is (ev_listD 0 F) (by rw [keys_nm])
  · intro B4 s4 i d0 x σ' B' H' hx pv sB sH dx
    obtain ⟨⟨y, rfl⟩, nn, R⟩ := pv
    rw [List.getElem?_map] at hx
    obtain ⟨nm, hnm, rfl⟩ := Option.map_eq_some_iff.mp hx
    have mem : nm ∈ ns := mem_srt.mp (List.mem_of_getElem? hnm)
    have hil : i < (srt ns).length := (List.getElem?_eq_some_iff.mp hnm).1
    rw [len_srt] at hil
    have et : (srt ns).take (i + 1) = (srt ns).take i ++ [nm] := by rw [List.take_add_one, hnm]; rfl
    have FG' := FG2.up (s4.trans sB)
    have hlen : ((srt ns).take i).length ≤ 1000 := by rw [List.length_take]; omega
    refine ss_one (le_S (ps_expr (pe_bm PySem.F.plainAttrs_list PySem.F.slot_list_append PySem.F.type_list_append mt_append (pe_nsetd (un10 _) (pv 1) pe_w (pe_lst pa_nil) ⟨rfl, rfl, rfl, rfl⟩) (pa_cons (pv 2) pa_nil))) ?_)
    obtain ⟨ps0, g1, _⟩ := R.h
    refine ⟨_, rfl, r, ps0, rfl, g1, (ev_gr (X := (cxOf CX0 P w K mg base ["groups", "rows", "name", "least"] "told_groups" (defScope (top 25)) f cdv A outer s H E).nox) 0 FG' mem (ev_var 2 dx)) H' sH _ fun v B5 H5 n5 dv => ⟨by show 0 ≤ sizeLine; decide, fun z hz5 => ?_⟩⟩
    have dx5 := dx.up n5.b
    have nz : Nxt B5 H5 B5 (upd H5 z (.lst [])) := Nxt.mut n5.i hz5
    have R5 := R.nxt n5
    have R6 := R5.nxt nz
    have h0z : H z = none := (nn.trans n5).back hz5
    obtain ⟨a, rfl, hka⟩ := okKey_at (ok_nm (lab nm)) (show Dp K B5 v (kD (nmK (lab nm))) by rw [kD_nm]; exact dv)
    have big : (1000 : Nat) < sizeLine := by decide
    have fl := firsts_len lab ((srt ns).take i)
    have e : rowL lab ((srt ns).take (i + 1)) = fun n => if n = lab nm then rowL lab ((srt ns).take i) n ++ [nm] else rowL lab ((srt ns).take i) n := by
      rw [et]
      exact funext fun n => rowL_snoc lab _ nm n
    have n5' := nn.trans n5
    by_cases hin : lab nm ∈ firsts lab ((srt ns).take i)
    · obtain ⟨ps, l, xs, k1, hks, hpl, k2, k3, k4, k5, k6, k7, RR⟩ := R6.app nz.i (k := lab nm) (nm := nm) hin dx5
      refine ⟨a, nmK (lab nm), ps, rfl, hka.up nz.i, k1, hks.up nz.i, by omega, fun v hv => ?_, fun hv => ?_⟩
      · rw [k2] at hv
        cases hv
        refine ⟨.inl ⟨rfl, xs, .inl (.inl k3)⟩, x, rfl, l, xs, x, rfl, rfl, k3, ?_, ?_⟩
        · have : (rowL lab ((srt ns).take i) (lab nm)).length ≤ ((srt ns).take i).length := List.length_filter_le _ _
          omega
        · refine ⟨B5, sB.trans n5.b, nz.i.upd k6, ⟨_, rfl⟩, (n5'.trans nz).put k7 k6, ?_⟩
          rw [e, et, firsts_snoc, if_pos hin]
          exact RR
      · rw [k2] at hv; cases hv
    · obtain ⟨ps, k1, hks, hpl, k2, hzr, RR⟩ := R5.new n5.i (k := lab nm) (nm := nm) dx5 hin (rowL_none hin) hka hz5 h0z
      have k1' : (upd H5 z (.lst [])) r = some (NdO P w r ps) := by rw [upd_ne hzr.symm]; exact k1
      have k3 : (upd (upd H5 z (.lst [])) r (NdO P w r (psPut ps (nmK (lab nm)) a (.ref z)))) z = some (.lst []) := by rw [upd_ne hzr]; exact upd_same
      have bz : B5 z = none := n5.i.none hz5
      refine ⟨a, nmK (lab nm), ps, rfl, hka.up nz.i, k1', hks.up nz.i, by omega, fun v hv => ?_, fun _ => ?_⟩
      · rw [k2] at hv; cases hv
      · refine ⟨.inl ⟨rfl, [], .inl (.inl k3)⟩, x, rfl, z, [], x, rfl, rfl, k3, by show 0 < sizeLine; decide, ?_⟩
        refine ⟨B5, sB.trans n5.b, (nz.i.upd R5.b).upd bz, ⟨_, rfl⟩, ((n5'.trans nz).put hr2 R5.b).put h0z bz, ?_⟩
        rw [e, et, firsts_snoc, if_neg hin]
        exact RR
  · rintro σ' B' H' ⟨⟨y, rfl⟩, nn, R⟩ s1 s2
    rw [List.length_map, List.take_length] at R
    obtain ⟨Bf, nf, sf, FR⟩ := R.frz nn
    refine ss_one (s_ret nf.i (EV.is (ev_tupleOf rfl (ev_lcL (own := [("least", 3)]) (ds := (srt (firsts lab (srt ns))).map nmD) (unRow (rowL lab (srt ns))) (blkOk_by (by rfl)) (fun _ _ _ _ _ => pgn 3) (EV.is (ev_sorted (alike_nms _) (sortable_nms _) (depth_nms60 _) (EV.is (ev_listD 1 FR) (by rw [keys_nm]))) (by rw [srt_map])) ?_ fun x d0 B3 hd s3 hx => ?_)) ?_) fun v B6 H6 n6 z => fin v B6 H6 (nf.trans n6) z)
    · have := firsts_len lab (srt ns)
      rw [List.length_map, len_srt]
      rw [len_srt] at this
      omega
    · obtain ⟨m, hm, rfl⟩ := List.mem_map.mp hd
      refine lc_name 3 fun _ _ _ _ _ => ?_
      exact EV.is (ev_tupleOf (ds := (rowL lab (srt ns) m).map nmD) rfl (EV.is (ev_nget 1 (FR.up s3) (mem_nmK (mem_srt.mp hm)) (ok_nm m) (EV.is (ev_var 3 hx) (kD_nm m).symm)) (rowK_at _ m))) rfl
    · rw [List.map_map]
      rfl
end
end Who

namespace Who
open PySem L2 PySem.Spec PyProof.Rows
section
variable {X : Cx} {e o : PySem.Expr} {es : List PySem.Expr} {pos p p2 : Pos} {σ : Stt} {B H : Hp} {ds : List PyData} {m : Addr}
theorem wE_mono {Q1 Q2 : VK} (q : ∀ v H2, Q1 v H2 → Q2 v H2) (w : wE X e σ H Q1) : wE X e σ H Q2 := fun pins s I => thn (w pins s I) fun a s' ⟨v, H', I', r, z⟩ => ⟨v, H', I', r, q v H' z⟩
theorem w_call {k j : Nat} {x : Str} {ps : List Str} {sp : Sp} {Q : VK} (F : Dfn X.prog X.w X.K X.mg X.base j x ps sp) (hr : Room k X.A) (s : Sub B H) (ha : AV X (e :: es) σ B ds) (hsp : ∀ vs B1 H1, Nxt B H B1 H1 → DpAll X.K B1 vs ds → sp vs H1 Q E0) (hj : j ≤ k := by decide) (hg : Gl X x := by rfl) (hdb : (x == ("__debug__" : Str)) = false := by decide)
    (he : starEach (e :: es) X.env = (false, eval e X.env) :: starEach es X.env := by rfl) (hpl : (backTo pos (starEach es X.env)).any (·.1) = false := by rfl) : wE X (.Call (.Name x p) (e :: es) [] pos) σ H Q := by
  obtain ⟨fa, fd, G, hm, hk, hb⟩ := F.ex
  refine le_E (pe_call G (hr.mono hj) hg hm hk hb .nil pass0 pa_w hdb he hpl) (ha H s _ fun vs B2 H2 nn dd => ?_)
  show sp (vs ++ []) H2 Q E0
  rw [List.append_nil]
  exact hsp vs B2 H2 nn dd
/-- f(e), e any expression -/
theorem w_call1 {k j : Nat} {x : Str} {ps : List Str} {sp : Sp} {Q : VK} (F : Dfn X.prog X.w X.K X.mg X.base j x ps sp) (hr : Room k X.A) (h : wE X e σ H fun v H1 => sp [v] H1 Q E0) (hj : j ≤ k := by decide) (hg : Gl X x := by rfl) (hdb : (x == ("__debug__" : Str)) = false := by decide)
    (he : starEach [e] X.env = (false, eval e X.env) :: starEach [] X.env := by rfl) (hpl : (backTo pos (starEach [] X.env)).any (·.1) = false := by rfl) : wE X (.Call (.Name x p) [e] [] pos) σ H Q := by
  obtain ⟨fa, fd, G, hm, hk, hb⟩ := F.ex
  exact le_E (pe_call G (hr.mono hj) hg hm hk hb .nil pass0 (pa_cons pe_w pa_nil he) hdb he hpl) h
/-- e[m] of a tuple -/
theorem w_ix {i : Int} {kk : Nat} {Q : VK} (h : wE X o σ H fun v H1 => ∃ t xs w, v = .ref t ∧ SqT X.K H1 t xs ∧ atI xs i = some w ∧ Q w H1) (hs : PlainIx (.Constant (.int i) kk p2) := by intro _ _; rfl) : wE X (.Subscript o (.Constant (.int i) kk p2) pos) σ H Q :=
  le_E (pe_ix ix_seq pe_w pe_int hs) (wE_mono (fun v H1 ⟨t, xs, w, e1, e2, e3, e4⟩ => .inr (.inl ⟨t, xs, i, w, e1, rfl, e2, e3, e4⟩)) h)
end
/-! sorted links and bars -/
def leL (a b : Lk) : Bool := keyLe placeK (lkD a) (lkD b)
def srtL (ls : List Lk) : List Lk := ls.mergeSort leL
theorem lksD_eq (ls : List Lk) : lksD ls = lnD (srtL ls) := congrArg PyData.tuple (PySem.W.sort_maps (r := leL) (s := keyLe placeK) (l := ls) lkD (fun _ _ _ _ => rfl)).symm
def leB (a b : Nm × Nm) : Bool := keyLe id (prD a) (prD b)
def srtB (bs : List (Nm × Nm)) : List (Nm × Nm) := bs.mergeSort leB
theorem brsD_eq (bs : List (Nm × Nm)) : brsD bs = brs (srtB bs) := congrArg PyData.tuple (PySem.W.sort_maps (r := leB) (s := keyLe id) (l := bs) prD (fun _ _ _ _ => rfl)).symm
theorem mem_srtL {ls : List Lk} {l : Lk} : l ∈ srtL ls ↔ l ∈ ls := (List.mergeSort_perm _ _).mem_iff
theorem mem_srtB {ls : List (Nm × Nm)} {l : Nm × Nm} : l ∈ srtB ls ↔ l ∈ ls := (List.mergeSort_perm _ _).mem_iff
theorem paired_mem {α β : Type} {F : α → β → Prop} : ∀ {xs : List α} {ys : List β}, Paired F xs ys → ∀ y ∈ ys, ∃ x, F x y
  | _, _, .nil, y, h => by cases h
  | _, _, .cons r t, y, h => by
    rcases List.mem_cons.mp h with e | h
    · subst e; exact ⟨_, r⟩
    · exact paired_mem t y h
theorem LksF.inl {ns : List Nm} {d : PyData} {ls : List Lk} (h : LksF ns d ls) : InL ns (srtL ls) := fun l hl => by
  obtain ⟨xs, _, p, _⟩ := h
  obtain ⟨x, a, b, _, _, _, h1, h2, _⟩ := paired_mem p l (mem_srtL.mp hl)
  exact ⟨h1, h2⟩
theorem BrsF.inb {ns : List Nm} {d : PyData} {bs : List (Nm × Nm)} (h : BrsF ns d bs) : InB ns (srtB bs) := fun l hl => by
  obtain ⟨xs, _, p, _⟩ := h
  obtain ⟨x, a, b, _, _, _, h1, h2, _⟩ := paired_mem p l (mem_srtB.mp hl)
  exact ⟨h1, h2⟩
theorem LksF.len {ns : List Nm} {d : PyData} {ls : List Lk} (h : LksF ns d ls) : (srtL ls).length ≤ 1000 := by
  obtain ⟨xs, _, p, _, z⟩ := h
  unfold srtL
  rw [List.length_mergeSort]
  exact z
theorem BrsF.len {ns : List Nm} {d : PyData} {ls : List (Nm × Nm)} (h : BrsF ns d ls) : (srtB ls).length ≤ 1000 := by
  obtain ⟨xs, _, p, _, z⟩ := h
  unfold srtB
  rw [List.length_mergeSort]
  exact z
theorem nmLt_irrefl (a : Nm) : nmLt a a = false := by unfold nmLt; simp
theorem Asc.nodup {ns : List Nm} (h : Asc ns) : ns.Nodup := List.Pairwise.imp (fun {a b} h e => by rw [e, nmLt_irrefl] at h; cases h) h
section
variable {P : Program} {w : World} {K : PySem.W.Frag} {mg : Str → Option Value} {base : Heap} {f : Addr} {fd : FuncData}
theorem Gr.frzN {B H B0 H0 : Hp} {d : Addr} {ns : List Nm} {lab : Nm → Nm} (m : Gr P w K B H d ns lab) (n : Nxt B0 H0 B H) (hd : H0 d = none) : ∃ B', Nxt B0 H0 B' H ∧ Sub B B' ∧ FGr P w K B' d ns lab := by
  obtain ⟨g, M, e⟩ := m
  obtain ⟨B', n', s', F⟩ := M.frzN n hd
  exact ⟨B', n', s', g, F, e⟩
/-- right names, links, bars -/
structure Web (ns : List Nm) (ls : List Lk) (bs : List (Nm × Nm)) (d1 d2 d3 : PyData) : Prop where
  n : NmsF d1 ns
  l : LksF ns d2 ls
  b : BrsF ns d3 bs
theorem Web.nlen {ns : List Nm} {ls : List Lk} {bs : List (Nm × Nm)} {d1 d2 d3 : PyData} (h : Web ns ls bs d1 d2 d3) : ns.length ≤ 1000 := let ⟨_, _, _, _, z⟩ := h.n; z
theorem Web.nd {ns : List Nm} {ls : List Lk} {bs : List (Nm × Nm)} {d1 d2 d3 : PyData} (h : Web ns ls bs d1 d2 d3) : ns.Nodup := let ⟨_, _, _, a, _⟩ := h.n; a.nodup
theorem dp_web {B : Hp} {v : V} {ns : List Nm} {ls : List Lk} {bs : List (Nm × Nm)} (h : Dp K B v (.tuple [nmsD ns, lksD ls, brsD bs])) : ∃ a x y z, v = .ref a ∧ SqT K B a [x, y, z] ∧ Dp K B x (nmsD ns) ∧ Dp K B y (lnD (srtL ls)) ∧ Dp K B z (brs (srtB bs)) := by
  obtain ⟨a, xs, rfl, hs, ha⟩ := h.tup_inv
  obtain ⟨v1, v2, v3, rfl, d1, d2, d3⟩ := dp3 ha
  rw [lksD_eq] at d2
  rw [brsD_eq] at d3
  exact ⟨a, v1, v2, v3, rfl, hs, d1, d2, d3⟩
theorem sc28 : FnScope ["names", "links", "bars"] ["names", "links", "bars"] (defScope (top 28)) := ⟨rfl, rfl, rfl, by decide +kernel, rfl, by decide +kernel, by decide +kernel⟩
def R28 (ds : List PyData) (r : PyData) : Prop := ∃ (ns : List Nm) (ls : List Lk) (bs : List (Nm × Nm)) (d1 d2 d3 : PyData), ds = [d1, d2, d3] ∧ Web ns ls bs d1 d2 d3 ∧ r = .tuple (fsD (fatesL (srtB bs) (srtL ls) id))
theorem ok28 (F : Fun K "link_fates" "link_fates" (top 28) f fd) (nb : NoGl mg) (F20 : Dfn P w K mg base 7 "need_web" ["names", "links", "bars"] (spR K R20)) (F27 : Dfn P w K mg base 3 "rule_groups" ["names", "links", "bars"] (sp27 P w K)) :
    FnOk P w K mg base CX0 8 f fd ["names", "links", "bars"] (spR K R28) := by
  refine pure_fn F sc28 nb (fun ds r ⟨_, _, _, _, _, _, e, _⟩ => by rw [e]; rfl) fun cdv A outer s H0 E B vs ds r hr W hd hR => ?_
  obtain ⟨ns, ls, bs, d1, d2, d3, rfl, hw, rfl⟩ := hR
  obtain ⟨v1, v2, v3, rfl, h1, h2, h3⟩ := dp3 hd
  intro H sb D fin
  refine ss_cons (s_asgE (pg3 (pgn 0) (pgn 1) (pgn 2)) sb (ev_call F20 hr ⟨ns, ls, bs, d1, d2, d3, rfl, hw.n, hw.l, hw.b, rfl⟩ (av_cons (ev_var 0 h1) (av_cons (ev_var 1 h2) (av_cons (ev_var 2 h3) av_nil)))) fun v B2 H2 n dv => ?_)
  obtain ⟨t, x, y, z, rfl, ht, dx, dy, dz⟩ := dp_web dv
  refine gd_tup3 (i := 0) (j := 1) (k := 2) ht H2 n.i _ fun σ2 e2 => ?_
  have e3 : σ2 = [some x, some y, some z] := e2
  subst e3
  refine ss_one (le_S (ps_ret pe_w) (w_ix (w_call F27 hr n.i (av_cons (ev_var 0 dx) (av_cons (ev_var 1 dy) (av_cons (ev_var 2 dz) av_nil))) fun vs B3 H3 n3 dd => ?_)))
  obtain ⟨u1, u2, u3, rfl, g1, g2, g3⟩ := dp3 dd
  exact ⟨B3, u1, u2, u3, ns, srtL ls, srtB bs, _, rfl, n3.i, g1, g2, rfl, g3, hw.l.inl, hw.b.inb, hw.l.len, hw.b.len, hw.nd, hw.nlen, fun t tf d B4 H4 n4 hd ht hf hG => ⟨t, _, tf, rfl, SqT.of (n4.i t _ ht), rfl, fin tf B4 H4 ((n.trans n3).trans n4) hf⟩⟩
theorem sc29 : FnScope ["names", "links", "bars"] ["names", "links", "bars"] (defScope (top 29)) := ⟨rfl, rfl, rfl, by decide +kernel, rfl, by decide +kernel, by decide +kernel⟩
def R29 (ds : List PyData) (r : PyData) : Prop := ∃ (ns : List Nm) (ls : List Lk) (bs : List (Nm × Nm)) (d1 d2 d3 : PyData), ds = [d1, d2, d3] ∧ Web ns ls bs d1 d2 d3 ∧ r = toldD ns (labsL (srtB bs) (srtL ls) id)
theorem ok29 (F : Fun K "rule_people" "rule_people" (top 29) f fd) (nb : NoGl mg) (F20 : Dfn P w K mg base 7 "need_web" ["names", "links", "bars"] (spR K R20)) (F25 : Dfn P w K mg base 1 "told_groups" ["groups"] (sp25 P w K)) (F27 : Dfn P w K mg base 3 "rule_groups" ["names", "links", "bars"] (sp27 P w K)) :
    FnOk P w K mg base CX0 8 f fd ["names", "links", "bars"] (spR K R29) := by
  refine pure_fn F sc29 nb (fun ds r ⟨_, _, _, _, _, _, e, _⟩ => by rw [e]; rfl) fun cdv A outer s H0 E B vs ds r hr W hd hR => ?_
  obtain ⟨ns, ls, bs, d1, d2, d3, rfl, hw, rfl⟩ := hR
  obtain ⟨v1, v2, v3, rfl, h1, h2, h3⟩ := dp3 hd
  intro H sb D fin
  refine ss_cons (s_asgE (pg3 (pgn 0) (pgn 1) (pgn 2)) sb (ev_call F20 hr ⟨ns, ls, bs, d1, d2, d3, rfl, hw.n, hw.l, hw.b, rfl⟩ (av_cons (ev_var 0 h1) (av_cons (ev_var 1 h2) (av_cons (ev_var 2 h3) av_nil)))) fun v B2 H2 n dv => ?_)
  obtain ⟨t, x, y, z, rfl, ht, dx, dy, dz⟩ := dp_web dv
  refine gd_tup3 (i := 0) (j := 1) (k := 2) ht H2 n.i _ fun σ2 e2 => ?_
  have e3 : σ2 = [some x, some y, some z] := e2
  subst e3
  refine ss_one (le_S (ps_ret pe_w) (w_call1 F25 hr (w_ix (w_call F27 hr n.i (av_cons (ev_var 0 dx) (av_cons (ev_var 1 dy) (av_cons (ev_var 2 dz) av_nil))) fun vs B3 H3 n3 dd => ?_))))
  obtain ⟨u1, u2, u3, rfl, g1, g2, g3⟩ := dp3 dd
  refine ⟨B3, u1, u2, u3, ns, srtL ls, srtB bs, _, rfl, n3.i, g1, g2, rfl, g3, hw.l.inl, hw.b.inb, hw.l.len, hw.b.len, hw.nd, hw.nlen, fun t tf d B4 H4 n4 hd ht hf hG => ⟨t, _, .ref d, rfl, SqT.of (n4.i t _ ht), rfl, ?_⟩⟩
  obtain ⟨B5, n5, s5, FG⟩ := hG.frzN ((n.trans n3).trans n4) ((n.trans n3).back hd)
  exact ⟨B5, d, ns, _, rfl, n5.i, FG, hw.nlen, fun v B6 H6 n6 dv => fin v B6 H6 (n5.trans n6) dv⟩
theorem sc30 : FnScope ["names", "links"] ["names", "links"] (defScope (top 30)) := ⟨rfl, rfl, rfl, by decide +kernel, rfl, by decide +kernel, by decide +kernel⟩
def sp30 (P : Program) (w : World) (K : PySem.W.Frag) : Sp := fun vs H Q _ => ∃ (B : Hp) (a b : V) (ns : List Nm) (ls : List Lk), vs = [a, b] ∧ Sub B H ∧ Dp K B a (nmsD ns) ∧ Dp K B b (lnD ls) ∧ InL ns ls ∧ ls.length ≤ 1000 ∧ ns.Nodup ∧ ns.length ≤ 1000 ∧
  ∀ d B2 H2, Nxt B H B2 H2 → H d = none → Gr P w K B2 H2 d ns (labsL [] ls id) → Q (.ref d) H2
theorem ok30 (F : Fun K "tied_groups" "tied_groups" (top 30) f fd) (nb : NoGl mg) (F27 : Dfn P w K mg base 3 "rule_groups" ["names", "links", "bars"] (sp27 P w K)) : FnOk P w K mg base CX0 4 f fd ["names", "links"] (sp30 P w K) := by
  refine imp_fn F sc30 nb (fun vs H Q E ⟨_, _, _, _, _, e, _⟩ => by rw [e]; rfl) fun cdv A outer s H E vs Q hr W hsp => ?_
  obtain ⟨B, a, b, ns, ls, rfl, sb, ha, hb, inl, zl, nd, hn, fin⟩ := hsp
  refine ss_one (le_S (ps_ret pe_w) (w_ix (w_call F27 hr sb (av_cons (ev_var 0 ha) (av_cons (ev_var 1 hb) (av_cons (ev_tup av_nil) av_nil))) fun vs B3 H3 n3 dd => ?_)))
  obtain ⟨u1, u2, u3, rfl, g1, g2, g3⟩ := dp3 dd
  exact ⟨B3, u1, u2, u3, ns, ls, [], _, rfl, n3.i, g1, g2, rfl, g3, inl, (fun b hb => nomatch hb), zl, Nat.zero_le _, nd, hn, fun t tf d B4 H4 n4 hd ht hf hG => ⟨t, _, .ref d, rfl, SqT.of (n4.i t _ ht), rfl, fin d B4 H4 (n3.trans n4) (n3.back hd) hG⟩⟩
theorem sc31 : FnScope ["names", "links"] ["names", "links"] (defScope (top 31)) := ⟨rfl, rfl, rfl, by decide +kernel, rfl, by decide +kernel, by decide +kernel⟩
def R31 (ds : List PyData) (r : PyData) : Prop := ∃ (ns : List Nm) (ls : List Lk) (d1 d2 : PyData), ds = [d1, d2] ∧ NmsF d1 ns ∧ LksF ns d2 ls ∧ r = toldD ns (labsL [] (srtL ls) id)
theorem ok31 (F : Fun K "link_pieces" "link_pieces" (top 31) f fd) (nb : NoGl mg) (F13 : Dfn P w K mg base 4 "need_people_names" ["value"] (spR K R13)) (F18 : Dfn P w K mg base 6 "need_links" ["names", "value"] (spR K R18)) (F25 : Dfn P w K mg base 1 "told_groups" ["groups"] (sp25 P w K)) (F30 : Dfn P w K mg base 4 "tied_groups" ["names", "links"] (sp30 P w K)) :
    FnOk P w K mg base CX0 7 f fd ["names", "links"] (spR K R31) := by
  refine pure_fn F sc31 nb (fun ds r ⟨_, _, _, _, e, _⟩ => by rw [e]; rfl) fun cdv A outer s H0 E B vs ds r hr W hd hR => ?_
  obtain ⟨ns, ls, d1, d2, rfl, hN, hL, rfl⟩ := hR
  obtain ⟨v1, v2, rfl, h1, h2⟩ := dp2 hd
  obtain ⟨x1, i1, p1, asc, z1⟩ := id hN
  obtain ⟨x2, i2, p2, n2, z2⟩ := id hL
  intro H sb D fin
  refine ss_cons (s_set 0 sb (ev_call F13 hr ⟨d1, x1, ns, rfl, i1, p1, asc, z1, rfl⟩ (av_cons (ev_var 0 h1) av_nil)) fun u B2 H2 n hu => ?_)
  have g2 := h2.up n.b
  refine ss_one (le_S (ps_ret pe_w) (w_call1 F25 hr (w_call F30 hr n.i (av_cons (ev_var 0 hu) (av_cons (EV.is (ev_call F18 hr ⟨ns, d2, x2, ls, rfl, i2, p2, n2, z2, rfl⟩ (av_cons (ev_var 0 hu) (av_cons (ev_var 1 g2) av_nil))) (lksD_eq ls)) av_nil)) fun vs B3 H3 n3 dd => ?_)))
  obtain ⟨u1, u2, rfl, k1, k2⟩ := dp2 dd
  refine ⟨B3, u1, u2, ns, srtL ls, rfl, n3.i, k1, k2, hL.inl, hL.len, asc.nodup, z1, fun d B4 H4 n4 hd hG => ?_⟩
  obtain ⟨B5, n5, s5, FG⟩ := hG.frzN ((n.trans n3).trans n4) ((n.trans n3).back hd)
  exact ⟨B5, d, ns, _, rfl, n5.i, FG, z1, fun v B6 H6 n6 dv => fin v B6 H6 (n5.trans n6) dv⟩
end
end Who

namespace Who
open PySem L2 PySem.Spec PyProof.Rows
theorem MD.testW {X : Cx} {c : PySem.Expr} {σ : Stt} {B H : Hp} {m : Addr} {ks : List NestedKey} {g : NestedKey → PyData} {k : Bool} (M : MD X.prog X.w X.K B H m ks g) (s : Sub B H) (h : ∀ Bf, Sub B Bf → Sub Bf H → FD X.prog X.w X.K Bf m ks g → WV X c σ Bf k) (Q : Bool → Hp → Prop) (q : ∀ H2, Nxt B H B H2 → Q k H2) : wW X c σ H Q := by
  obtain ⟨Bf, s1, s2, F⟩ := M.frz s
  exact h Bf s1 s2 F H s2 Q fun B2 H2 n => q H2 ⟨Sub.refl B, n.h, s.trans n.h, fun _ _ _ z => z⟩
/-- the weight of the first link that makes p and q one -/
def firstW (bs : List (Nm × Nm)) (p q : Nm) : List Lk → (Nm → Nm) → Option Int
  | [], _ => none
  | l :: ls, lab => if fateN lab bs l = 2 ∧ p ≠ q ∧ nextL lab bs l p = nextL lab bs l q then some l.1 else firstW bs p q ls (nextL lab bs l)
def optD : Option Int → PyData
  | none => .none
  | some i => .int i
def fromW (least : Int) (ls : List Lk) : List Lk := ls.filter fun l => decide (least ≤ l.1)
def keepW (least : Int) : PyData → Bool
  | .tuple (.int i :: _) => decide (least ≤ i)
  | _ => false
section
variable {P : Program} {w : World} {K : PySem.W.Frag} {mg : Str → Option Value} {base : Heap} {f : Addr} {fd : FuncData}
theorem lkD_at (l : Lk) : items (lkD l) = some [.int l.1, nmD l.2.1, nmD l.2.2] := rfl
theorem sc34 : FnScope ["names", "links", "bars", "least", "link"] ["names", "links", "bars", "least"] (defScope (top 34)) := ⟨rfl, rfl, rfl, by decide +kernel, rfl, by decide +kernel, by decide +kernel⟩
def R34 (ds : List PyData) (r : PyData) : Prop := ∃ (ns : List Nm) (ls : List Lk) (bs : List (Nm × Nm)) (d1 d2 d3 : PyData) (least : Int), ds = [d1, d2, d3, .int least] ∧ Web ns ls bs d1 d2 d3 ∧ r = toldD ns (labsL (srtB bs) (fromW least (srtL ls)) id)
theorem ok34 (F : Fun K "people_above" "people_above" (top 34) f fd) (nb : NoGl mg) (F8 : Dfn P w K mg base 1 "is_integer" ["value"] (spR K R8)) (F20 : Dfn P w K mg base 7 "need_web" ["names", "links", "bars"] (spR K R20)) (F25 : Dfn P w K mg base 1 "told_groups" ["groups"] (sp25 P w K)) (F27 : Dfn P w K mg base 3 "rule_groups" ["names", "links", "bars"] (sp27 P w K)) :
    FnOk P w K mg base CX0 8 f fd ["names", "links", "bars", "least"] (spR K R34) := by
  refine pure_fn F sc34 nb (fun ds r ⟨_, _, _, _, _, _, _, e, _⟩ => by rw [e]; rfl) fun cdv A outer s H0 E B vs ds r hr W hd hR => ?_
  obtain ⟨ns, ls, bs, d1, d2, d3, least, rfl, hw, rfl⟩ := hR
  obtain ⟨v1, v2, v3, v4, rfl, h1, h2, h3, h4⟩ := dp4 hd
  intro H sb D fin
  refine ss_cons (s_asgE (pg3 (pgn 0) (pgn 1) (pgn 2)) sb (ev_call F20 hr ⟨ns, ls, bs, d1, d2, d3, rfl, hw.n, hw.l, hw.b, rfl⟩ (av_cons (ev_var 0 h1) (av_cons (ev_var 1 h2) (av_cons (ev_var 2 h3) av_nil)))) fun v B2 H2 n dv => ?_)
  obtain ⟨t, x, y, z, rfl, ht, dx, dy, dz⟩ := dp_web dv
  refine gd_tup3 (i := 0) (j := 1) (k := 2) ht H2 n.i _ fun σ2 e2 => ?_
  have e3 : σ2 = [some x, some y, some z, some v4, none] := e2
  subst e3
  refine ss_cons (s_if n.i (tv_not (tv_val (ev_call F8 hr ⟨_, rfl, rfl⟩ (av_cons (ev_var 3 (h4.up n.b)) av_nil)))) (fun _ _ _ hk => absurd hk Bool.false_ne_true) fun B3 H3 n3 _ => ss_nil ?_)
  have dx3 := dx.up n3.b
  have dy3 := dy.up n3.b
  have dz3 := dz.up n3.b
  have g4 := (h4.up n.b).up n3.b
  have e5 : (((srtL ls).map lkD).filter (keepW least)).map id = (fromW least (srtL ls)).map lkD := by
    rw [List.map_id, List.filter_map]
    rfl
  refine ss_one (le_S (ps_ret pe_w) (w_call1 F25 hr (w_ix (w_call F27 hr n3.i (av_cons (ev_var 0 dx3) (av_cons (EV.is (ev_lcTif (own := [("link", 4)]) (ds := (srtL ls).map lkD) (keepW least) id (blkOk_by (by rfl)) (fun _ _ _ _ _ => pgn 4) (ev_var 1 dy3) (by rw [List.length_map]; have := hw.l.len; omega) fun x d0 B4 hd s4 hx => ?_) (congrArg PyData.list e5)) (av_cons (ev_var 2 dz3) av_nil))) fun vs B5 H5 n5 dd => ?_))))
  · obtain ⟨l, hl, rfl⟩ := List.mem_map.mp hd
    exact lc_name_if 4 (fun _ _ _ _ _ => tv_ge (ev_ix (lkD_at l) rfl (ev_var 4 hx) ev_int) (ev_var 3 (g4.up s4))) fun _ _ _ _ _ _ => ev_var 4 hx
  · obtain ⟨u1, u2, u3, rfl, k1, k2, k3⟩ := dp3 dd
    refine ⟨B5, u1, u2, u3, ns, fromW least (srtL ls), srtB bs, _, rfl, n5.i, k1, k2, rfl, k3, fun l hl => hw.l.inl l (List.mem_filter.mp hl).1, hw.b.inb, Nat.le_trans (List.length_filter_le _ _) hw.l.len, hw.b.len, hw.nd, hw.nlen, fun t tf d B6 H6 n6 hd ht hf hG => ⟨t, _, .ref d, rfl, SqT.of (n6.i t _ ht), rfl, ?_⟩⟩
    obtain ⟨B7, n7, s7, FG⟩ := hG.frzN (((n.trans n3).trans n5).trans n6) (((n.trans n3).trans n5).back hd)
    exact ⟨B7, d, ns, _, rfl, n7.i, FG, hw.nlen, fun v B8 H8 n8 dv => fin v B8 H8 (n7.trans n8) dv⟩
theorem fateN_le (lab : Nm → Nm) (bs : List (Nm × Nm)) (l : Lk) : fateN lab bs l ≤ 2 := by
  unfold fateN
  split
  · decide
  · split <;> decide
theorem fateS_join (n : Nat) (h : n ≤ 2) : decide (fateS n = ("join" : Str)) = decide (n = 2) := by
  match n, h with
  | 0, _ => decide +kernel
  | 1, _ => decide +kernel
  | 2, _ => decide +kernel
theorem sc33 : FnScope ["names", "links", "bars", "one", "other", "groups", "link"] ["names", "links", "bars", "one", "other"] (defScope (top 33)) := ⟨rfl, rfl, rfl, by decide +kernel, rfl, by decide +kernel, by decide +kernel⟩
def R33 (ds : List PyData) (r : PyData) : Prop := ∃ (ns : List Nm) (ls : List Lk) (bs : List (Nm × Nm)) (d1 d2 d3 d4 d5 : PyData) (p q : Nm), ds = [d1, d2, d3, d4, d5] ∧ Web ns ls bs d1 d2 d3 ∧ NmF d4 p ∧ NmF d5 q ∧ p ∈ ns ∧ q ∈ ns ∧ r = optD (firstW (srtB bs) p q (srtL ls) id)
theorem ok33 (F : Fun K "first_weight" "first_weight" (top 33) f fd) (nb : NoGl mg) (F20 : Dfn P w K mg base 7 "need_web" ["names", "links", "bars"] (spR K R20)) (F22 : Dfn P w K mg base 1 "lone_groups" ["names"] (sp22 P w K)) (F26 : Dfn P w K mg base 2 "next_fate" ["groups", "bars", "link"] (sp26 P w K)) (F32 : Dfn P w K mg base 4 "need_name_of" ["names", "value", "at"] (spR K R32)) :
    FnOk P w K mg base CX0 8 f fd ["names", "links", "bars", "one", "other"] (spR K R33) := by
  refine pure_fn F sc33 nb (fun ds r ⟨_, _, _, _, _, _, _, _, _, _, e, _⟩ => by rw [e]; rfl) fun cdv A outer s H0 E B vs ds r hr W hd hR => ?_
  obtain ⟨ns, ls, bs, d1, d2, d3, d4, d5, p, q, rfl, hw, fp, fq, hp, hq, rfl⟩ := hR
  obtain ⟨v1, v2, v3, v4, v5, rfl, h1, h2, h3, h4, h5⟩ := dp5 hd
  intro H sb D fin
  refine ss_cons (s_asgE (pg3 (pgn 0) (pgn 1) (pgn 2)) sb (ev_call F20 hr ⟨ns, ls, bs, d1, d2, d3, rfl, hw.n, hw.l, hw.b, rfl⟩ (av_cons (ev_var 0 h1) (av_cons (ev_var 1 h2) (av_cons (ev_var 2 h3) av_nil)))) fun v B2 H2 n dv => ?_)
  obtain ⟨t, x, y, z, rfl, ht, dx, dy, dz⟩ := dp_web dv
  refine gd_tup3 (i := 0) (j := 1) (k := 2) ht H2 n.i _ fun σ2 e2 => ?_
  have e3 : σ2 = [some x, some y, some z, some v4, some v5, none, none] := e2
  subst e3
  refine ss_cons (s_par 3 4 n.i (av_cons (ev_call F32 hr ⟨ns, d4, p, 0, rfl, fp, hp, rfl⟩ (av_cons (ev_var 0 dx) (av_cons (ev_var 3 (h4.up n.b)) (av_cons ev_int av_nil)))) (av_cons (ev_call F32 hr ⟨ns, d5, q, 1, rfl, fq, hq, rfl⟩ (av_cons (ev_var 0 dx) (av_cons (ev_var 4 (h5.up n.b)) (av_cons ev_int av_nil)))) av_nil)) fun u4 u5 B3 H3 n3 k4 k5 => ?_)
  have n03 := n.trans n3
  refine ss_cons (le_S (ps_set W.nd (i := 5) rfl (Or.inl rfl) pe_w) (w_call F22 hr n03.i (av_cons (ev_var 0 (dx.up n3.b)) av_nil) fun vs B4 H4 n4 dd => ?_))
  obtain ⟨w1, rfl, c1⟩ := dp1 dd
  refine ⟨B4, w1, ns, rfl, n4.i, c1, hw.nd, hw.nlen, fun d B5 H5 hd n5 G => ?_⟩
  have n05 := (n03.trans n4).trans n5
  have hdH : H d = none := (n03.trans n4).back hd
  have s35 := n4.b.trans n5.b
  have L5 := (dy.up n3.b).up s35
  have Z5 := (dz.up n3.b).up s35
  have P5 := k4.up s35
  have Q5 := k5.up s35
  refine ss_cons (s_for PassesOwn.never (pgn 6) rfl n05.i (ev_var 1 L5) (fun i σ' B' H' => (∃ x', σ' = [some x, some y, some z, some u4, some u5, some (.ref d), x']) ∧ Nxt B H B' H' ∧ Gr P w K B' H' d ns (labsL (srtB bs) ((srtL ls).take i) id) ∧ firstW (srtB bs) p q (srtL ls) id = firstW (srtB bs) p q ((srtL ls).drop i) (labsL (srtB bs) ((srtL ls).take i) id)) (fun B6 H6 n6 => ⟨⟨none, rfl⟩, n05.trans n6, G.nxt n6, rfl⟩) ?_ ?_)
  · intro B6 s6 i d0 x' σ' B' H' hx pv sB sH hx'
    obtain ⟨⟨y', rfl⟩, nn, G', ef⟩ := pv
    rw [List.getElem?_map] at hx
    obtain ⟨lk, hlk, rfl⟩ := Option.map_eq_some_iff.mp hx
    have mem := hw.l.inl lk (List.mem_of_getElem? hlk)
    have et : (srtL ls).take (i + 1) = (srtL ls).take i ++ [lk] := by rw [List.take_add_one, hlk]; rfl
    have ed : (srtL ls).drop i = lk :: (srtL ls).drop (i + 1) := by
      obtain ⟨hi, e⟩ := List.getElem?_eq_some_iff.mp hlk
      rw [List.drop_eq_getElem_cons hi, e]
    have sub := s6.trans sB
    generalize elb : labsL (srtB bs) ((srtL ls).take i) id = lab at G' ef
    have enext : labsL (srtB bs) ((srtL ls).take (i + 1)) id = nextL lab (srtB bs) lk := by rw [et, labsL_app, elb]; rfl
    refine ss_one (le_S (ps_if (PW.pt (pw_and (pt_cmpR op_eq pe_w pe_str (nomark _)) pw_w)) pss_w pss_w) ?_)
    refine w_callD 5 F26 hr sH (av_cons (ev_var 2 (Z5.up sub)) (av_cons (ev_var 6 hx') av_nil)) fun vs B7 H7 n7 dd => ?_
    obtain ⟨w2, w3, rfl, c2, c3⟩ := dp2 dd
    refine ⟨B7, d, w2, w3, ns, lab, srtB bs, lk, rfl, n7.i, G'.nxt n7, c2, c3, mem.1, mem.2, hw.b.inb, hw.b.len, hw.nd, hw.nlen, fun B8 H8 n8 G8 => ⟨rfl, _, rfl, ?_⟩⟩
    have nn8 := NxtE.nxt (nn.trans n7) n8 hdH
    have sub8 := (sub.trans n7.b).trans n8.b
    rw [dec_strV]
    rw [fateS_join _ (fateN_le _ _ _)]
    have x8 := hx'.up (n7.b.trans n8.b)
    have P8 := P5.up sub8
    have Q8 := Q5.up sub8
    rw [ed] at ef
    have efc : firstW (srtB bs) p q (lk :: (srtL ls).drop (i + 1)) lab = if fateN lab (srtB bs) lk = 2 ∧ p ≠ q ∧ nextL lab (srtB bs) lk p = nextL lab (srtB bs) lk q then some lk.1 else firstW (srtB bs) p q ((srtL ls).drop (i + 1)) (nextL lab (srtB bs) lk) := rfl
    rw [efc] at ef
    obtain ⟨g, M8, hg⟩ := id G8
    have go : ∀ H9, Nxt B8 H8 B8 H9 → ¬ (fateN lab (srtB bs) lk = 2 ∧ p ≠ q ∧ nextL lab (srtB bs) lk p = nextL lab (srtB bs) lk q) → FdN B6 (fun σ' B' H' => (∃ x', σ' = [some x, some y, some z, some u4, some u5, some (.ref d), x']) ∧ Nxt B H B' H' ∧ Gr P w K B' H' d ns (labsL (srtB bs) ((srtL ls).take (i + 1)) id) ∧ firstW (srtB bs) p q (srtL ls) id = firstW (srtB bs) p q ((srtL ls).drop (i + 1)) (labsL (srtB bs) ((srtL ls).take (i + 1)) id)) [some x, some y, some z, some u4, some u5, some (.ref d), some x'] H9 := fun H9 n9 hc => by
      rw [if_neg hc] at ef
      refine ⟨B8, (sB.trans n7.b).trans n8.b, n9.i, ⟨_, rfl⟩, nn8.trans n9, ?_, ?_⟩
      · rw [enext]; exact G8.nxt n9
      · rw [enext]; exact ef
    refine ite2 (fun hj => ?_) (fun hj => ?_)
    · have hj' := of_decide_eq_true hj
      refine MD.testW (k := !decide (p = q) && decide (nextL lab (srtB bs) lk p = nextL lab (srtB bs) lk q)) M8 n8.i (fun Bf s1 s2 F => wv_and (tv_nmNe (ev_var 3 (P8.up s1)) (ev_var 4 (Q8.up s1))) fun _ => wv_and1 (tv_nmEq (ev_gr 5 ⟨g, F, hg⟩ hp (ev_var 3 (P8.up s1))) (ev_gr 5 ⟨g, F, hg⟩ hq (ev_var 4 (Q8.up s1))))) _ fun H9 n9 => ?_
      cases hk : (!decide (p = q) && decide (nextL lab (srtB bs) lk p = nextL lab (srtB bs) lk q)) with
      | true =>
        rw [Bool.and_eq_true] at hk
        have c1 : p ≠ q := by simpa using hk.1
        have c2 := of_decide_eq_true hk.2
        rw [if_pos ⟨hj', c1, c2⟩] at ef
        refine iteT (ss_one (s_ret (B := B8) n9.i (ev_ix (lkD_at lk) rfl (ev_var 6 x8) ev_int) fun v B10 H10 n10 dv => fin v B10 H10 ((nn8.trans n9).trans n10) ?_))
        rw [ef]
        exact dv
      | false =>
        refine iteF (ss_nil (go H9 n9 fun hc => ?_))
        rw [decide_eq_false hc.2.1, decide_eq_true hc.2.2] at hk
        cases hk
    · exact iteF (ss_nil (go H8 (Nxt.refl n8.i) fun hc => hj (decide_eq_true hc.1)))
  · rintro σ' B' H' ⟨⟨y', rfl⟩, nn, G', ef⟩ s1 s2
    rw [List.length_map, List.drop_length] at ef
    refine ss_one (s_ret nn.i ev_non fun v B6 H6 n6 dv => fin v B6 H6 (nn.trans n6) ?_)
    rw [ef]
    exact dv
end
end Who

/-! Who: expressions that draw from a box of three ints. -/
namespace Who
open PySem L2 PySem.Spec PyProof.Rows
/-- the box at b -/
def Box (K : PySem.W.Frag) (B H : Hp) (b : Addr) : Prop := ∃ i j m, MLst K B H b [.int i, .int j, .int m]
section
variable {K : PySem.W.Frag} {B B2 H H2 : Hp} {b : Addr}
theorem Box.nxt (m : Box K B H b) (n : Nxt B H B2 H2) : Box K B2 H2 b := let ⟨i, j, k, h⟩ := m; ⟨i, j, k, h.nxt n⟩
theorem Box.nxtE {q : Addr} (m : Box K B H b) (n : NxtE q B H B2 H2) (hq : b ≠ q) : Box K B2 H2 b := let ⟨i, j, k, h⟩ := m; ⟨i, j, k, h.nxtE n hq⟩
theorem Box.is (m : Box K B H b) : ∃ u, H b = some u := let ⟨_, _, _, h⟩ := m; h.is
theorem Box.b0 (m : Box K B H b) : B b = none := let ⟨_, _, _, h⟩ := m; h.b
theorem NxtE.step {B3 H3 : Hp} (x : NxtE b B H B2 H2) (y : NxtE b B2 H2 B3 H3) (m : Box K B H b) (m2 : Box K B2 H2 b) : NxtE b B H B3 H3 := x.trans y m.is m.b0 m2.is
end
/-- an int drawn -/
def EW (X : Cx) (e : PySem.Expr) (σ : Stt) (B : Hp) (b : Addr) (P : Int → Prop) : Prop :=
  ∀ B1 H1, Sub B B1 → Sub B1 H1 → Box X.K B1 H1 b → ∀ Q : VK, (∀ r B2 H2, NxtE b B1 H1 B2 H2 → Box X.K B2 H2 b → P r → Q (.int r) H2) → wE X e σ H1 Q
def AW (X : Cx) (es : List PySem.Expr) (σ : Stt) (B : Hp) (b : Addr) (P : List Int → Prop) : Prop :=
  ∀ B1 H1, Sub B B1 → Sub B1 H1 → Box X.K B1 H1 b → ∀ Q : List V → Hp → Prop, (∀ rs B2 H2, NxtE b B1 H1 B2 H2 → Box X.K B2 H2 b → P rs → Q (rs.map V.int) H2) → wA X es σ H1 Q
def TW (X : Cx) (e : PySem.Expr) (σ : Stt) (B : Hp) (b : Addr) : Prop :=
  ∀ B1 H1, Sub B B1 → Sub B1 H1 → Box X.K B1 H1 b → ∀ Q : Bool → Hp → Prop, (∀ r B2 H2, NxtE b B1 H1 B2 H2 → Box X.K B2 H2 b → Q r H2) → wT X e σ H1 Q
section
variable {X : Cx} {e a c d : PySem.Expr} {es : List PySem.Expr} {pos p p2 : Pos} {σ : Stt} {B B' H : Hp} {b : Addr} {P P' R : Int → Prop} {PL : List Int → Prop}
theorem EW.mono (h : EW X e σ B b P) (s : Sub B B') : EW X e σ B' b P := fun B1 H1 s1 s2 m Q q => h B1 H1 (s.trans s1) s2 m Q q
theorem aw_use {B1 H1 : Hp} (h : AW X es σ B b PL) (s1 : Sub B B1) (s2 : Sub B1 H1) (m : Box X.K B1 H1 b) {Q : List V → Hp → Prop} (q : ∀ rs B2 H2, NxtE b B1 H1 B2 H2 → Box X.K B2 H2 b → PL rs → Q (rs.map V.int) H2) : wA X es σ H1 Q := h B1 H1 s1 s2 m Q q
theorem ew_use {B1 H1 : Hp} (h : EW X e σ B b P) (s1 : Sub B B1) (s2 : Sub B1 H1) (m : Box X.K B1 H1 b) {Q : VK} (q : ∀ r B2 H2, NxtE b B1 H1 B2 H2 → Box X.K B2 H2 b → P r → Q (.int r) H2) : wE X e σ H1 Q := h B1 H1 s1 s2 m Q q
theorem EW.imp (h : EW X e σ B b P) (f : ∀ r, P r → R r) : EW X e σ B b R := fun B1 H1 s1 s2 m Q q => h B1 H1 s1 s2 m Q fun r B2 H2 n m2 p => q r B2 H2 n m2 (f r p)
theorem AW.mono (h : AW X es σ B b PL) (s : Sub B B') : AW X es σ B' b PL := fun B1 H1 s1 s2 m Q q => h B1 H1 (s.trans s1) s2 m Q q
theorem ew_pure {i : Int} (h : EV X e σ B (.int i)) (hp : P i) : EW X e σ B b P := fun B1 H1 s1 s2 m Q q => h H1 (s1.trans s2) Q fun v B2 H2 n dp => by
  obtain ⟨n', u⟩ := Nxt.lift s1 s2 n
  rw [dp.int_inv]
  exact q i _ H2 n'.e (m.nxt n') hp
theorem ew_op {op : Operator} {r : R2} (ho : OpR X (binaryOp op) r) (ha : EW X a σ B b P) (hc : EW X c σ B b P') (hr : ∀ i j, P i → P' j → ∃ k, R k ∧ ∀ (Q : VK) H, Q (.int k) H → r (.int i) (.int j) H Q) : EW X (.BinOp a op c pos) σ B b R := fun B1 H1 s1 s2 m Q q => le_E (pe_op ho pe_w pe_w)
  (ha B1 H1 s1 s2 m _ fun i B2 H2 n2 m2 p => hc B2 H2 (s1.trans n2.b) n2.i m2 _ fun j B3 H3 n3 m3 p' => by
    obtain ⟨k, hk, rk⟩ := hr i j p p'
    exact rk Q H3 (q k B3 H3 (n2.step n3 m m2) m3 hk))
theorem ew_add (ha : EW X a σ B b P) (hc : EW X c σ B b P') (hr : ∀ i j, P i → P' j → R (i + j)) : EW X (.BinOp a .Add c pos) σ B b R := ew_op op_add ha hc fun i j p p' => ⟨i + j, hr i j p p', fun Q H q => ⟨i, j, rfl, rfl, q⟩⟩
theorem ew_sub (ha : EW X a σ B b P) (hc : EW X c σ B b P') (hr : ∀ i j, P i → P' j → R (i - j)) : EW X (.BinOp a .Sub c pos) σ B b R := ew_op op_sub ha hc fun i j p p' => ⟨i - j, hr i j p p', fun Q H q => ⟨i, j, rfl, rfl, q⟩⟩
theorem ew_mul (ha : EW X a σ B b P) (hc : EW X c σ B b P') (hr : ∀ i j, P i → P' j → CMul i j ∧ R (i * j)) : EW X (.BinOp a .Mult c pos) σ B b R := ew_op op_mul ha hc fun i j p p' => ⟨i * j, (hr i j p p').2, fun Q H q => ⟨i, j, rfl, rfl, (hr i j p p').1, q⟩⟩
theorem aw_nil (h : PL []) : AW X [] σ B b PL := fun B1 H1 s1 s2 m Q q => le_A pa_nil (q [] B1 H1 (Nxt.refl s2).e m h)
theorem aw_cons {PL' : List Int → Prop} (h : EW X e σ B b P) (g : AW X es σ B b PL) (f : ∀ r rs, P r → PL rs → PL' (r :: rs)) (hs : starEach (e :: es) X.env = (false, eval e X.env) :: starEach es X.env := by rfl) : AW X (e :: es) σ B b PL' := fun B1 H1 s1 s2 m Q q => le_A (pa_cons pe_w pa_w hs)
  (h B1 H1 s1 s2 m _ fun r B2 H2 n2 m2 p => g B2 H2 (s1.trans n2.b) n2.i m2 _ fun rs B3 H3 n3 m3 ps => q (r :: rs) B3 H3 (n2.step n3 m m2) m3 (f r rs p ps))
theorem ew_ifE {k : Bool} (hc : TV X c σ B k) (ha : k = true → EW X a σ B b P) (hd : k = false → EW X d σ B b P) : EW X (.IfExp c a d pos) σ B b P := fun B1 H1 s1 s2 m Q q => le_E (pe_ifExp pt_w pe_w pe_w) (hc H1 (s1.trans s2) _ fun B2 H2 n => by
  obtain ⟨n', u⟩ := Nxt.lift s1 s2 n
  have go : ∀ {x : PySem.Expr}, EW X x σ B b P → wE X x σ H2 Q := fun {x} hx => hx _ H2 (s1.trans n'.b) n'.i (m.nxt n') Q fun r B3 H3 n3 m3 p => q r B3 H3 (n'.e.step n3 m (m.nxt n')) m3 p
  cases k with
  | true => exact go (ha rfl)
  | false => exact go (hd rfl))
theorem ew_ifW (hc : TW X c σ B b) (ha : EW X a σ B b P) (hd : EW X d σ B b P) : EW X (.IfExp c a d pos) σ B b P := fun B1 H1 s1 s2 m Q q => le_E (pe_ifExp pt_w pe_w pe_w) (hc B1 H1 s1 s2 m _ fun k B2 H2 n m2 => by
  have go : ∀ {x : PySem.Expr}, EW X x σ B b P → wE X x σ H2 Q := fun {x} hx => hx B2 H2 (s1.trans n.b) n.i m2 Q fun r B3 H3 n3 m3 p => q r B3 H3 (n.step n3 m m2) m3 p
  cases k with
  | true => exact go ha
  | false => exact go hd)
theorem tw_cmp {op : CmpOp} {g : Int → Int → Bool} (ho : OpR X (compareOp op) (rI0 fun i j => .bl (g i j))) (ha : EW X a σ B b P) (hc : EW X c σ B b P') (hm : behindInMarks op c = false) : TW X (.Compare a [op] [c] pos) σ B b := fun B1 H1 s1 s2 m Q q => le_T (pt_cmpR ho pe_w pe_w hm)
  (ha B1 H1 s1 s2 m _ fun i B2 H2 n2 m2 p => hc B2 H2 (s1.trans n2.b) n2.i m2 _ fun j B3 H3 n3 m3 p' => ⟨i, j, rfl, rfl, g i j, rfl, q _ B3 H3 (n2.step n3 m m2) m3⟩)
theorem tw_gt (ha : EW X a σ B b P) (hc : EW X c σ B b P') : TW X (.Compare a [.Gt] [c] pos) σ B b := tw_cmp op_gt ha hc (nomark _)
theorem tw_eq (ha : EW X a σ B b P) (hc : EW X c σ B b P') : TW X (.Compare a [.Eq] [c] pos) σ B b := fun B1 H1 s1 s2 m Q q => le_T (pt_cmpR op_eq pe_w pe_w (nomark _))
  (ha B1 H1 s1 s2 m _ fun i B2 H2 n2 m2 p => hc B2 H2 (s1.trans n2.b) n2.i m2 _ fun j B3 H3 n3 m3 p' => ⟨rfl, _, rfl, q _ B3 H3 (n2.step n3 m m2) m3⟩)
theorem ew_max [W : Wk X] (ha : AW X [a, c] σ B b PL) (hr : ∀ rs, PL rs → ∃ i j, rs = [i, j] ∧ R (if j > i then j else i)) (hg : Gl X "max" := by rfl) (he : starEach [a, c] X.env = (false, eval a X.env) :: starEach [c] X.env := by rfl) (hpl : (backTo pos (starEach [c] X.env)).any (·.1) = false := by rfl) :
    EW X (.Call (.Name "max" p) [a, c] [] pos) σ B b R := fun B1 H1 s1 s2 m Q q => le_E (pe_callB (call_max2 W.calm) hg (nobx X _ (by decide)) boot_max' pa_w (by decide) (by decide) he hpl) (ha B1 H1 s1 s2 m _ fun rs B2 H2 n m2 h => by
    obtain ⟨i, j, rfl, hk⟩ := hr rs h
    exact ⟨i, j, rfl, q _ B2 H2 n m2 hk⟩)
/-! reading the box itself -/
theorem MLst.look {ds : List PyData} {i : Int} (M : MLst X.K B H b ds) (s : Sub B H) (k : ∀ Bf, Sub B Bf → Sub Bf H → Dp X.K Bf (.ref b) (.list ds) → EV X e σ Bf (.int i)) (Q : VK) (q : ∀ H2, Nxt B H B H2 → Q (.int i) H2) : wE X e σ H Q := by
  obtain ⟨Bf, s1, s2, D, _⟩ := M.frz s
  exact k Bf s1 s2 D H s2 Q fun v B2 H2 n dp => by
    rw [dp.int_inv]
    exact q H2 ⟨Sub.refl B, n.h, s.trans n.h, fun _ _ _ z => z⟩
theorem MLst.test {ds : List PyData} {k : Bool} (M : MLst X.K B H b ds) (s : Sub B H) (h : ∀ Bf, Sub B Bf → Sub Bf H → Dp X.K Bf (.ref b) (.list ds) → TV X e σ Bf k) : TVH X e σ B H k := by
  obtain ⟨Bf, s1, s2, D, _⟩ := M.frz s
  exact (h Bf s1 s2 D).h s1 s2
/-- box[j] = e -/
theorem s_boxput [W : Wk X] (n : Nat) (j : Nat) {kk : Nat} {x : Str} {D : Ends} {ds : List PyData} {i : Int} {a : PySem.Expr} (s : Sub B H) (M : MLst X.K B H b ds) (hj : j < ds.length) (he : ∀ Bf, Sub B Bf → Sub Bf H → Dp X.K Bf (.ref b) (.list ds) → EV X a σ Bf (.int i)) (q : ∀ H2, NxtE b B H B H2 → MLst X.K B H2 b (ds.set j (.int i)) → D.nx σ H2)
    (h0 : σ[n]? = some (some (.ref b)) := by rfl) (hN : X.N[n]? = some x := by rfl) (hv : Vis X.env.scope x := by first | exact Or.inl rfl | exact Or.inr (Or.inl rfl) | exact Or.inr (Or.inr rfl)) (hd : (x == ("__debug__" : Str)) = false := by decide) (hcd : (x == ("__classdict__" : Str)) = false := by decide)
    (ha : ∀ v, assign (.Subscript (.Name x p) (.Constant (.int (j : Int)) kk pos) p2) X.env v = (do
      let ov ← holding [v] (eval (.Name x p) X.env)
      let iv ← holding [v, ov] (eval (.Constant (.int (j : Int)) kk pos) X.env)
      standAt p2
      holding [v, ov, iv] (setItem ov iv v)
      release [v, ov, iv] []) := by intro _; rfl) {pos2 : Pos} (hs : swapsWithSole [.Subscript (.Name x p) (.Constant (.int (j : Int)) kk pos) p2] a pos2.line X.env = pure false := by rfl) (hw : swappedStores [.Subscript (.Name x p) (.Constant (.int (j : Int)) kk pos) p2] a X.env = pure none := by rfl)
    (h1 : (assignEach [.Subscript (.Name x p) (.Constant (.int (j : Int)) kk pos) p2] X.env).map (·.2) = [assign (.Subscript (.Name x p) (.Constant (.int (j : Int)) kk pos) p2) X.env] := by rfl) : wS X (.Assign [.Subscript (.Name x p) (.Constant (.int (j : Int)) kk pos) p2] a pos2) D σ H := by
  refine le_S (ps_asg pe_w (pg_sub (pe_var hN hv hd hcd) pe_int set_list ha) hs hw h1) (M.look s he _ fun H2 n2 => ⟨_, h0, ?_⟩)
  obtain ⟨xs, g1, g2⟩ := M.h
  have hl := g2.len
  refine ⟨b, xs, (j : Int), j, rfl, rfl, n2.h b _ g1, ?_, q _ (NxtE.put n2 g1 M.b) ⟨M.b, _, upd_same, ?_⟩⟩
  · unfold ixN
    rw [if_pos (by omega), if_pos (by omega)]
    simp
  · exact setAll g2 j
where
  setAll {K : PySem.W.Frag} {B : Hp} {i : Int} : ∀ {xs : List V} {ds : List PyData}, DpAll K B xs ds → ∀ j, DpAll K B (xs.set j (.int i)) (ds.set j (.int i))
  | _, _, .nil, _ => .nil
  | _, _, .cons _ t, 0 => .cons (.int i) t
  | _, _, .cons h t, j + 1 => .cons h (setAll t j)
end
end Who

namespace Who
open PySem L2 PySem.Spec PyProof.Rows
section
variable {P : Program} {w : World} {K : PySem.W.Frag} {mg : Str → Option Value} {base : Heap} {f : Addr} {fd : FuncData}
theorem sc37 : FnScope ["box", "many", "digit", "raw"] ["box", "many"] (defScope (top 37)) := ⟨rfl, rfl, rfl, by decide +kernel, rfl, by decide +kernel, by decide +kernel⟩
def sp37 (K : PySem.W.Frag) : Sp := fun vs H Q _ => ∃ (B : Hp) (b : Addr) (n : Int), vs = [.ref b, .int n] ∧ Sub B H ∧ Box K B H b ∧ 0 < n ∧ n < 1073741824 ∧ ∀ r B2 H2, NxtE b B H B2 H2 → Box K B2 H2 b → 0 ≤ r → r < n → Q (.int r) H2
theorem ok37 (F : Fun K "_law_take" "_law_take" (top 37) f fd) (nb : NoGl mg) : FnOk P w K mg base CX0 1 f fd ["box", "many"] (sp37 K) := by
  refine imp_fn F sc37 nb (fun vs H Q E ⟨_, _, _, e, _⟩ => by rw [e]; rfl) fun cdv A outer s H E vs Q hr W hsp => ?_
  obtain ⟨B, b, n, rfl, sb, ⟨i, j, m, M⟩, h0, h1, fin⟩ := hsp
  have cdiv : ∀ x : Int, CDiv x n := fun x => ⟨h0, h1⟩
  refine ss_cons (s_ifH (k := decide (0 < i)) (M.test sb fun Bf s1 s2 D => tv_gt (ev_ix rfl rfl (ev_var 0 D) ev_int) ev_int) (fun H2 n2 hk => ?_) fun H2 n2 hk => ss_nil ?_)
  · have M2 := M.nxt n2
    refine ss_cons (le_S (ps_set W.nd (i := 2) rfl (Or.inl rfl) pe_w) (M2.look n2.i (i := i % n) (fun Bf s1 s2 D => ev_mod h0 (ev_intI (ev_ix rfl rfl (ev_var 0 D) ev_int)) (ev_var 1 (.int n))) _ fun H3 n3 => ?_))
    have M3 := M2.nxt n3
    refine ss_cons (s_boxput 0 0 (i := i / n) n3.i M3 (by show 0 < 3; decide) (fun Bf s1 s2 D => ev_fdiv (cdiv i) (ev_ix rfl rfl (ev_var 0 D) ev_int) (ev_var 1 (.int n))) fun H4 n4 M4 => ?_)
    refine ss_one (s_ret (B := B) n4.i (ev_var 2 (.int (i % n))) fun v B5 H5 n5 dv => ?_)
    rw [dv.int_inv]
    have e := ((n2.trans n3).e.trans n4 M.is M.b M3.is).trans n5.e M.is M.b M4.is
    exact fin _ B5 H5 e ⟨_, _, _, M4.nxt n5⟩ (Int.emod_nonneg _ (by omega)) (Int.emod_lt_of_pos _ h0)
  · have M2 := M.nxt n2
    refine ss_cons (s_boxput 0 2 (i := m + 1) n2.i M2 (by show 2 < 3; decide) (fun Bf s1 s2 D => ev_add (ev_ix rfl rfl (ev_var 0 D) ev_int) ev_int) fun H3 n3 M3 => ?_)
    have M3 : MLst K B H3 b [.int i, .int j, .int (m + 1)] := M3
    have mulOk : ∀ x y : Int, -(2 ^ 64) < y → y < 2 ^ 64 → CMul x y := fun x y a b => .inr ⟨a, b⟩
    have mulOk' : ∀ x y : Int, -(2 ^ 64) < x → x < 2 ^ 64 → CMul x y := fun x y a b => .inl ⟨a, b⟩
    refine ss_cons (le_S (ps_set W.nd (i := 3) rfl (Or.inl rfl) pe_w) (M3.look n3.i (i := ((j + 102481 * (m + 1)) * 69061 + 41) % 2147483563) (fun Bf s1 s2 D => ev_mod (by decide) (ev_intI (ev_add (ev_mul (mulOk _ _ (by decide) (by decide)) (ev_add (ev_ix rfl rfl (ev_var 0 D) ev_int) (ev_mul (mulOk' _ _ (by decide) (by decide)) ev_int (ev_ix rfl rfl (ev_var 0 D) ev_int))) ev_int) ev_int)) ev_int) _ fun H4 n4 => ?_))
    generalize ((j + 102481 * (m + 1)) * 69061 + 41) % 2147483563 = raw
    have M4 := M3.nxt n4
    refine ss_cons (s_boxput 0 1 (i := (raw * 39373 + 30013) % 2147483629 + 1) n4.i M4 (by show 1 < 3; decide) (fun Bf s1 s2 D => ev_add (ev_mod (by decide) (ev_intI (ev_add (ev_mul (mulOk _ _ (by decide) (by decide)) (ev_var 3 (.int raw)) ev_int) ev_int)) ev_int) ev_int) fun H5 n5 M5 => ?_)
    generalize (raw * 39373 + 30013) % 2147483629 + 1 = j2 at M5
    have M5 : MLst K B H5 b [.int i, .int j2, .int (m + 1)] := M5
    refine ss_one (le_S (ps_ret pe_w) (M5.look n5.i (i := ((raw * 2147483647 + j2) / 8191) % n) (fun Bf s1 s2 D => ev_mod h0 (ev_intI (ev_fdiv ⟨by decide, by decide⟩ (ev_add (ev_mul (mulOk _ _ (by decide) (by decide)) (ev_var 3 (.int raw)) ev_int) (ev_ix rfl rfl (ev_var 0 D) ev_int)) ev_int)) (ev_var 1 (.int n))) _ fun H6 n6 => ?_))
    have e := (((n2.e.trans n3 M.is M.b M2.is).trans n4.e M.is M.b M3.is).trans n5 M.is M.b M4.is).trans n6.e M.is M.b M5.is
    exact fin _ B H6 e ⟨_, _, _, M5.nxt n6⟩ (Int.emod_nonneg _ (by omega)) (Int.emod_lt_of_pos _ h0)
theorem sc38 : FnScope ["box", "some"] ["box", "some"] (defScope (top 38)) := ⟨rfl, rfl, rfl, by decide +kernel, rfl, by decide +kernel, by decide +kernel⟩
def sp38 (K : PySem.W.Frag) : Sp := fun vs H Q _ => ∃ (B : Hp) (b : Addr) (v : V) (d : PyData) (ds : List PyData), vs = [.ref b, v] ∧ Sub B H ∧ Box K B H b ∧ Dp K B v d ∧ items d = some ds ∧ ds ≠ [] ∧ ds.length ≤ 100000 ∧ ∀ r ∈ ds, ∀ v B2 H2, NxtE b B H B2 H2 → Box K B2 H2 b → Dp K B2 v r → Q v H2
end
/-! drawing -/
section
variable {X : Cx} {e a c d : PySem.Expr} {es : List PySem.Expr} {pos p p2 p3 : Pos} {σ : Stt} {B B' H : Hp} {b : Addr} {P P' R : Int → Prop} {PL : List Int → Prop}
theorem ew_take {k : Nat} (n : Nat) {y : Str} (F : Dfn X.prog X.w X.K X.mg X.base 1 "_law_take" ["box", "many"] (sp37 X.K)) (hr : Room k X.A) (h : EW X e σ B b P) (hp : ∀ n, P n → 0 < n ∧ n < 1073741824 ∧ ∀ r, 0 ≤ r → r < n → R r) (hj : 1 ≤ k := by decide) (hg : Gl X "_law_take" := by rfl)
    (h0 : σ[n]? = some (some (.ref b)) := by rfl) (hN : X.N[n]? = some y := by rfl) (hv : Vis X.env.scope y := by first | exact Or.inl rfl | exact Or.inr (Or.inl rfl) | exact Or.inr (Or.inr rfl)) (hd : (y == ("__debug__" : Str)) = false := by decide) (hcd : (y == ("__classdict__" : Str)) = false := by decide)
    (he : starEach [.Name y p2, e] X.env = (false, eval (.Name y p2) X.env) :: starEach [e] X.env := by rfl) (he2 : starEach [e] X.env = (false, eval e X.env) :: starEach [] X.env := by rfl) (hpl : (backTo pos (starEach [e] X.env)).any (·.1) = false := by rfl) : EW X (.Call (.Name "_law_take" p) [.Name y p2, e] [] pos) σ B b R := fun B1 H1 s1 s2 m Q q => by
  obtain ⟨fa, fd, G, hm, hk, hb⟩ := F.ex
  refine le_E (pe_call G (hr.mono hj) hg hm hk hb .nil pass0 (pa_cons (pe_var hN hv hd hcd) (pa_cons pe_w pa_nil he2) he) (by decide) he hpl) ⟨_, h0, h B1 H1 s1 s2 m _ fun i B2 H2 n2 m2 pi => ?_⟩
  obtain ⟨g1, g2, g3⟩ := hp i pi
  exact ⟨B2, b, i, rfl, n2.i, m2, g1, g2, fun r B3 H3 n3 m3 r0 r1 => q r B3 H3 (n2.step n3 m m2) m3 (g3 r r0 r1)⟩
theorem dpInts {K : PySem.W.Frag} {B : Hp} : ∀ rs : List Int, DpAll K B (rs.map V.int) (rs.map PyData.int)
  | [] => .nil
  | r :: rs => .cons (.int r) (dpInts rs)
/-- _law_pick(box, [..]) of ints -/
theorem ew_pick {k : Nat} (n : Nat) {y : Str} (F : Dfn X.prog X.w X.K X.mg X.base 2 "_law_pick" ["box", "some"] (sp38 X.K)) (hr : Room k X.A) (h : AW X es σ B b PL) (hp : ∀ rs, PL rs → rs ≠ [] ∧ rs.length ≤ 1000 ∧ ∀ r ∈ rs, R r) (hj : 2 ≤ k := by decide) (hg : Gl X "_law_pick" := by rfl)
    (h0 : σ[n]? = some (some (.ref b)) := by rfl) (hN : X.N[n]? = some y := by rfl) (hv : Vis X.env.scope y := by first | exact Or.inl rfl | exact Or.inr (Or.inl rfl) | exact Or.inr (Or.inr rfl)) (hd : (y == ("__debug__" : Str)) = false := by decide) (hcd : (y == ("__classdict__" : Str)) = false := by decide)
    (he : starEach [.Name y p2, .List es p3] X.env = (false, eval (.Name y p2) X.env) :: starEach [.List es p3] X.env := by rfl) (he2 : starEach [.List es p3] X.env = (false, eval (.List es p3) X.env) :: starEach [] X.env := by rfl) (hpl : (backTo pos (starEach [.List es p3] X.env)).any (·.1) = false := by rfl) : EW X (.Call (.Name "_law_pick" p) [.Name y p2, .List es p3] [] pos) σ B b R := fun B1 H1 s1 s2 m Q q => by
  obtain ⟨fa, fd, G, hm, hk, hb⟩ := F.ex
  refine le_E (pe_call G (hr.mono hj) hg hm hk hb .nil pass0 (pa_cons (pe_var hN hv hd hcd) (pa_cons (pe_lst pa_w) pa_nil he2) he) (by decide) he hpl) ⟨_, h0, h B1 H1 s1 s2 m _ fun rs B2 H2 n2 m2 pr => ?_⟩
  obtain ⟨g1, g2, g3⟩ := hp rs pr
  have hz : (100000 : Nat) ≤ sizeLine := by decide
  refine ⟨by rw [List.length_map]; omega, fun l hl => ?_⟩
  have nl := Nxt.new (o := .lst (rs.map V.int)) n2.i hl
  refine ⟨_, b, .ref l, .list (rs.map .int), rs.map .int, rfl, nl.i, m2.nxt nl, dpL upd_same (dpInts rs), rfl, fun z => g1 (List.map_eq_nil_iff.mp z), by rw [List.length_map]; omega, fun r hr v B3 H3 n3 m3 dv => ?_⟩
  obtain ⟨i, hi, rfl⟩ := List.mem_map.mp hr
  rw [dv.int_inv]
  exact q i B3 H3 ((n2.step nl.e m m2).step n3 m (m2.nxt nl)) m3 (g3 i hi)
end
section
variable {P : Program} {w : World} {K : PySem.W.Frag} {mg : Str → Option Value} {base : Heap} {f : Addr} {fd : FuncData}
theorem ok38 (F : Fun K "_law_pick" "_law_pick" (top 38) f fd) (nb : NoGl mg) (F37 : Dfn P w K mg base 1 "_law_take" ["box", "many"] (sp37 K)) : FnOk P w K mg base CX0 2 f fd ["box", "some"] (sp38 K) := by
  refine imp_fn F sc38 nb (fun vs H Q E ⟨_, _, _, _, _, e, _⟩ => by rw [e]; rfl) fun cdv A outer s H E vs Q hr W hsp => ?_
  obtain ⟨B, b, v, d, ds, rfl, sb, m, hd, hi, hne, hz, fin⟩ := hsp
  have hl : 0 < ds.length := List.length_pos_iff.mpr hne
  refine ss_one (le_S (ps_ret (pe_ix ix_seq pe_w pe_w (by intro _ _; rfl))) ?_)
  refine (ev_var (X := (cxOf CX0 P w K mg base ["box", "some"] "_law_pick" (defScope (top 38)) f cdv A outer s H E).nox) 1 hd) H sb _ fun v2 B2 H2 n2 dv => ?_
  refine ew_use (ew_take (R := fun r => 0 ≤ r ∧ r < ds.length) 0 F37 hr (ew_pure (P := fun r => r = ds.length) (ev_len hi (ev_var 1 hd)) rfl) fun n e => ⟨by omega, by omega, fun r h1 h2 => ⟨h1, by omega⟩⟩) n2.b n2.i (m.nxt n2) fun r B3 H3 n3 m3 ⟨h1, h2⟩ => ?_
  obtain ⟨k, hk⟩ := Int.eq_ofNat_of_zero_le h1
  subst hk
  have hkl : k < ds.length := by omega
  have hat : atI ds (k : Int) = some ds[k] := by
    unfold atI ixN
    rw [if_pos h1, if_pos h2]
    simp [hkl]
  refine rd_ix hi hat v2 (.int k) B3 H3 n3.i (dv.up n3.b) (.int _) Q fun v3 B4 H4 n4 dv4 => ?_
  exact fin _ (List.getElem_mem hkl) v3 B4 H4 ((n2.e.step n3 m (m.nxt n2)).step n4.e m m3) (m3.nxt n4) dv4
end
end Who

namespace Who
open PySem L2 PySem.Spec PyProof.Rows
def nameAt (wide step : Int) (n : Nat) : Nm := ((n : Int) / wide, step * ((n : Int) - (n : Int) / wide * wide))
def namesL (n : Nat) (wide step : Int) : List Nm := (List.range n).map (nameAt wide step)
section
variable {P : Program} {w : World} {K : PySem.W.Frag} {mg : Str → Option Value} {base : Heap} {f : Addr} {fd : FuncData}
theorem sc36 : FnScope ["script", "k", "cell"] ["script", "k"] (defScope (top 36)) := ⟨rfl, rfl, rfl, by decide +kernel, rfl, by decide +kernel, by decide +kernel⟩
def sp36 (K : PySem.W.Frag) : Sp := fun vs H Q _ => ∃ (B : Hp) (a : V) (ns : List Int), vs = [a, .int 0] ∧ Sub B H ∧ Dp K B a (.list (ns.map .int)) ∧ ∀ b B2 H2, H b = none → Nxt B H B2 H2 → Box K B2 H2 b → Q (.ref b) H2
theorem ok36 (F : Fun K "_law_box" "_law_box" (top 36) f fd) (nb : NoGl mg) : FnOk P w K mg base CX0 1 f fd ["script", "k"] (sp36 K) := by
  refine imp_fn F sc36 nb (fun vs H Q E ⟨_, _, _, e, _⟩ => by rw [e]; rfl) fun cdv A outer s H E vs Q hr W hsp => ?_
  obtain ⟨B, a, ns, rfl, sb, ha, fin⟩ := hsp
  have mulOk : ∀ x y : Int, -(2 ^ 64) < y → y < 2 ^ 64 → CMul x y := fun x y a b => .inr ⟨a, b⟩
  have mulOk' : ∀ x y : Int, -(2 ^ 64) < x → x < 2 ^ 64 → CMul x y := fun x y a b => .inl ⟨a, b⟩
  refine ss_cons (s_set 2 sb (ev_add (ev_mul (mulOk' _ _ (by decide) (by decide)) ev_int (ev_var 1 (.int 0))) ev_int) fun v B2 H2 n2 dv => ?_)
  have hl : (ns.map PyData.int).length = ns.length := List.length_map _
  -- the rest, from any cell
  have rest : ∀ (c : Int) (B3 H3 : Hp), Nxt B H B3 H3 → wSs (cxOf CX0 P w K mg base ["script", "k", "cell"] "_law_box" (defScope (top 36)) f cdv A outer s H E).nox ((defBody (top 36)).drop 2) { nx := fun _ H' => Q .non H', rt := Q } [some a, some (.int 0), some (.int c)] H3 := fun c B3 H3 n3 => by
    refine ss_one (le_S (ps_ret (pe_lst pa_w)) ?_)
    have h1 : atI [PyData.int 0, .int c] (if decide ((10 : Int) ^ (18 : Int).toNat ≤ c) = true then 1 else 0) = some (.int (if decide ((10 : Int) ^ (18 : Int).toNat ≤ c) = true then c else 0)) := by
      split <;> rfl
    refine (av_cons (X := (cxOf CX0 P w K mg base ["script", "k", "cell"] "_law_box" (defScope (top 36)) f cdv A outer s H E).nox) (ev_ix (d := .list [.int 0, .int c]) rfl h1 (ev_lst (av_cons ev_int (av_cons (ev_var 2 (.int c)) av_nil)) (by show 2 ≤ 100000; decide)) (ev_intB (ev_ge (ev_var 2 (.int c)) (ev_pow ⟨by decide, by decide, by decide⟩ ev_int ev_int)))) (av_cons (ev_add (ev_mod (by decide) (ev_intI (ev_add (ev_mul (mulOk _ _ (by decide) (by decide)) (ev_mod (by decide) (ev_intI (ev_var 2 (.int c))) ev_int) ev_int) (ev_mul (mulOk' _ _ (by decide) (by decide)) ev_int (ev_var 1 (.int 0))))) ev_int) ev_int) (av_cons ev_int av_nil))) H3 n3.i _ fun vs B4 H4 n4 dd => ?_
    refine ⟨by rw [dd.len]; show 3 ≤ sizeLine; decide, fun l hl => ?_⟩
    have n34 := n3.trans n4
    exact fin l B4 _ (n34.back hl) (n34.trans (Nxt.mut n4.i hl)) ⟨_, _, _, n4.i.none hl, _, upd_same, dd⟩
  have a2 := ha.up n2.b
  refine ss_cons (s_if n2.i (tv_lt (ev_var 1 (.int 0)) (ev_len rfl (ev_var 0 a2))) (fun B3 H3 n3 hk => ?_) fun B3 H3 n3 hk => ?_)
  · have hk' : 0 < ns.length := by
      have := of_decide_eq_true hk
      rw [hl] at this
      omega
    obtain ⟨x, hx⟩ : ∃ x, ns[0]? = some x := ⟨_, List.getElem?_eq_getElem hk'⟩
    have hat : atI (ns.map PyData.int) 0 = some (.int x) := by
      unfold atI ixN
      rw [if_pos (by decide), if_pos (by rw [hl]; omega)]
      simp [hx]
    refine ss_one (s_set 2 n3.i (ev_abs (ev_ix rfl hat (ev_var 0 (a2.up n3.b)) (ev_var 1 (.int 0)))) fun v3 B4 H4 n4 dv4 => ?_)
    have e := dv4.int_inv
    subst e
    exact rest _ B4 H4 ((n2.trans n3).trans n4)
  · refine ss_one (s_if n3.i (tv_gt (ev_len rfl (ev_var 0 (a2.up n3.b))) ev_int) (fun B4 H4 n4 hk2 => ?_) fun B4 H4 n4 hk2 => ss_nil ?_)
    · exact absurd (of_decide_eq_true hk2) (of_decide_eq_false hk)
    · have e := dv.int_inv
      subst e
      exact rest _ B4 H4 ((n2.trans n3).trans n4)
theorem sc39 : FnScope ["box", "many", "wide", "step", "at"] ["box", "many"] (defScope (top 39)) := ⟨rfl, rfl, rfl, by decide +kernel, rfl, by decide +kernel, by decide +kernel⟩
def sp39 (K : PySem.W.Frag) : Sp := fun vs H Q _ => ∃ (B : Hp) (b : Addr) (n : Nat), vs = [.ref b, .int n] ∧ Sub B H ∧ Box K B H b ∧ 1 ≤ n ∧ n ≤ 100 ∧ ∀ wide step v B2 H2, NxtE b B H B2 H2 → Box K B2 H2 b → 1 ≤ wide → 1 ≤ step → step ≤ 3 → Dp K B2 v (.list ((namesL n wide step).map nmD)) → Q v H2
theorem ok39 (F : Fun K "_law_names" "_law_names" (top 39) f fd) (nb : NoGl mg) (F37 : Dfn P w K mg base 1 "_law_take" ["box", "many"] (sp37 K)) : FnOk P w K mg base CX0 2 f fd ["box", "many"] (sp39 K) := by
  refine imp_fn F sc39 nb (fun vs H Q E ⟨_, _, _, e, _⟩ => by rw [e]; rfl) fun cdv A outer s H E vs Q hr W hsp => ?_
  obtain ⟨B, b, n, rfl, sb, m, n1, n100, fin⟩ := hsp
  have nn : (n : Int) / 4 ≤ 25 := by omega
  refine ss_cons (le_S (ps_asg (pe_tup pa_w) (pg2 (pgn 2) (pgn 3))) (aw_use (PL := fun rs => ∃ x y, rs = [x, y] ∧ 1 ≤ x ∧ x ≤ 1000 ∧ 1 ≤ y ∧ y ≤ 3) (B := B) (aw_cons (P := fun r => 1 ≤ r ∧ r ≤ 1000) (PL := fun rs => ∃ y, rs = [y] ∧ 1 ≤ y ∧ y ≤ 3)
    (ew_add (P := fun r => 1 ≤ r ∧ r ≤ 50) (P' := fun r => 0 ≤ r ∧ r < 100) (ew_pure (ev_add (m := 1) ev_int (ev_fdiv (m := (n : Int)) (n := 4) ⟨by decide, by decide⟩ (ev_var 1 (.int n)) ev_int)) ⟨by omega, by omega⟩) (ew_take (P := fun r => r = (n : Int)) 0 F37 hr (ew_pure (ev_var 1 (.int n)) rfl) fun k e => ⟨by omega, by omega, fun r h1 h2 => ⟨h1, by omega⟩⟩) fun i j h1 h2 => ⟨by omega, by omega⟩)
    (aw_cons (P := fun r => 1 ≤ r ∧ r ≤ 3) (PL := fun rs => rs = []) (ew_add (P := fun r => r = 1) (P' := fun r => 0 ≤ r ∧ r < 3) (ew_pure ev_int rfl) (ew_take (P := fun r => r = 3) 0 F37 hr (ew_pure ev_int rfl) fun k e => ⟨by omega, by omega, fun r h1 h2 => ⟨h1, by omega⟩⟩) fun i j h1 h2 => ⟨by omega, by omega⟩) (aw_nil rfl) fun r rs h1 h2 => ⟨r, by rw [h2], h1⟩)
    fun r rs h1 ⟨y, h2, h3, h4⟩ => ⟨r, y, by rw [h2], h1.1, h1.2, h3, h4⟩) (Sub.refl B) sb m fun rs B2 H2 n2 m2 ⟨wide, step, e, w1, w2, t1, t3⟩ => ?_))
  subst e
  refine ⟨by show 2 ≤ sizeLine; decide, fun t ht => ?_⟩
  have nt := Nxt.new (o := .tup ([wide, step].map V.int)) n2.i ht
  refine gd_tup2 (i := 2) (j := 3) (SqT.of (show (upd B2 t (.tup ([wide, step].map V.int))) t = _ from upd_same)) _ nt.i _ fun σ2 e2 => ?_
  have e3 : σ2 = [some (.ref b), some (.int n), some (.int wide), some (.int step), none] := e2
  subst e3
  refine ss_one (s_ret nt.i (EV.is (ev_lcR (own := [("at", 4)]) (n := n) (fun k => nmD (nameAt wide step k)) (blkOk_by (by rfl)) (fun _ _ _ _ _ => pgn 4) (ev_var 1 (.int n)) (by omega) fun k B3 hk s3 => lc_name 4 fun _ _ _ _ _ => ?_) (f := .list ((namesL n wide step).map nmD)) ?_) fun v B4 H4 n4 dv => fin wide step v B4 H4 ((n2.step nt.e m m2).step n4.e m (m2.nxt nt)) ((m2.nxt nt).nxt n4) w1 t1 t3 dv)
  · have q1 : (0 : Int) ≤ (k : Int) / wide := Int.ediv_nonneg (by omega) (by omega)
    have q2 : (k : Int) / wide ≤ k := Int.ediv_le_self _ (by omega)
    have cd : CDiv (k : Int) wide := ⟨by omega, by omega⟩
    have c1 : CMul ((k : Int) / wide) wide := .inr ⟨by omega, by omega⟩
    have c2 : CMul step ((k : Int) - (k : Int) / wide * wide) := .inl ⟨by omega, by omega⟩
    exact ev_tup (av_cons (ev_fdiv cd (ev_var 4 (.int k)) (ev_var 2 (.int wide))) (av_cons (ev_mul c2 (ev_var 3 (.int step)) (ev_sub (ev_var 4 (.int k)) (ev_mul c1 (ev_fdiv cd (ev_var 4 (.int k)) (ev_var 2 (.int wide))) (ev_var 2 (.int wide))))) av_nil)) (by show 2 ≤ 100000; decide)
  · unfold namesL
    rw [List.map_map]
    rfl
end
end Who

namespace Who
open PySem L2 PySem.Spec PyProof.Rows
section
variable {B0 H0 B H B2 H2 : Hp} {b p : Addr} {o : HO}
theorem NxtE.frz (n : NxtE b B0 H0 B H) (h0 : H0 p = none) (hp : H p = some o) (hb : B p = none) : NxtE b B0 H0 (upd B p o) H :=
  ⟨fun a u h => by
    have h1 := n.b a u h
    have e : a ≠ p := ne_of_none h1 hb
    rw [upd_ne e]; exact h1, n.h, fun a u h => by
    by_cases e : a = p
    · subst e; rw [upd_same] at h; cases h; exact hp
    · rw [upd_ne e] at h; exact n.i a u h, fun a u h z => by
    have e : a ≠ p := ne_of_none h h0
    rw [upd_ne e]; exact n.av a u h z⟩
/-- a change of a new object is no change of the old ones -/
theorem NxtE.new {q : Addr} (n : NxtE b B0 H0 B H) (y : NxtE q B H B2 H2) (hq : H0 q = none) (hb : ∃ u, H0 b = some u) (hB : B0 b = none) (hb2 : ∃ u, H b = some u) : NxtE b B0 H0 B2 H2 :=
  ⟨n.b.trans y.b, fun a u hne h => y.h a u (ne_of_none h hq) (n.h a u hne h), y.i, fun a u h z => by
    by_cases e : a = b
    · subst e
      obtain ⟨u', hu'⟩ := hb2
      exact y.av a u' hu' (n.av a u h z)
    · exact y.av a u (n.h a u e h) (n.av a u h z)⟩
theorem Box.frz {K : PySem.W.Frag} (m : Box K B H b) (hne : b ≠ p) (hp : B p = none) : Box K (upd B p o) H b := by
  obtain ⟨i, j, k, M⟩ := m
  obtain ⟨xs, h1, h2⟩ := M.h
  exact ⟨i, j, k, by rw [upd_ne hne]; exact M.b, xs, h1, h2.up (Sub.updL hp)⟩
theorem MLst.frzL {K : PySem.W.Frag} {q : Addr} {ds : List PyData} (M : MLst K B H q ds) (hne : q ≠ p) (hp : B p = none) : MLst K (upd B p o) H q ds := by
  obtain ⟨xs, h1, h2⟩ := M.h
  exact ⟨by rw [upd_ne hne]; exact M.b, xs, h1, h2.up (Sub.updL hp)⟩
end
section
variable {X : Cx} {e a c d tg : PySem.Expr} {es : List PySem.Expr} {body : List Stmt} {pos p p2 p3 : Pos} {σ : Stt} {B B' H : Hp} {b : Addr} {G : TG}
theorem s_rng1 [W : Wk X] {D : Ends} (hp : PassesOwn (model X.prog X.w) X.A X.env X.xe) (hg : PG X tg G) (h : wA X [a] σ H fun vs H1 => ∃ n : Nat, vs = [.int n] ∧ n ≤ 100000 ∧ ∃ Pv : Nat → Stt → Hp → Prop, Pv 0 σ H1 ∧ (∀ i σ' H', i < n → Pv i σ' H' → G (.int (i : Nat)) σ' H' fun σ2 H2 => wSs X body { D with nx := Pv (i + 1), ct := Pv (i + 1), bk := D.nx } σ2 H2) ∧ ∀ σ' H', Pv n σ' H' → D.nx σ' H')
    (hgl : Gl X "range" := by rfl) (h1 : starEach [a] X.env = [(false, eval a X.env)] := by rfl) (hf : ∀ x, foldedSetIterable (.Call (.Name "range" p) [a] [] p2) X.env x = pure x := by intro _; rfl) : wS X (.For tg (.Call (.Name "range" p) [a] [] p2) body [] pos) D σ H := by
  have step : ∀ (Q1 Q2 : List V → Hp → Prop), (∀ v H2, Q1 v H2 → Q2 v H2) → wA X [a] σ H Q1 → wA X [a] σ H Q2 := fun Q1 Q2 q w pos pins s I => thn (w pos pins s I) fun x s' ⟨v, H', I', r, z⟩ => ⟨v, H', I', r, q v H' z⟩
  refine le_S (ps_for hp W.calm (pi_range1 hgl (nobx X _ (by decide)) pa_w h1) hg pss_w hf) (step _ _ (fun vs H1 ⟨n, e, hn, Pv, p0, ht, hd⟩ => ?_) h)
  refine ⟨n, e, by omega, by omega, ?_⟩
  have en : (n : Int).toNat = n := by simp
  rw [en]
  exact for_range (lo := 0) (n := n) Pv p0 (fun i σ' H' hi pv => by
    have e0 : (0 : Int) + (i : Nat) = (i : Nat) := by omega
    rw [e0]
    exact ht i σ' H' hi pv) hd
theorem s_rng2 [W : Wk X] {D : Ends} (hp : PassesOwn (model X.prog X.w) X.A X.env X.xe) (hg : PG X tg G) (h : wA X [a, c] σ H fun vs H1 => ∃ lo n : Nat, vs = [.int lo, .int ((lo : Int) + n)] ∧ lo ≤ 1000 ∧ n ≤ 100000 ∧ ∃ Pv : Nat → Stt → Hp → Prop, Pv 0 σ H1 ∧ (∀ i σ' H', i < n → Pv i σ' H' → G (.int ((lo + i : Nat) : Int)) σ' H' fun σ2 H2 => wSs X body { D with nx := Pv (i + 1), ct := Pv (i + 1), bk := D.nx } σ2 H2) ∧ ∀ σ' H', Pv n σ' H' → D.nx σ' H')
    (hgl : Gl X "range" := by rfl) (h1 : starEach [a, c] X.env = [(false, eval a X.env), (false, eval c X.env)] := by rfl) (h2 : starEach [c] X.env = [(false, eval c X.env)] := by rfl) (hf : ∀ x, foldedSetIterable (.Call (.Name "range" p) [a, c] [] p2) X.env x = pure x := by intro _; rfl) : wS X (.For tg (.Call (.Name "range" p) [a, c] [] p2) body [] pos) D σ H := by
  have step : ∀ (Q1 Q2 : List V → Hp → Prop), (∀ v H2, Q1 v H2 → Q2 v H2) → wA X [a, c] σ H Q1 → wA X [a, c] σ H Q2 := fun Q1 Q2 q w pos pins s I => thn (w pos pins s I) fun x s' ⟨v, H', I', r, z⟩ => ⟨v, H', I', r, q v H' z⟩
  refine le_S (ps_for hp W.calm (pi_range2 hgl (nobx X _ (by decide)) pa_w h1 h2) hg pss_w hf) (step _ _ (fun vs H1 ⟨lo, n, e, hl, hn, Pv, p0, ht, hd⟩ => ?_) h)
  refine ⟨lo, (lo : Int) + n, e, ⟨by omega, by omega, by omega, by omega⟩, ?_⟩
  have en : ((lo : Int) + n - lo).toNat = n := by omega
  rw [en]
  exact for_range (lo := (lo : Int)) (n := n) Pv p0 (fun i σ' H' hi pv => by
    have e0 : (lo : Int) + (i : Nat) = ((lo + i : Nat) : Int) := by omega
    rw [e0]
    exact ht i σ' H' hi pv) hd
/-- _law_take(box, e), e any expression -/
theorem w_take {k : Nat} (n : Nat) {y : Str} {Q : VK} (F : Dfn X.prog X.w X.K X.mg X.base 1 "_law_take" ["box", "many"] (sp37 X.K)) (hr : Room k X.A) (h : wE X e σ H fun v H1 => ∃ (i : Int) (B1 : Hp), v = .int i ∧ Sub B1 H1 ∧ Box X.K B1 H1 b ∧ 0 < i ∧ i < 1073741824 ∧ ∀ r B2 H2, NxtE b B1 H1 B2 H2 → Box X.K B2 H2 b → 0 ≤ r → r < i → Q (.int r) H2) (hj : 1 ≤ k := by decide) (hg : Gl X "_law_take" := by rfl)
    (h0 : σ[n]? = some (some (.ref b)) := by rfl) (hN : X.N[n]? = some y := by rfl) (hv : Vis X.env.scope y := by first | exact Or.inl rfl | exact Or.inr (Or.inl rfl) | exact Or.inr (Or.inr rfl)) (hd : (y == ("__debug__" : Str)) = false := by decide) (hcd : (y == ("__classdict__" : Str)) = false := by decide)
    (he : starEach [.Name y p2, e] X.env = (false, eval (.Name y p2) X.env) :: starEach [e] X.env := by rfl) (he2 : starEach [e] X.env = (false, eval e X.env) :: starEach [] X.env := by rfl) (hpl : (backTo pos (starEach [e] X.env)).any (·.1) = false := by rfl) : wE X (.Call (.Name "_law_take" p) [.Name y p2, e] [] pos) σ H Q := by
  obtain ⟨fa, fd, G, hm, hk, hb⟩ := F.ex
  refine le_E (pe_call G (hr.mono hj) hg hm hk hb .nil pass0 (pa_cons (pe_var hN hv hd hcd) (pa_cons pe_w pa_nil he2) he) (by decide) he hpl) ⟨_, h0, wE_mono (fun v H1 ⟨i, B1, e1, s1, m, g1, g2, q⟩ => ?_) h⟩
  subst e1
  exact ⟨B1, b, i, rfl, s1, m, g1, g2, q⟩
theorem pg4 [W : Wk X] {m : Nat} {x1 x2 x3 x4 : PySem.Expr} {G1 G2 G3 G4 : TG} (h1 : PG X x1 G1) (h2 : PG X x2 G2) (h3 : PG X x3 G3) (h4 : PG X x4 G4) (hn : (assignEach [x1, x2, x3, x4] X.env).length = 4 := by rfl) (hst : (assignEach [x1, x2, x3, x4] X.env).findIdx? (·.1) = none := by rfl) (s1 : (assignEach [x1, x2, x3, x4] X.env).map (·.2) = assign x1 X.env :: (assignEach [x2, x3, x4] X.env).map (·.2) := by rfl)
    (s2 : (assignEach [x2, x3, x4] X.env).map (·.2) = assign x2 X.env :: (assignEach [x3, x4] X.env).map (·.2) := by rfl) (s3 : (assignEach [x3, x4] X.env).map (·.2) = assign x3 X.env :: (assignEach [x4] X.env).map (·.2) := by rfl) (s4 : (assignEach [x4] X.env).map (·.2) = assign x4 X.env :: (assignEach [] X.env).map (·.2) := by rfl) :
    PG X (.Tuple [x1, x2, x3, x4] m pos) (gTup X.K 4 (gCons G1 (gCons G2 (gCons G3 (gCons G4 gNil))))) := pg_tup W.calm (pgs_cons h1 (pgs_cons h2 (pgs_cons h3 (pgs_cons h4 pgs_nil s4) s3) s2) s1) hn hst
end
/-! links by places -/
abbrev Li := Int × Nat × Nat
def nA (ns : List Nm) (i : Nat) : Nm := ns.getD i (0, 0)
def lkI (ns : List Nm) (z : Li) : Lk := (z.1, nA ns z.2.1, nA ns z.2.2)
def prI (ns : List Nm) (z : Nat × Nat) : Nm × Nm := (nA ns z.1, nA ns z.2)
theorem atI_nm {ns : List Nm} {i : Nat} (h : i < ns.length) : atI (ns.map nmD) (i : Int) = some (nmD (nA ns i)) := by
  unfold atI ixN nA
  rw [if_pos (by omega), if_pos (by rw [List.length_map]; omega)]
  simp [h]
structure OkL (n : Nat) (L : List Li) : Prop where
  i : ∀ z ∈ L, z.2.1 < z.2.2 ∧ z.2.2 < n ∧ -1000000 ≤ z.1 ∧ z.1 ≤ 1000000
  nd : (L.map (·.2)).Nodup
  len : L.length ≤ 200
structure OkB (n : Nat) (bs : List (Nat × Nat)) : Prop where
  i : ∀ z ∈ bs, z.1 < z.2 ∧ z.2 < n
  nd : bs.Nodup
  len : bs.length ≤ 20
def lksI (ns : List Nm) (L : List Li) : PyData := .list (L.map fun z => lkD (lkI ns z))
def brsI (ns : List Nm) (bs : List (Nat × Nat)) : PyData := .list (bs.map fun z => prD (prI ns z))
def spWeb (K : PySem.W.Frag) : Sp := fun vs H Q _ => ∃ (B : Hp) (b : Addr) (v : V) (ns : List Nm), vs = [.ref b, v] ∧ Sub B H ∧ Box K B H b ∧ Dp K B v (.list (ns.map nmD)) ∧ 2 ≤ ns.length ∧ ns.length ≤ 100 ∧ ns.Nodup ∧
  ∀ t a c L bs B2 H2, NxtE b B H B2 H2 → Box K B2 H2 b → B2 t = some (.tup [a, c]) → Dp K B2 a (lksI ns L) → Dp K B2 c (brsI ns bs) → OkL ns.length L → OkB ns.length bs → Q (.ref t) H2
end Who

namespace Who
open PySem L2 PySem.Spec PyProof.Rows
section
variable {X : Cx} {e : PySem.Expr} {σ : Stt} {B : Hp} {b : Addr}
theorem tw_use {B1 H1 : Hp} (h : TW X e σ B b) (s1 : Sub B B1) (s2 : Sub B1 H1) (m : Box X.K B1 H1 b) {Q : Bool → Hp → Prop} (q : ∀ r B2 H2, NxtE b B1 H1 B2 H2 → Box X.K B2 H2 b → Q r H2) : wT X e σ H1 Q := h B1 H1 s1 s2 m Q q
theorem tvh_use {H : Hp} {k : Bool} (h : TVH X e σ B H k) {Q : Bool → Hp → Prop} (q : ∀ H2, Nxt B H B H2 → Q k H2) : wT X e σ H Q := h Q q
end
/-- a link is put in -/
def putAt' (L : List Li) (r : Nat) (z : Li) : List Li := L.take r ++ [z] ++ L.drop r
theorem putAt_perm (L : List Li) (r : Nat) (z : Li) : (putAt' L r z).Perm (z :: L) := by
  unfold putAt'
  rw [List.append_assoc]
  have h1 : (L.take r ++ ([z] ++ L.drop r)).Perm (z :: (L.take r ++ L.drop r)) := List.perm_middle
  rw [List.take_append_drop] at h1
  exact h1
theorem nA_inj {ns : List Nm} (nd : ns.Nodup) {i j : Nat} (hi : i < ns.length) (hj : j < ns.length) (e : nA ns i = nA ns j) : i = j := by
  unfold nA at e
  rw [show ns.getD i (0, 0) = ns[i] by simp [hi], show ns.getD j (0, 0) = ns[j] by simp [hj]] at e
  rcases Nat.lt_trichotomy i j with h | h | h
  · exact absurd e (List.pairwise_iff_getElem.mp nd i j hi hj h)
  · exact h
  · exact absurd e.symm (List.pairwise_iff_getElem.mp nd j i hj hi h)
theorem canLay_prs : ∀ ns : List (Nm × Nm), PyData.canLayAll0 (ns.map prD) = true
  | [] => rfl
  | a :: ns => by
    simp [PyData.canLayAll0, prD, nmD, PyData.canLay0, canLay_prs ns]
theorem depth_prs : ∀ ns : List (Nm × Nm), PyData.depthAll (ns.map prD) ≤ 3
  | [] => by simp [PyData.depthAll]
  | a :: ns => by
    have := depth_prs ns
    have h0 : (prD a).depth ≤ 3 := by simp [prD, nmD, PyData.depth, PyData.depthAll]
    rw [List.map_cons, PyData.depthAll]
    exact Nat.max_le.mpr ⟨h0, this⟩
theorem shaped_prs (ns : List (Nm × Nm)) : SeqAt.shaped (.list (ns.map prD)) = true := by
  have h := depth_prs ns
  refine shaped_of (by rw [PyData.canLay0]; exact canLay_prs ns) ?_
  rw [PyData.depth]
  exact Nat.le_trans (Nat.succ_le_succ h) (by decide)
section
variable {P : Program} {w : World} {K : PySem.W.Frag} {mg : Str → Option Value} {base : Heap} {f : Addr} {fd : FuncData}
theorem sc40 : FnScope ["box", "names", "top", "pairs", "links", "bars", "at", "here", "near", "weight", "turn", "bar"] ["box", "names"] (defScope (top 40)) := ⟨rfl, rfl, rfl, by decide +kernel, rfl, by decide +kernel, by decide +kernel⟩
/-- within the first loop -/
def WebI (P : Program) (w : World) (K : PySem.W.Frag) (B H : Hp) (b pr lk br : Addr) (v : V) (tp : Int) (ns : List Nm) (i : Nat) (σ : Stt) (H' : Hp) : Prop :=
  ∃ (B' : Hp) (L : List Li) (ks : List NestedKey) (g : NestedKey → PyData), (∃ x6 x7 x8 x9 x10 x11, σ = [some (.ref b), some v, some (.int tp), some (.ref pr), some (.ref lk), some (.ref br), x6, x7, x8, x9, x10, x11]) ∧ NxtE b B H B' H' ∧ Box K B' H' b ∧ MD P w K B' H' pr ks g ∧
    (∀ i j : Nat, nmK ((i : Int), (j : Int)) ∈ ks ↔ (i, j) ∈ L.map (·.2)) ∧ ks.length ≤ i ∧ L.length ≤ i ∧ MLst K B' H' lk (L.map fun z => lkD (lkI ns z)) ∧ MLst K B' H' br [] ∧ (∀ z ∈ L, z.2.1 < z.2.2 ∧ z.2.2 < ns.length ∧ -1000000 ≤ z.1 ∧ z.1 ≤ 1000000) ∧ (L.map (·.2)).Nodup
theorem ok40 (F : Fun K "_law_web" "_law_web" (top 40) f fd) (nb : NoGl mg) (F37 : Dfn P w K mg base 1 "_law_take" ["box", "many"] (sp37 K)) (F38 : Dfn P w K mg base 2 "_law_pick" ["box", "some"] (sp38 K)) : FnOk P w K mg base CX0 3 f fd ["box", "names"] (spWeb K) := by
  refine imp_fn F sc40 nb (fun vs H Q E ⟨_, _, _, _, e, _⟩ => by rw [e]; rfl) fun cdv A outer s H E vs Q hr W hsp => ?_
  obtain ⟨B, b, v, ns, rfl, sb, m, hv, n2, n100, nd, fin⟩ := hsp
  have hlen : (ns.map nmD).length = ns.length := List.length_map _
  refine ss_cons (le_S (ps_asg (pe_tup (pa_cons pe_w (pa_cons pe_nnew (pa_cons (pe_lst pa_nil) (pa_cons (pe_lst pa_nil) pa_nil))))) (pg4 (pgn 2) (pgn 3) (pgn 4) (pgn 5))) ?_)
  refine ew_use (ew_pick (R := fun r => 1 ≤ r ∧ r ≤ 1000000) (PL := fun rs => rs = [3, 12, 10 ^ (6 : Int).toNat]) 0 F38 hr (aw_cons (P := fun r => r = 3) (PL := fun rs => rs = [12, 10 ^ (6 : Int).toNat]) (ew_pure ev_int rfl) (aw_cons (P := fun r => r = 12) (PL := fun rs => rs = [10 ^ (6 : Int).toNat]) (ew_pure ev_int rfl) (aw_cons (P := fun r => r = 10 ^ (6 : Int).toNat) (PL := fun rs => rs = []) (ew_pure (ev_pow ⟨by decide, by decide, by decide⟩ ev_int ev_int) rfl) (aw_nil rfl) fun r rs h1 h2 => by rw [h1, h2]) fun r rs h1 h2 => by rw [h1, h2]) fun r rs h1 h2 => by rw [h1, h2]) fun rs e => ⟨by rw [e]; simp, by rw [e]; simp, fun r hr => by
      rw [e] at hr
      simp at hr
      rcases hr with h | h | h <;> subst h <;> decide⟩) (Sub.refl B) sb m fun tp B2 H2 nx2 m2 ⟨t1, t2⟩ => ?_
  refine fun pr hpr => ⟨by show 0 ≤ sizeLine; decide, fun lk hlk => ⟨by show 0 ≤ sizeLine; decide, fun br hbr => ⟨by show 4 ≤ sizeLine; decide, fun t ht => ?_⟩⟩⟩
  have i1 := nx2.i
  have q1 : Nxt B2 H2 B2 (upd H2 pr (NdO P w pr [])) := Nxt.mut i1 hpr
  have q2 : Nxt B2 _ B2 (upd (upd H2 pr (NdO P w pr [])) lk (.lst [])) := Nxt.mut q1.i hlk
  have q3 : Nxt B2 _ B2 (upd (upd (upd H2 pr (NdO P w pr [])) lk (.lst [])) br (.lst [])) := Nxt.mut q2.i hbr
  have q4 := Nxt.new (o := .tup [.int tp, .ref pr, .ref lk, .ref br]) q3.i ht
  have hlk2 : H2 lk = none := q1.back hlk
  have hbr2 : H2 br = none := (q1.trans q2).back hbr
  have bpr : B2 pr = none := i1.none hpr
  have blk : B2 lk = none := i1.none hlk2
  have bbr : B2 br = none := i1.none hbr2
  have npl : pr ≠ lk := ne_of_none upd_same hlk
  have nlb : lk ≠ br := ne_of_none upd_same hbr
  have npb : pr ≠ br := fun e => by
    subst e
    rw [upd_ne npl, upd_same] at hbr
    cases hbr
  have nbp : b ≠ pr := ne_of_none m2.is.choose_spec hpr
  have nbl : b ≠ lk := ne_of_none m2.is.choose_spec hlk2
  have nbb : b ≠ br := ne_of_none m2.is.choose_spec hbr2
  have back : ∀ {p : Addr}, p ≠ b → H2 p = none → H p = none := fun {p} hne h => by
    cases e : H p with
    | none => rfl
    | some u => rw [nx2.h p u hne e] at h; cases h
  have h0pr := back nbp.symm hpr
  have h0lk := back nbl.symm hlk2
  have h0br := back nbb.symm hbr2
  refine ⟨t, _, rfl, SqT.of upd_same, rfl, _, _, rfl, _, _, rfl, _, _, rfl, _, _, rfl, rfl, ?_⟩
  have q14 := ((q1.trans q2).trans q3).trans q4
  have n14 := nx2.step q14.e m m2
  have MP : MD P w K (upd B2 t (.tup [.int tp, .ref pr, .ref lk, .ref br])) _ pr [] (fun _ => .bool true) := MD.nxt ⟨bpr, [], by rw [upd_ne npb, upd_ne npl]; exact upd_same, (by intro p hp; cases hp), rfl, (by intro p hp; cases hp)⟩ q4
  have ML : MLst K (upd B2 t (.tup [.int tp, .ref pr, .ref lk, .ref br])) _ lk [] := MLst.nxt ⟨blk, [], by rw [upd_ne nlb]; exact upd_same, .nil⟩ q4
  have MB : MLst K (upd B2 t (.tup [.int tp, .ref pr, .ref lk, .ref br])) _ br [] := MLst.nxt ⟨bbr, [], upd_same, .nil⟩ q4
  generalize upd B2 t (.tup [.int tp, .ref pr, .ref lk, .ref br]) = B3 at q14 n14 MP ML MB
  have v3 := hv.up n14.b
  refine ss_cons (s_rng2 PassesOwn.never (pgn 6) ((av_cons (X := (cxOf CX0 P w K mg base ["box", "names", "top", "pairs", "links", "bars", "at", "here", "near", "weight", "turn", "bar"] "_law_web" (defScope (top 40)) f cdv A outer s H E).nox) ev_int (av_cons (ev_add (ev_len rfl (ev_var 1 v3)) ev_int) av_nil)) _ n14.i _ fun vs B4 H4 n4 dd => ?_))
  obtain ⟨w1, w2, rfl, d1, d2⟩ := dp2 dd
  refine ⟨1, ns.length + 11, ?_, by decide, by omega, WebI P w K B H b pr lk br v tp ns, ⟨B4, [], [], _, ⟨_, _, _, _, _, _, rfl⟩, n14.step n4.e m (m2.nxt q14), (m2.nxt q14).nxt n4, MP.nxt n4, fun i j => by simp, Nat.le_refl _, Nat.le_refl _, ML.nxt n4, MB.nxt n4, (by intro z hz; cases hz), List.nodup_nil⟩, ?_, ?_⟩
  · rw [d1.int_inv, d2.int_inv, hlen]
    have e : ((ns.length : Nat) : Int) + 12 = ((1 : Nat) : Int) + ((ns.length + 11 : Nat) : Int) := by omega
    rw [e]
    rfl
  · rintro i σ' H' hi ⟨B', L, ks, g, ⟨x6, x7, x8, x9, x10, x11, rfl⟩, nn, mm, MP, hks, kl, ll, ML, MB, okl, ndl⟩
    have v' := hv.up nn.b
    have isH := m.is
    have b0 := m.b0
    -- here
    refine ss_cons (le_S (ps_set W.nd (i := 7) rfl (Or.inl rfl) pe_w) (ew_use (ew_ifE (P := fun r => 1 ≤ r ∧ r < (ns.length : Int)) (tv_lt (ev_var 6 (.int _)) (ev_len rfl (ev_var 1 v'))) (fun k => ew_pure (ev_var 6 (.int _)) ⟨by omega, by have := of_decide_eq_true k; rw [hlen] at this; exact this⟩)
      (fun _ => ew_add (P := fun r => r = 1) (P' := fun r => 0 ≤ r ∧ r < (ns.length : Int) - 1) (ew_pure ev_int rfl) (ew_take (P := fun r => r = (ns.length : Int) - 1) 0 F37 hr (ew_pure (ev_sub (ev_len rfl (ev_var 1 v')) ev_int) (by rw [hlen])) fun n e => ⟨by omega, by omega, fun r h1 h2 => ⟨h1, by omega⟩⟩) fun i j h1 h2 => ⟨by omega, by omega⟩)) (Sub.refl B') nn.i mm fun here B5 H5 n5 m5 ⟨g1, g2⟩ => ?_))
    -- near
    refine ss_cons (le_S (ps_set W.nd (i := 8) rfl (Or.inl rfl) pe_w) (ew_use (ew_ifW (P := fun r => 0 ≤ r ∧ r < here) (tw_eq (P := fun r => True) (P' := fun r => True) (ew_take (P := fun r => r = 3) 0 F37 hr (ew_pure ev_int rfl) fun n e => ⟨by omega, by omega, fun r h1 h2 => trivial⟩) (ew_pure ev_int trivial))
      (ew_sub (P := fun r => r = here - 1) (P' := fun r => 0 ≤ r ∧ r < here) (ew_pure (ev_sub (ev_var 7 (.int here)) ev_int) rfl) (ew_take (P := fun r => r = here) 0 F37 hr (ew_pure (ev_var 7 (.int here)) rfl) fun n e => ⟨by omega, by omega, fun r h1 h2 => ⟨h1, by omega⟩⟩) fun i j h1 h2 => ⟨by omega, by omega⟩)
      (ew_max (PL := fun rs => ∃ y, rs = [0, y] ∧ y < here) (aw_cons (P := fun r => r = 0) (PL := fun rs => ∃ y, rs = [y] ∧ y < here) (ew_pure ev_int rfl) (aw_cons (P := fun r => r < here) (PL := fun rs => rs = []) (ew_sub (P := fun r => r = here - 1) (P' := fun r => 0 ≤ r) (ew_pure (ev_sub (ev_var 7 (.int here)) ev_int) rfl) (ew_take (P := fun r => r = 3) 0 F37 hr (ew_pure ev_int rfl) fun n e => ⟨by omega, by omega, fun r h1 h2 => h1⟩) fun i j h1 h2 => by omega) (aw_nil rfl) fun r rs h1 h2 => ⟨r, by rw [h2], h1⟩) fun r rs h1 ⟨y, h2, h3⟩ => ⟨y, by rw [h1, h2], h3⟩) fun rs ⟨y, e, hy⟩ => ⟨0, y, e, by split <;> omega⟩)) n5.b n5.i m5 fun near B6 H6 n6 m6 ⟨g3, g4⟩ => ?_))
    obtain ⟨hn, rfl⟩ := Int.eq_ofNat_of_zero_le (show 0 ≤ here by omega)
    obtain ⟨nn', rfl⟩ := Int.eq_ofNat_of_zero_le g3
    have hh : hn < ns.length := by omega
    have hnn : nn' < hn := by omega
    have n56 := n5.step n6 mm m5
    have nn6 := nn.step n56 m mm
    have MP6 := MP.nxtE n56 nbp.symm
    have ML6 := ML.nxtE n56 nbl.symm
    have MB6 := MB.nxtE n56 nbb.symm
    have v6 := v'.up n56.b
    -- the end of a turn that puts nothing in
    have skip : ∀ B7 H7, NxtE b B6 H6 B7 H7 → Box K B7 H7 b → WebI P w K B H b pr lk br v tp ns (i + 1) [some (.ref b), some v, some (.int tp), some (.ref pr), some (.ref lk), some (.ref br), some (.int ((1 + i : Nat) : Int)), some (.int (hn : Int)), some (.int (nn' : Int)), x9, x10, x11] H7 := fun B7 H7 n7 m7 =>
      ⟨B7, L, ks, g, ⟨_, _, _, _, _, _, rfl⟩, nn6.step n7 m m6, m7, MP6.nxtE n7 nbp.symm, hks, Nat.le_succ_of_le kl, Nat.le_succ_of_le ll, ML6.nxtE n7 nbl.symm, MB6.nxtE n7 nbb.symm, okl, ndl⟩
    refine ss_one (le_S (ps_if (PW.pt (pw_and pt_w (pw_and1 pt_w))) pss_w pss_w) ?_)
    refine tvh_use (MD.test MP6 n6.i (k := !decide (nmK ((nn' : Int), (hn : Int)) ∈ ks)) fun Bf s1 s2 F => tv_nnin' 3 F (ok_nm _) (EV.is (ev_tup (av_cons (ev_var 8 (.int _)) (av_cons (ev_var 7 (.int _)) av_nil)) (by show 2 ≤ 100000; decide)) (kD_nm _).symm)) fun H7 n7 => ?_
    have m7 := m6.nxt n7
    cases hin : (!decide (nmK ((nn' : Int), (hn : Int)) ∈ ks)) with
    | false => exact iteF (iteF (ss_nil (skip B6 H7 n7.e m7)))
    | true =>
      have hno : nmK ((nn' : Int), (hn : Int)) ∉ ks := by simpa using hin
      refine iteT (tw_use (tw_gt (P := fun r => True) (P' := fun r => True) (ew_take (P := fun r => r = 12) 0 F37 hr (ew_pure ev_int rfl) fun n e => ⟨by omega, by omega, fun r h1 h2 => trivial⟩) (ew_pure ev_int trivial)) (Sub.refl B6) n7.i m7 fun go B8 H8 n8 m8 => ?_)
      have n68 := n7.e.step n8 m6 m7
      cases go with
      | false => exact iteF (ss_nil (skip B8 H8 n68 m8))
      | true =>
        refine iteT ?_
        have MP8 := MP6.nxtE n68 nbp.symm
        have ML8 := ML6.nxtE n68 nbl.symm
        have MB8 := MB6.nxtE n68 nbb.symm
        have nn8 := nn6.step n68 m m6
        refine ss_cons (s_nput 3 (k := nmK ((nn' : Int), (hn : Int))) n8.i MP8 (ok_nm _) (by omega) ev_bl (EV.is (ev_tup (av_cons (ev_var 8 (.int _)) (av_cons (ev_var 7 (.int _)) av_nil)) (by show 2 ≤ 100000; decide)) (kD_nm _).symm) fun B9 H9 n9 MP9 => ?_)
        have nn9 := nn8.new n9 h0pr isH b0 m8.is
        have m9 := m8.nxtE n9 nbp
        have ML9 := ML8.nxtE n9 npl.symm
        have MB9 := MB8.nxtE n9 npb.symm
        have v9 := hv.up nn9.b
        refine ss_cons (le_S (ps_set W.nd (i := 9) rfl (Or.inl rfl) pe_w) (ew_use (ew_mul (R := fun r => -1000000 ≤ r ∧ r ≤ 1000000) (P := fun r => 0 ≤ r ∧ r ≤ 1000000) (P' := fun r => r = 1 ∨ r = -1) (ew_take (P := fun r => r = tp + 1) 0 F37 hr (ew_pure (ev_add (ev_var 2 (.int tp)) ev_int) rfl) fun n e => ⟨by omega, by omega, fun r h1 h2 => ⟨h1, by omega⟩⟩)
          (ew_pick (PL := fun rs => rs = [1, 1, 1, -1]) 0 F38 hr (aw_cons (P := fun r => r = 1) (PL := fun rs => rs = [1, 1, -1]) (ew_pure ev_int rfl) (aw_cons (P := fun r => r = 1) (PL := fun rs => rs = [1, -1]) (ew_pure ev_int rfl) (aw_cons (P := fun r => r = 1) (PL := fun rs => rs = [-1]) (ew_pure ev_int rfl) (aw_cons (P := fun r => r = -1) (PL := fun rs => rs = []) (ew_pure (ev_sub ev_int ev_int) (by decide)) (aw_nil rfl) fun r rs h1 h2 => by rw [h1, h2]) fun r rs h1 h2 => by rw [h1, h2]) fun r rs h1 h2 => by rw [h1, h2]) fun r rs h1 h2 => by rw [h1, h2])
            fun rs e => ⟨by rw [e]; simp, by rw [e]; simp, fun r hr => by
              rw [e] at hr
              simp at hr
              exact hr⟩) fun x y h1 h2 => by
            rcases h2 with h2 | h2
            · subst h2; exact ⟨.inr ⟨by decide, by decide⟩, by omega⟩
            · subst h2; exact ⟨.inr ⟨by decide, by decide⟩, by omega⟩) (Sub.refl B9) n9.i m9 fun wt B10 H10 n10 m10 ⟨w1, w2⟩ => ?_))
        have nn10 := nn9.step n10 m m9
        have MP10 := MP9.nxtE n10 nbp.symm
        have ML10 := ML9.nxtE n10 nbl.symm
        have MB10 := MB9.nxtE n10 nbb.symm
        have v10 := v9.up n10.b
        obtain ⟨xs0, g01, g02⟩ := ML10.h
        refine ss_one (le_S (ps_expr (pe_bm PySem.F.plainAttrs_list PySem.F.slot_list_insert PySem.F.type_list_insert mt_insert (pv 4) (pa_cons pe_w (pa_cons pe_w pa_nil)))) ⟨_, rfl, .inl ⟨rfl, xs0, .inl (.inl g01)⟩, ?_⟩)
        have lL : (L.map fun z => lkD (lkI ns z)).length = L.length := List.length_map _
        refine w_take 0 F37 hr (MLst.look ML10 n10.i (i := (L.length : Int) + 1) (fun Bf s1 s2 D => EV.is (ev_add (ev_len rfl (ev_var 4 D)) ev_int) (by rw [lL])) _ fun H11 n11 => ⟨_, B10, rfl, n11.i, m10.nxt n11, by omega, by omega, fun r B12 H12 n12 m12 r0 r1 => ?_⟩)
        have n112 := n11.e.step n12 m10 (m10.nxt n11)
        have nn12 := nn10.step n112 m m10
        have MP12 := MP10.nxtE n112 nbp.symm
        have ML12 := ML10.nxtE n112 nbl.symm
        have MB12 := MB10.nxtE n112 nbb.symm
        have v12 := v10.up n112.b
        obtain ⟨rn, rfl⟩ := Int.eq_ofNat_of_zero_le r0
        refine (ev_tup (X := (cxOf CX0 P w K mg base ["box", "names", "top", "pairs", "links", "bars", "at", "here", "near", "weight", "turn", "bar"] "_law_web" (defScope (top 40)) f cdv A outer s H E).nox) (av_cons (ev_var 9 (.int wt)) (av_cons (ev_ix rfl (atI_nm (show nn' < ns.length by omega)) (ev_var 1 v12) (ev_var 8 (.int _))) (av_cons (ev_ix rfl (atI_nm hh) (ev_var 1 v12) (ev_var 7 (.int _))) av_nil))) (by show 3 ≤ 100000; decide)) H12 n12.i _ fun y B13 H13 n13 dy => ?_
        have ML13 := ML12.nxt n13
        obtain ⟨xs, g21, g22⟩ := ML13.h
        have hx := g22.len
        rw [lL] at hx
        have zz : (1000000 : Nat) < sizeLine := by decide
        refine ⟨lk, xs, rn, y, rfl, rfl, g21, by omega, r0, by omega, ?_⟩
        have nput : NxtE lk B13 H13 B13 (upd H13 lk (.lst (xs.take (rn : Int).toNat ++ [y] ++ xs.drop (rn : Int).toNat))) := NxtE.put (Nxt.refl n13.i) g21 ML13.b
        have dy' : Dp K B13 y (lkD (lkI ns (wt, nn', hn))) := dy
        refine ⟨B13, putAt' L rn (wt, nn', hn), ksPut ks (nmK ((nn' : Int), (hn : Int))), _, ⟨_, _, _, _, _, _, rfl⟩, (nn12.step n13.e m m12).new nput h0lk isH b0 (m12.nxt n13).is, (m12.nxt n13).nxtE nput nbl, (MP12.nxt n13).nxtE nput npl, fun i' j' => ?_, ?_, ?_, ⟨ML13.b, _, upd_same, ?_⟩, (MB12.nxt n13).nxtE nput nlb.symm, fun z hz => ?_, ?_⟩
        · have e1 : ksPut ks (nmK ((nn' : Int), (hn : Int))) = ks ++ [nmK ((nn' : Int), (hn : Int))] := if_neg hno
          rw [e1, List.mem_append, hks, ((putAt_perm L rn (wt, nn', hn)).map (·.2)).mem_iff, List.mem_singleton, List.map_cons, List.mem_cons]
          constructor
          · rintro (h | h)
            · exact .inr h
            · have e2 := nmK_inj h
              have e3 : (i' : Int) = nn' := congrArg Prod.fst e2
              have e4 : (j' : Int) = hn := congrArg Prod.snd e2
              left
              have e5 : i' = nn' := by omega
              have e6 : j' = hn := by omega
              rw [e5, e6]
          · rintro (h | h)
            · right
              have e5 : i' = nn' := congrArg Prod.fst h
              have e6 : j' = hn := congrArg Prod.snd h
              rw [e5, e6]
            · exact .inl h
        · have e1 : ksPut ks (nmK ((nn' : Int), (hn : Int))) = ks ++ [nmK ((nn' : Int), (hn : Int))] := if_neg hno
          rw [e1, List.length_append]
          exact Nat.succ_le_succ kl
        · rw [(putAt_perm L rn (wt, nn', hn)).length_eq]
          exact Nat.succ_le_succ ll
        · have e2 : (rn : Int).toNat = rn := by simp
          rw [e2]
          unfold putAt'
          rw [List.map_append, List.map_append, List.map_take, List.map_drop]
          exact ((g22.take rn).app (.cons dy' .nil)).app (g22.drop rn)
        · rcases List.mem_cons.mp ((putAt_perm L rn (wt, nn', hn)).mem_iff.mp hz) with e | hz
          · subst e; exact ⟨hnn, hh, w1, w2⟩
          · exact okl z hz
        · rw [((putAt_perm L rn (wt, nn', hn)).map (·.2)).nodup_iff, List.map_cons, List.nodup_cons]
          exact ⟨fun h => hno ((hks nn' hn).mpr h), ndl⟩
  · rintro σ' H' ⟨B', L, ks, g, ⟨x6, x7, x8, x9, x10, x11, rfl⟩, nn, mm, MP, hks, kl, ll, ML, MB, okl, ndl⟩
    -- the bars
    have isH := m.is
    have b0 := m.b0
    have v' := hv.up nn.b
    refine ss_cons (s_rng1 PassesOwn.never (pgn 10) (le_A (pa_cons pe_w pa_nil) (ew_use (ew_take (P := fun r => r = 17) (R := fun r => 0 ≤ r ∧ r < 17) 0 F37 hr (ew_pure ev_int rfl) fun n e => ⟨by omega, by omega, fun r h1 h2 => ⟨h1, by omega⟩⟩) (Sub.refl B') nn.i mm fun cnt B5 H5 n5 m5 ⟨c1, c2⟩ => ?_)))
    obtain ⟨cn, rfl⟩ := Int.eq_ofNat_of_zero_le c1
    have nn5 := nn.step n5 m mm
    refine ⟨cn, rfl, by omega, fun i σ3 H3 => ∃ (B3 : Hp) (bs : List (Nat × Nat)), (∃ x6 x7 x8 x9 x10 x11, σ3 = [some (.ref b), some v, some (.int tp), some (.ref pr), some (.ref lk), some (.ref br), x6, x7, x8, x9, x10, x11]) ∧ NxtE b B H B3 H3 ∧ Box K B3 H3 b ∧ MLst K B3 H3 lk (L.map fun z => lkD (lkI ns z)) ∧ MLst K B3 H3 br (bs.map fun z => prD (prI ns z)) ∧ (∀ z ∈ bs, z.1 < z.2 ∧ z.2 < ns.length) ∧ bs.Nodup ∧ bs.length ≤ i, ⟨B5, [], ⟨_, _, _, _, _, _, rfl⟩, nn5, m5, ML.nxtE n5 nbl.symm, MB.nxtE n5 nbb.symm, (by intro z hz; cases hz), List.nodup_nil, Nat.le_refl _⟩, ?_, ?_⟩
    · rintro i σ3 H3 hi ⟨B3, bs, ⟨x6, x7, x8, x9, x10, x11, rfl⟩, n3, m3, ML3, MB3, okb, ndb, lb⟩
      have v3 := hv.up n3.b
      refine ss_cons (le_S (ps_set W.nd (i := 7) rfl (Or.inl rfl) pe_w) (ew_use (ew_add (R := fun r => 1 ≤ r ∧ r < (ns.length : Int)) (P := fun r => r = 1) (P' := fun r => 0 ≤ r ∧ r < (ns.length : Int) - 1) (ew_pure ev_int rfl) (ew_take (P := fun r => r = (ns.length : Int) - 1) 0 F37 hr (ew_pure (ev_sub (ev_len rfl (ev_var 1 v3)) ev_int) (by rw [hlen])) fun n e => ⟨by omega, by omega, fun r h1 h2 => ⟨h1, by omega⟩⟩) fun i j h1 h2 => ⟨by omega, by omega⟩) (Sub.refl B3) n3.i m3 fun here B6 H6 n6 m6 ⟨g1, g2⟩ => ?_))
      obtain ⟨hn, rfl⟩ := Int.eq_ofNat_of_zero_le (show 0 ≤ here by omega)
      have hh : hn < ns.length := by omega
      have v6 := v3.up n6.b
      have nn6 := n3.step n6 m m3
      refine ss_cons (le_S (ps_set W.nd (i := 11) rfl (Or.inl rfl) (pe_tup (pa_cons (pe_ix ix_seq pe_w pe_w (by intro _ _; rfl)) (pa_cons pe_w pa_nil)))) ?_)
      refine (ev_var (X := (cxOf CX0 P w K mg base ["box", "names", "top", "pairs", "links", "bars", "at", "here", "near", "weight", "turn", "bar"] "_law_web" (defScope (top 40)) f cdv A outer s H E).nox) 1 v6) H6 n6.i _ fun y1 B7 H7 n7 d7 => ?_
      refine ew_use (ew_take (P := fun r => r = (hn : Int)) (R := fun r => 0 ≤ r ∧ r < (hn : Int)) 0 F37 hr (ew_pure (ev_var 7 (.int _)) rfl) fun n e => ⟨by omega, by omega, fun r h1 h2 => ⟨h1, by omega⟩⟩) n7.b n7.i (m6.nxt n7) fun r B8 H8 n8 m8 ⟨r0, r1⟩ => ?_
      obtain ⟨rn, rfl⟩ := Int.eq_ofNat_of_zero_le r0
      have hrn : rn < hn := by omega
      refine rd_ix (K := K) rfl (atI_nm (show rn < ns.length by omega)) y1 _ B8 H8 n8.i (d7.up n8.b) (.int _) _ fun y2 B9 H9 n9 d9 => ?_
      have v9 := ((v6.up n7.b).up n8.b).up n9.b
      refine (ev_ix (X := (cxOf CX0 P w K mg base ["box", "names", "top", "pairs", "links", "bars", "at", "here", "near", "weight", "turn", "bar"] "_law_web" (defScope (top 40)) f cdv A outer s H E).nox) rfl (atI_nm hh) (ev_var 1 v9) (ev_var 7 (.int _))) H9 n9.i _ fun y3 B10 H10 n10 d10 => ⟨by show 2 ≤ sizeLine; decide, fun t ht => ?_⟩
      have nt := Nxt.new (o := .tup [y2, y3]) n10.i ht
      have dbar : Dp K (upd B10 t (.tup [y2, y3])) (.ref t) (prD (prI ns (rn, hn))) := dpT upd_same (.cons ((d9.up n10.b).up nt.b) (.cons (d10.up nt.b) .nil))
      have n610 : NxtE b B6 H6 (upd B10 t (.tup [y2, y3])) (upd H10 t (.tup [y2, y3])) := ((n7.e.step n8 m6 (m6.nxt n7)).step ((n9.trans n10).trans nt).e m6 m8)
      have m10 : Box K (upd B10 t (.tup [y2, y3])) (upd H10 t (.tup [y2, y3])) b := m8.nxt ((n9.trans n10).trans nt)
      have n310 := n6.step n610 m3 m6
      have nn10 := n3.step n310 m m3
      have ML10 := ML3.nxtE n310 nbl.symm
      have MB10 := MB3.nxtE n310 nbb.symm
      generalize upd B10 t (.tup [y2, y3]) = Bz at dbar n610 m10 n310 nn10 ML10 MB10
      generalize upd H10 t (.tup [y2, y3]) = Hz at n610 m10 n310 nn10 ML10 MB10
      have sz := nn10.i
      have anyb : ((bs.map fun z => prD (prI ns z)).any fun z => PyData.eqv z (prD (prI ns (rn, hn)))) = decide ((rn, hn) ∈ bs) := by
        rw [Bool.eq_iff_iff]
        simp only [List.any_map, List.any_eq_true, Function.comp, eqv_pr, decide_eq_true_eq]
        constructor
        · rintro ⟨z, hz, e⟩
          have e1 := congrArg Prod.fst e
          have e2 := congrArg Prod.snd e
          have o := okb z hz
          have f1 : z.1 = rn := nA_inj nd (by omega) (by omega) e1
          have f2 : z.2 = hn := nA_inj nd (by omega) hh e2
          have : z = (rn, hn) := by rw [← f1, ← f2]
          rw [← this]
          exact hz
        · intro h; exact ⟨_, h, rfl⟩
      have shb : SeqAt.shaped (.list (bs.map fun z => prD (prI ns z))) = true := by
        have := shaped_prs (bs.map (prI ns))
        rw [List.map_map] at this
        exact this
      refine ss_one (s_ifH (k := !decide ((rn, hn) ∈ bs)) (MB10.test sz fun Bf s1 s2 D => TV.is (tv_nin rfl (shaped_pr _) shb (ev_var 11 (dbar.up s1)) (ev_var 5 D)) (by rw [anyb])) (fun H11 n11 hk => ?_) fun H11 n11 hk => ss_nil ?_)
      · have hno : (rn, hn) ∉ bs := by simpa using hk
        have MB11 := MB10.nxt n11
        refine ss_one (s_append 5 n11.i MB11 (ev_var 11 dbar) (by rw [List.length_map]; omega) fun B12 H12 n12 M12 => ?_)
        refine ⟨B12, bs ++ [(rn, hn)], ⟨_, _, _, _, _, _, rfl⟩, (nn10.step n11.e m m10).new n12 h0br isH b0 (m10.nxt n11).is, (m10.nxt n11).nxtE n12 nbb, (ML10.nxt n11).nxtE n12 nlb, ?_, fun z hz => ?_, nodup_snoc ndb hno, by rw [List.length_append]; exact Nat.succ_le_succ lb⟩
        · rw [List.map_append]; exact M12
        · rcases List.mem_append.mp hz with z1 | z1
          · exact okb z z1
          · rw [List.mem_singleton.mp z1]; exact ⟨hrn, hh⟩
      · exact ⟨Bz, bs, ⟨_, _, _, _, _, _, rfl⟩, nn10.step n11.e m m10, m10.nxt n11, ML10.nxt n11, MB10.nxt n11, okb, ndb, Nat.le_succ_of_le lb⟩
    · rintro σ3 H3 ⟨B3, bs, ⟨x6, x7, x8, x9, x10, x11, rfl⟩, n3, m3, ML3, MB3, okb, ndb, lb⟩
      refine ss_one (le_S (ps_ret (pe_tup (pa_cons (pv 4) (pa_cons (pv 5) pa_nil)))) ⟨_, rfl, _, rfl, by show 2 ≤ sizeLine; decide, fun t ht => ?_⟩)
      obtain ⟨xs, a1, a2⟩ := ML3.h
      obtain ⟨ys, c1, c2⟩ := MB3.h
      have f1 := n3.frz h0lk a1 ML3.b
      have mf1 := m3.frz (o := .lst xs) nbl ML3.b
      have MB4 := MB3.frzL (o := .lst xs) nlb.symm ML3.b
      have f2 := f1.frz h0br c1 MB4.b
      have mf2 := mf1.frz (o := .lst ys) nbb MB4.b
      have d1 : Dp K (upd (upd B3 lk (.lst xs)) br (.lst ys)) (.ref lk) (lksI ns L) := Dp.up (dpL upd_same (a2.up (Sub.updL ML3.b))) (Sub.updL MB4.b)
      have d2 : Dp K (upd (upd B3 lk (.lst xs)) br (.lst ys)) (.ref br) (brsI ns bs) := dpL upd_same ((c2.up (Sub.updL ML3.b)).up (Sub.updL MB4.b))
      have nt := Nxt.new (o := .tup [.ref lk, .ref br]) f2.i ht
      exact fin t _ _ L bs _ _ (f2.step nt.e m mf2) (mf2.nxt nt) upd_same (d1.up nt.b) (d2.up nt.b) ⟨okl, ndl, by omega⟩ ⟨okb, ndb, by omega⟩
end
end Who

namespace Who
open PySem L2 PySem.Spec PyProof.Rows
section
variable {X : Cx} {e i tg : PySem.Expr} {pos p p2 : Pos} {σ : Stt} {B H : Hp} {d : PyData} {m : Addr} {ks : List NestedKey} {g : NestedKey → PyData}
theorem s_asgH {D : Ends} {G : TG} (hg : PG X tg G) (h : EVH X e σ B H d) (q : ∀ v B2 H2, Nxt B H B2 H2 → Dp X.K B2 v d → G v σ H2 D.nx) (hs : swapsWithSole [tg] e pos.line X.env = pure false := by rfl) (hw : swappedStores [tg] e X.env = pure none := by rfl)
    (h1 : (assignEach [tg] X.env).map (·.2) = [assign tg X.env] := by rfl) : wS X (.Assign [tg] e pos) D σ H := s_asg hg (h _ q) hs hw h1
/-- name[i] = e, e looks at what is changed -/
theorem s_nputH [W : Wk X] (n : Nat) {x : Str} {k : NestedKey} {D : Ends} (s : Sub B H) (M : MD X.prog X.w X.K B H m ks g) (ok : okKey k = true) (hz : ks.length < 100000) (he : EVH X e σ B H d) (h : EV X i σ B (kD k)) (q : ∀ B2 H2, NxtE m B H B2 H2 → MD X.prog X.w X.K B2 H2 m (ksPut ks k) (gPut g k d) → D.nx σ H2)
    (h0 : σ[n]? = some (some (.ref m)) := by rfl) (hN : X.N[n]? = some x := by rfl) (hv : Vis X.env.scope x := by first | exact Or.inl rfl | exact Or.inr (Or.inl rfl) | exact Or.inr (Or.inr rfl)) (hd : (x == ("__debug__" : Str)) = false := by decide) (hcd : (x == ("__classdict__" : Str)) = false := by decide)
    (ha : ∀ v, assign (.Subscript (.Name x p) i p2) X.env v = (do
      let ov ← holding [v] (eval (.Name x p) X.env)
      let iv ← holding [v, ov] (eval i X.env)
      standAt p2
      holding [v, ov, iv] (setItem ov iv v)
      release [v, ov, iv] []) := by intro _; rfl) (hs : swapsWithSole [.Subscript (.Name x p) i p2] e pos.line X.env = pure false := by rfl) (hw : swappedStores [.Subscript (.Name x p) i p2] e X.env = pure none := by rfl)
    (h1 : (assignEach [.Subscript (.Name x p) i p2] X.env).map (·.2) = [assign (.Subscript (.Name x p) i p2) X.env] := by rfl) : wS X (.Assign [.Subscript (.Name x p) i p2] e pos) D σ H := by
  refine le_S (ps_asg pe_w (pg_sub (pe_var hN hv hd hcd) pe_w (set_nd (un10 X)) ha) hs hw h1) (he _ fun v B2 H2 nn pv => ⟨_, h0, (h.mono nn.b) H2 nn.i _ fun y B3 H3 mm py => ?_⟩)
  obtain ⟨a, rfl, hka⟩ := okKey_at ok py
  have nt := nn.trans mm
  obtain ⟨ps, g1, g2, g3, g4⟩ := M.h
  have hlen : ps.length < 100000 := by rw [← g3, List.length_map] at hz; exact hz
  refine ⟨a, m, k, ps, rfl, rfl, hka.up mm.i, nt.h m _ g1, (g2.up nt.b).up mm.i, Nat.lt_trans hlen (by decide), q B3 _ (NxtE.put nt g1 M.b) ⟨nt.av m _ g1 M.b, _, upd_same, (g2.up nt.b).put hka, ?_, ?_⟩⟩
  · rw [psPut_keys, g3]
  · refine psPut_vals (Q := fun k' v' => Dp X.K B3 v' (gPut g k d k')) (fun p hp hne => ?_) ?_
    · unfold gPut; rw [if_neg hne]; exact (g4 p hp).up nt.b
    · unfold gPut; rw [if_pos rfl]; exact pv.up mm.b
end
/-! labels that are ints -/
def placeOf : List Nm → Nm → Nat
  | [], _ => 0
  | x :: xs, n => if x = n then 0 else placeOf xs n + 1
theorem placeOf_at : ∀ {ns : List Nm}, ns.Nodup → ∀ {i : Nat} {n : Nm}, ns[i]? = some n → placeOf ns n = i
  | [], _, i, n, h => by simp at h
  | x :: xs, nd, 0, n, h => by
    simp at h
    subst h
    exact if_pos rfl
  | x :: xs, nd, i + 1, n, h => by
    have h' : xs[i]? = some n := by simpa using h
    rw [List.nodup_cons] at nd
    have hne : ¬ x = n := fun e => nd.1 (e ▸ List.mem_of_getElem? h')
    show (if x = n then 0 else placeOf xs n + 1) = i + 1
    rw [if_neg hne, placeOf_at nd.2 h']
theorem placeOf_inj {ns : List Nm} (nd : ns.Nodup) {a b : Nm} (ha : a ∈ ns) (hb : b ∈ ns) (e : placeOf ns a = placeOf ns b) : a = b := by
  obtain ⟨i, hi, ea⟩ := List.mem_iff_getElem.mp ha
  obtain ⟨j, hj, eb⟩ := List.mem_iff_getElem.mp hb
  have h1 := placeOf_at nd (i := i) (n := a) (by rw [List.getElem?_eq_getElem hi, ea])
  have h2 := placeOf_at nd (i := j) (n := b) (by rw [List.getElem?_eq_getElem hj, eb])
  rw [h1, h2] at e
  subst e
  rw [← ea, ← eb]
def lab0 (ns : List Nm) (n : Nm) : Int := placeOf ns n
def betwI (lab : Nm → Int) (p q : Nm) (bar : Nm × Nm) : Bool := decide ((lab bar.1 = lab p ∧ lab bar.2 = lab q) ∨ (lab bar.1 = lab q ∧ lab bar.2 = lab p))
def fateI (lab : Nm → Int) (bs : List (Nm × Nm)) (l : Lk) : Nat := if lab l.2.1 = lab l.2.2 then 0 else if bs.any (betwI lab l.2.1 l.2.2) = true then 1 else 2
def joinI (lab : Nm → Int) (p q : Nm) : Nm → Int := fun n => if lab n = lab q then lab p else lab n
def nextI (lab : Nm → Int) (bs : List (Nm × Nm)) (l : Lk) : Nm → Int := if fateI lab bs l = 2 then joinI lab l.2.1 l.2.2 else lab
def labsI (bs : List (Nm × Nm)) (ls : List Lk) (lab : Nm → Int) : Nm → Int := ls.foldl (fun lab l => nextI lab bs l) lab
def rowI (ns : List Nm) (lab : Nm → Int) (bs : List (Nm × Nm)) (l : Lk) : List Int := if fateI lab bs l = 2 then ns.map (nextI lab bs l) else []
def fatesI (bs : List (Nm × Nm)) : List Lk → (Nm → Int) → List Nat
  | [], _ => []
  | l :: ls, lab => fateI lab bs l :: fatesI bs ls (nextI lab bs l)
def rowsI (ns : List Nm) (bs : List (Nm × Nm)) : List Lk → (Nm → Int) → List (List Int)
  | [], _ => []
  | l :: ls, lab => rowI ns lab bs l :: rowsI ns bs ls (nextI lab bs l)
theorem fatesI_app (bs : List (Nm × Nm)) : ∀ (xs ys : List Lk) (lab : Nm → Int), fatesI bs (xs ++ ys) lab = fatesI bs xs lab ++ fatesI bs ys (labsI bs xs lab)
  | [], _, _ => rfl
  | l :: xs, ys, lab => by
    show _ :: fatesI bs (xs ++ ys) _ = _ :: (fatesI bs xs _ ++ _)
    rw [fatesI_app bs xs ys]
    rfl
theorem rowsI_app (ns : List Nm) (bs : List (Nm × Nm)) : ∀ (xs ys : List Lk) (lab : Nm → Int), rowsI ns bs (xs ++ ys) lab = rowsI ns bs xs lab ++ rowsI ns bs ys (labsI bs xs lab)
  | [], _, _ => rfl
  | l :: xs, ys, lab => by
    show _ :: rowsI ns bs (xs ++ ys) _ = _ :: (rowsI ns bs xs _ ++ _)
    rw [rowsI_app ns bs xs ys]
    rfl
theorem labsI_app (bs : List (Nm × Nm)) (xs ys : List Lk) (lab : Nm → Int) : labsI bs (xs ++ ys) lab = labsI bs ys (labsI bs xs lab) := List.foldl_append
theorem fatesI_len (bs : List (Nm × Nm)) : ∀ (xs : List Lk) (lab : Nm → Int), (fatesI bs xs lab).length = xs.length
  | [], _ => rfl
  | l :: xs, lab => congrArg (· + 1) (fatesI_len bs xs _)
theorem rowsI_len (ns : List Nm) (bs : List (Nm × Nm)) : ∀ (xs : List Lk) (lab : Nm → Int), (rowsI ns bs xs lab).length = xs.length
  | [], _ => rfl
  | l :: xs, lab => congrArg (· + 1) (rowsI_len ns bs xs _)
theorem fateI_le (lab : Nm → Int) (bs : List (Nm × Nm)) (l : Lk) : fateI lab bs l ≤ 2 := by
  unfold fateI
  split
  · decide
  · split <;> decide
def intsD (xs : List Int) : PyData := .list (xs.map .int)
/-- a dict from names to ints -/
def Gi (P : Program) (w : World) (K : PySem.W.Frag) (B H : Hp) (d : Addr) (ns : List Nm) (lab : Nm → Int) : Prop := ∃ g, MD P w K B H d (ns.map nmK) g ∧ ∀ n ∈ ns, g (nmK n) = .int (lab n)
def FGi (P : Program) (w : World) (K : PySem.W.Frag) (B : Hp) (d : Addr) (ns : List Nm) (lab : Nm → Int) : Prop := ∃ g, FD P w K B d (ns.map nmK) g ∧ ∀ n ∈ ns, g (nmK n) = .int (lab n)
section
variable {P : Program} {w : World} {K : PySem.W.Frag} {B B2 H H2 : Hp} {d : Addr} {ns : List Nm} {lab : Nm → Int}
theorem Gi.nxt (m : Gi P w K B H d ns lab) (n : Nxt B H B2 H2) : Gi P w K B2 H2 d ns lab := let ⟨g, h, e⟩ := m; ⟨g, h.nxt n, e⟩
theorem Gi.nxtE {q : Addr} (m : Gi P w K B H d ns lab) (n : NxtE q B H B2 H2) (hq : d ≠ q) : Gi P w K B2 H2 d ns lab := let ⟨g, h, e⟩ := m; ⟨g, h.nxtE n hq, e⟩
theorem Gi.is (m : Gi P w K B H d ns lab) : ∃ u, H d = some u := let ⟨_, h, _⟩ := m; h.is
theorem FGi.up (m : FGi P w K B d ns lab) (s : Sub B B2) : FGi P w K B2 d ns lab := let ⟨g, h, e⟩ := m; ⟨g, h.up s, e⟩
end
section
variable {X : Cx} {i : PySem.Expr} {pos p : Pos} {σ : Stt} {B : Hp} {m : Addr} {ns : List Nm} {lab : Nm → Int}
theorem ev_gi [W : Wk X] (n : Nat) {x : Str} {k : Nm} (F : FGi X.prog X.w X.K B m ns lab) (hk : k ∈ ns) (h : EV X i σ B (nmD k)) (h0 : σ[n]? = some (some (.ref m)) := by rfl) (hN : X.N[n]? = some x := by rfl)
    (hv : Vis X.env.scope x := by first | exact Or.inl rfl | exact Or.inr (Or.inl rfl) | exact Or.inr (Or.inr rfl)) (hd : (x == ("__debug__" : Str)) = false := by decide) (hcd : (x == ("__classdict__" : Str)) = false := by decide) (hs : NoSl i := by intro _ _; rfl) :
    EV X (.Subscript (.Name x p) i pos) σ B (.int (lab k)) := by
  obtain ⟨g, F, e⟩ := F
  exact EV.is (ev_nget n F (mem_nmK hk) (ok_nm k) (EV.is h (kD_nm k).symm) h0 hN hv hd hcd hs) (e k hk)
end
theorem canLay_ints : ∀ xs : List Int, PyData.canLayAll0 (xs.map .int) = true
  | [] => rfl
  | a :: xs => by simp [PyData.canLayAll0, PyData.canLay0, canLay_ints xs]
theorem depth_ints : ∀ xs : List Int, PyData.depthAll (xs.map .int) ≤ 1
  | [] => by simp [PyData.depthAll]
  | a :: xs => by
    have := depth_ints xs
    have h0 : (PyData.int a).depth ≤ 1 := by simp [PyData.depth]
    rw [List.map_cons, PyData.depthAll]
    exact Nat.max_le.mpr ⟨h0, this⟩
theorem shaped_ints (xs : List Int) : SeqAt.shaped (intsD xs) = true := by
  have h := depth_ints xs
  refine shaped_of (by unfold intsD; rw [PyData.canLay0]; exact canLay_ints xs) ?_
  unfold intsD
  rw [PyData.depth]
  exact Nat.le_trans (Nat.succ_le_succ h) (by decide)
theorem eqv_ints : ∀ xs ys : List Int, PyData.eqv (intsD xs) (intsD ys) = decide (xs = ys) := by
  have key : ∀ xs ys : List Int, PyData.eqvAll (xs.map .int) (ys.map .int) = decide (xs = ys) := by
    intro xs
    induction xs with
    | nil => intro ys; cases ys <;> simp [PyData.eqvAll]
    | cons x xs ih =>
      intro ys
      cases ys with
      | nil => simp [PyData.eqvAll]
      | cons y ys =>
        rw [List.map_cons, List.map_cons, PyData.eqvAll, ih]
        rw [Bool.eq_iff_iff]
        simp [PyData.eqv]
  intro xs ys
  unfold intsD
  rw [PyData.eqv]
  exact key xs ys
theorem atI_lastD (ds : List PyData) (d : PyData) : atI (ds ++ [d]) (0 - 1) = some d := by
  unfold atI ixN
  rw [if_neg (by decide), if_pos (by rw [List.length_append]; simp; omega)]
  show (ds ++ [d])[((0 : Int) - 1 + ((ds ++ [d]).length : Int)).toNat]? = some d
  have e : ((0 : Int) - 1 + ((ds ++ [d]).length : Int)).toNat = ds.length := by rw [List.length_append]; simp; omega
  rw [e]
  simp
end Who

namespace Who
open PySem L2 PySem.Spec PyProof.Rows
def isPr (f : Nm × Nm → Bool) : PyData → Bool
  | .tuple [.tuple [.int a, .int b], .tuple [.int c, .int d]] => f ((a, b), (c, d))
  | _ => false
def unInt (lab : Nm → Int) : PyData → PyData
  | .tuple [.int i, .int j] => .int (lab (i, j))
  | _ => .none
theorem isPr_at (f : Nm × Nm → Bool) (z : Nm × Nm) : isPr f (prD z) = f z := rfl
section
variable {P : Program} {w : World} {K : PySem.W.Frag} {mg : Str → Option Value} {base : Heap} {f : Addr} {fd : FuncData}
theorem sc41 : FnScope ["names", "links", "bars", "groups", "fates", "rows", "at", "name", "weight", "one", "other", "here", "there", "near", "far"] ["names", "links", "bars"] (defScope (top 41)) := ⟨rfl, rfl, rfl, by decide +kernel, rfl, by decide +kernel, by decide +kernel⟩
def sp41 (P : Program) (w : World) (K : PySem.W.Frag) : Sp := fun vs H Q _ => ∃ (B : Hp) (a b c : V) (ns : List Nm) (ls : List Lk) (bs : List (Nm × Nm)), vs = [a, b, c] ∧ Sub B H ∧ Dp K B a (.list (ns.map nmD)) ∧ Dp K B b (.list (ls.map lkD)) ∧ Dp K B c (.list (bs.map prD)) ∧ InL ns ls ∧ InB ns bs ∧ ls.length ≤ 1000 ∧ bs.length ≤ 1000 ∧ ns.Nodup ∧ ns.length ≤ 1000 ∧
  ∀ t x d y B2 H2, Nxt B H B2 H2 → B2 t = some (.tup [x, .ref d, y]) → Dp K B2 x (.list (fsD (fatesI bs ls (lab0 ns)))) → FGi P w K B2 d ns (labsI bs ls (lab0 ns)) → Dp K B2 y (.list ((rowsI ns bs ls (lab0 ns)).map intsD)) → Q (.ref t) H2
/-- within the loop over the links -/
def RuI (P : Program) (w : World) (K : PySem.W.Frag) (B H : Hp) (gr fa ro : Addr) (a b c : V) (ns : List Nm) (ls : List Lk) (bs : List (Nm × Nm)) (i : Nat) (σ : Stt) (B' H' : Hp) : Prop :=
  (∃ x6 x7 x8 x9 x10 x11 x12, σ = [some a, some b, some c, some (.ref gr), some (.ref fa), some (.ref ro), x6, x7, x8, x9, x10, x11, x12, none, none]) ∧ Nxt B H B' H' ∧ Gi P w K B' H' gr ns (labsI bs (ls.take i) (lab0 ns)) ∧ MLst K B' H' fa (fsD (fatesI bs (ls.take i) (lab0 ns))) ∧ MLst K B' H' ro ((rowsI ns bs (ls.take i) (lab0 ns)).map intsD)
theorem ok41 (F : Fun K "_law_rule" "_law_rule" (top 41) f fd) (nb : NoGl mg) : FnOk P w K mg base CX0 1 f fd ["names", "links", "bars"] (sp41 P w K) := by
  refine imp_fn F sc41 nb (fun vs H Q E ⟨_, _, _, _, _, _, _, e, _⟩ => by rw [e]; rfl) fun cdv A outer s H E vs Q hr W hsp => ?_
  obtain ⟨B, a, b, c, ns, ls, bs, rfl, sb, ha, hb, hc, inl, inb, zl, zb, nd, zn, fin⟩ := hsp
  have hlen : (ns.map nmD).length = ns.length := List.length_map _
  refine ss_cons (le_S (ps_asg (pe_tup (pa_cons pe_nnew (pa_cons (pe_lst pa_nil) (pa_cons (pe_lst pa_nil) pa_nil)))) (pg3 (pgn 3) (pgn 4) (pgn 5))) ?_)
  refine fun gr hgr => ⟨by show 0 ≤ sizeLine; decide, fun fa hfa => ⟨by show 0 ≤ sizeLine; decide, fun ro hro => ⟨by show 3 ≤ sizeLine; decide, fun t ht => ?_⟩⟩⟩
  have q1 : Nxt B H B (upd H gr (NdO P w gr [])) := Nxt.mut sb hgr
  have q2 : Nxt B _ B (upd (upd H gr (NdO P w gr [])) fa (.lst [])) := Nxt.mut q1.i hfa
  have q3 : Nxt B _ B (upd (upd (upd H gr (NdO P w gr [])) fa (.lst [])) ro (.lst [])) := Nxt.mut q2.i hro
  have q4 := Nxt.new (o := .tup [.ref gr, .ref fa, .ref ro]) q3.i ht
  have h0fa : H fa = none := q1.back hfa
  have h0ro : H ro = none := (q1.trans q2).back hro
  have ngf : gr ≠ fa := ne_of_none upd_same hfa
  have nfr : fa ≠ ro := ne_of_none upd_same hro
  have ngr : gr ≠ ro := fun e => by
    subst e
    rw [upd_ne ngf, upd_same] at hro
    cases hro
  have MG : MD P w K (upd B t (.tup [.ref gr, .ref fa, .ref ro])) _ gr [] (fun _ => .none) := MD.nxt ⟨sb.none hgr, [], by rw [upd_ne ngr, upd_ne ngf]; exact upd_same, (by intro p hp; cases hp), rfl, (by intro p hp; cases hp)⟩ q4
  have MF : MLst K (upd B t (.tup [.ref gr, .ref fa, .ref ro])) _ fa [] := MLst.nxt ⟨sb.none h0fa, [], by rw [upd_ne nfr]; exact upd_same, .nil⟩ q4
  have MR : MLst K (upd B t (.tup [.ref gr, .ref fa, .ref ro])) _ ro [] := MLst.nxt ⟨sb.none h0ro, [], upd_same, .nil⟩ q4
  refine ⟨t, _, rfl, SqT.of upd_same, rfl, _, _, rfl, _, _, rfl, _, _, rfl, rfl, ?_⟩
  have n4 := ((q1.trans q2).trans q3).trans q4
  generalize upd B t (.tup [.ref gr, .ref fa, .ref ro]) = B4 at n4 MG MF MR
  -- the first labels
  refine ss_cons (s_enum 6 7 PassesOwn.never rfl n4.i (ev_var 0 (ha.up n4.b)) (fun i σ' B' H' => (∃ x6 x7, σ' = [some a, some b, some c, some (.ref gr), some (.ref fa), some (.ref ro), x6, x7, none, none, none, none, none, none, none]) ∧ Nxt B H B' H' ∧ MLst K B' H' fa [] ∧ MLst K B' H' ro [] ∧ ∃ g, MD P w K B' H' gr ((ns.take i).map nmK) g ∧ ∀ n ∈ ns.take i, g (nmK n) = .int (lab0 ns n)) (fun B5 H5 n5 => ⟨⟨none, none, rfl⟩, n4.trans n5, MF.nxt n5, MR.nxt n5, _, MG.nxt n5, fun n hn => by simp at hn⟩) (fun i σ' B' H' T o pv hT s' => ?_) ?_ ?_ (pgn 6) (pgn 7))
  · obtain ⟨e, nn, M1, M2, g, G, hg⟩ := pv
    exact ⟨e, nn.trans (Nxt.new s' hT), M1.nxt (Nxt.new s' hT), M2.nxt (Nxt.new s' hT), g, G.nxt (Nxt.new s' hT), hg⟩
  · intro B5 s5 i d0 x σ' B' H' hx pv sB sH dx
    obtain ⟨⟨y, z, rfl⟩, nn, M1, M2, g, G, hg⟩ := pv
    rw [List.getElem?_map] at hx
    obtain ⟨nm, hnm, rfl⟩ := Option.map_eq_some_iff.mp hx
    have fr := fresh_at nd hnm
    have et : ns.take (i + 1) = ns.take i ++ [nm] := by rw [List.take_add_one, hnm]; rfl
    have nok : nmK nm ∉ (ns.take i).map nmK := fun h => by
      obtain ⟨q, hq, e⟩ := List.mem_map.mp h
      exact fr (nmK_inj e ▸ hq)
    refine ss_one (s_nput 3 sH G (ok_nm nm) (by rw [List.length_map, List.length_take]; omega) (ev_var 6 (.int i)) (EV.is (ev_var 7 dx) (kD_nm nm).symm) fun B6 H6 n6 G6 => ⟨B6, sB.trans n6.b, n6.i, ⟨_, _, rfl⟩, NxtE.nxt nn n6 hgr, M1.nxtE n6 ngf.symm, M2.nxtE n6 ngr.symm, gPut g (nmK nm) (.int i), ?_, fun m hm => ?_⟩)
    · have ek : ksPut ((ns.take i).map nmK) (nmK nm) = (ns.take (i + 1)).map nmK := by
        unfold ksPut
        rw [if_neg nok, et, List.map_append]; rfl
      rw [ek] at G6
      exact G6
    · rw [et] at hm
      unfold gPut
      by_cases e : nmK m = nmK nm
      · rw [if_pos e]
        have e' := nmK_inj e
        subst e'
        unfold lab0
        rw [placeOf_at nd hnm]
      · rw [if_neg e]
        rcases List.mem_append.mp hm with z1 | z1
        · exact hg m z1
        · rw [List.mem_singleton.mp z1] at e; exact absurd rfl e
  · rintro σ' B' H' ⟨⟨y, z, rfl⟩, nn, M1, M2, g, G, hg⟩ s1 s2
    rw [hlen, List.take_length] at G hg
    have s0 := nn.b
    -- the links
    refine ss_cons (s_for PassesOwn.never (pg3 (pgn 8) (pgn 9) (pgn 10)) rfl nn.i (ev_var 1 (hb.up s0)) (RuI P w K B H gr fa ro a b c ns ls bs) (fun B5 H5 n5 => ⟨⟨_, _, _, _, _, _, _, rfl⟩, nn.trans n5, ⟨g, G.nxt n5, hg⟩, M1.nxt n5, M2.nxt n5⟩) ?_ ?_)
    · intro B5 s5 i d0 x σ' B' H' hx pv sB sH dx
      obtain ⟨⟨x6, x7, x8, x9, x10, x11, x12, rfl⟩, n5, G5, F5, O5⟩ := pv
      rw [List.getElem?_map] at hx
      obtain ⟨l, hl, rfl⟩ := Option.map_eq_some_iff.mp hx
      obtain ⟨hp, hq⟩ := inl l (List.mem_of_getElem? hl)
      have hil : i < ls.length := (List.getElem?_eq_some_iff.mp hl).1
      have et : ls.take (i + 1) = ls.take i ++ [l] := by rw [List.take_add_one, hl]; rfl
      obtain ⟨t5, p1, p2, rfl, ht5, dp, dq⟩ := dp_cut dx
      refine gd_tup3 (i := 8) (j := 9) (k := 10) ht5 H' sH _ fun σ2 e2 => ?_
      have e3 : σ2 = [some a, some b, some c, some (.ref gr), some (.ref fa), some (.ref ro), x6, x7, some (.int l.1), some p1, some p2, x11, x12, none, none] := e2
      subst e3
      have e1 : fatesI bs (ls.take (i + 1)) (lab0 ns) = fatesI bs (ls.take i) (lab0 ns) ++ [fateI (labsI bs (ls.take i) (lab0 ns)) bs l] := by rw [et, fatesI_app]; rfl
      have e2' : rowsI ns bs (ls.take (i + 1)) (lab0 ns) = rowsI ns bs (ls.take i) (lab0 ns) ++ [rowI ns (labsI bs (ls.take i) (lab0 ns)) bs l] := by rw [et, rowsI_app]; rfl
      have e3' : labsI bs (ls.take (i + 1)) (lab0 ns) = nextI (labsI bs (ls.take i) (lab0 ns)) bs l := by rw [et, labsI_app]; rfl
      have fl : (fatesI bs (ls.take i) (lab0 ns)).length ≤ 1000 := by rw [fatesI_len, List.length_take]; omega
      have rl : (rowsI ns bs (ls.take i) (lab0 ns)).length ≤ 1000 := by rw [rowsI_len, List.length_take]; omega
      have keep : RuI P w K B H gr fa ro a b c ns ls bs (i + 1) = RuI P w K B H gr fa ro a b c ns ls bs (i + 1) := rfl
      generalize elb : labsI bs (ls.take i) (lab0 ns) = lab at G5 e1 e2' e3'
      generalize efs : fatesI bs (ls.take i) (lab0 ns) = fs at F5 e1 fl
      generalize ers : rowsI ns bs (ls.take i) (lab0 ns) = rs at O5 e2' rl
      obtain ⟨g5, GM, hg5⟩ := id G5
      refine ss_cons (s_asgH (pg2 (pgn 11) (pgn 12)) (GM.look sH (d := .tuple [.int (lab l.2.1), .int (lab l.2.2)]) fun Bf u1 u2 FF => ev_tup (av_cons (ev_gi 3 ⟨g5, FF, hg5⟩ hp (ev_var 9 (dp.up u1))) (av_cons (ev_gi 3 ⟨g5, FF, hg5⟩ hq (ev_var 10 (dq.up u1))) av_nil)) (by show 2 ≤ 100000; decide)) fun v6 B6 H6 n6 dv6 => ?_)
      obtain ⟨t6, ys, rfl, hs6, ha6⟩ := dv6.tup_inv
      obtain ⟨y1, y2, rfl, dy1, dy2⟩ := dp2 ha6
      rw [dy1.int_inv, dy2.int_inv] at hs6
      refine gd_tup2 (i := 11) (j := 12) hs6 H6 n6.i _ fun σ6 e6 => ?_
      have e7 : σ6 = [some a, some b, some c, some (.ref gr), some (.ref fa), some (.ref ro), x6, x7, some (.int l.1), some p1, some p2, some (.int (lab l.2.1)), some (.int (lab l.2.2)), none, none] := e6
      subst e7
      have G6 := G5.nxt n6
      have F6 := F5.nxt n6
      have O6 := O5.nxt n6
      have n06 := n5.trans n6
      have sub6' : Sub B5 B6 := sB.trans n6.b
      -- what is left to do of a turn
      have rest : ∀ (x7' : Option V) (B7 H7 : Hp), Nxt B H B7 H7 → Sub B5 B7 → Gi P w K B7 H7 gr ns (nextI lab bs l) → MLst K B7 H7 fa (fsD (fs ++ [fateI lab bs l])) → MLst K B7 H7 ro (rs.map intsD) → ∀ D : Ends, (∀ H8, FdN B5 (RuI P w K B H gr fa ro a b c ns ls bs (i + 1)) [some a, some b, some c, some (.ref gr), some (.ref fa), some (.ref ro), x6, x7', some (.int l.1), some p1, some p2, some (.int (lab l.2.1)), some (.int (lab l.2.2)), none, none] H8 → D.nx [some a, some b, some c, some (.ref gr), some (.ref fa), some (.ref ro), x6, x7', some (.int l.1), some p1, some p2, some (.int (lab l.2.1)), some (.int (lab l.2.2)), none, none] H8) →
        wSs (cxOf CX0 P w K mg base ["names", "links", "bars", "groups", "fates", "rows", "at", "name", "weight", "one", "other", "here", "there", "near", "far"] "_law_rule" (defScope (top 41)) f cdv A outer s H E).nox ((match (defBody (top 41)).getD 2 (.Pass ⟨0, 0, 0, 0⟩) with | .For _ _ bd _ _ => bd | _ => []).drop 2) D [some a, some b, some c, some (.ref gr), some (.ref fa), some (.ref ro), x6, x7', some (.int l.1), some p1, some p2, some (.int (lab l.2.1)), some (.int (lab l.2.2)), none, none] H7 := by
        intro x7' B7 H7 n7 s57 G7 F7 O7 D hD
        obtain ⟨g7, M7, hg7⟩ := id G7
        have hat : atI (fsD (fs ++ [fateI lab bs l])) (0 - 1) = some (.str (fateS (fateI lab bs l))) := by
          unfold fsD
          rw [List.map_append]
          exact atI_lastD _ _
        -- the row is put at the end
        have fin7 : ∀ (v : V) (B9 H9 : Hp), Nxt B7 H7 B9 H9 → Dp K B9 v (intsD (rowI ns lab bs l)) → ∃ xs, H9 ro = some (.lst xs) ∧ xs.length < sizeLine ∧ D.nx [some a, some b, some c, some (.ref gr), some (.ref fa), some (.ref ro), x6, x7', some (.int l.1), some p1, some p2, some (.int (lab l.2.1)), some (.int (lab l.2.2)), none, none] (upd H9 ro (.lst (xs ++ [v]))) := fun v B9 H9 n9 dv => by
          have O9 := O7.nxt n9
          obtain ⟨xs, b1, b2⟩ := O9.h
          have hx := b2.len
          rw [List.length_map] at hx
          have zz : (1000 : Nat) < sizeLine := by decide
          refine ⟨xs, b1, by omega, hD _ ?_⟩
          have nput : NxtE ro B9 H9 B9 (upd H9 ro (.lst (xs ++ [v]))) := NxtE.put (Nxt.refl n9.i) b1 O9.b
          refine ⟨B9, s57.trans n9.b, nput.i, ⟨_, _, _, _, _, _, _, rfl⟩, NxtE.nxt (n7.trans n9) nput h0ro, ?_, ?_, ?_⟩
          · rw [e3']; exact (G7.nxt n9).nxtE nput ngr
          · rw [e1]; exact (F7.nxt n9).nxtE nput nfr
          · rw [e2', List.map_append]; exact ⟨O9.b, _, upd_same, b2.app (.cons dv .nil)⟩
        refine ss_one (s_appendW 5 O7 (le_E (pe_ifExp pt_w pe_w pe_w) ?_))
        refine tvh_use (F7.test n7.i (k := decide (fateI lab bs l = 2)) fun Bf u1 u2 DD => TV.is (tv_eqS (ev_ix rfl hat (ev_var 4 DD) (ev_sub ev_int ev_int)) ev_str) (fateS_join _ (fateI_le _ _ _))) fun H8 n8 => ?_
        refine ite2 (fun hk => ?_) (fun hk => ?_)
        · have hk' := of_decide_eq_true hk
          have er : rowI ns lab bs l = ns.map (nextI lab bs l) := if_pos hk'
          refine (MD.look (M7.nxt n8) n8.i (d := intsD (rowI ns lab bs l)) fun Bf u1 u2 FF => EV.is (ev_lcL (own := [("name", 7)]) (ds := ns.map nmD) (unInt (nextI lab bs l)) (blkOk_by (by rfl)) (fun _ _ _ _ _ => pgn 7) (ev_var 0 ((ha.up n7.b).up u1)) (by omega) fun x d0 B9 hd9 s9 hx9 => ?_) ?_) _ fun v B9 H9 n9 dv => fin7 v B9 H9 (n8.trans n9) dv
          · obtain ⟨m, hm, rfl⟩ := List.mem_map.mp hd9
            exact lc_name 7 fun _ _ _ _ _ => EV.is (ev_gi 3 (FGi.up ⟨g7, FF, hg7⟩ s9) hm (ev_var 7 hx9)) rfl
          · rw [er]
            unfold intsD
            rw [List.map_map, List.map_map]
            rfl
        · have hk' : ¬ fateI lab bs l = 2 := fun e => hk (decide_eq_true e)
          have er : rowI ns lab bs l = [] := if_neg hk'
          refine (ev_lst (X := (cxOf CX0 P w K mg base ["names", "links", "bars", "groups", "fates", "rows", "at", "name", "weight", "one", "other", "here", "there", "near", "far"] "_law_rule" (defScope (top 41)) f cdv A outer s H E).nox) (B := B7) av_nil) H8 n8.i _ fun v B9 H9 n9 dv => fin7 v B9 H9 (n8.trans n9) (by rw [er]; exact dv)
      have hlk : ∀ {xs : List PyData}, xs = fsD fs → xs.length < 100000 := fun e => by rw [e]; unfold fsD; rw [List.length_map]; omega
      refine ss_cons (s_if n6.i (tv_eqI (ev_var 11 (.int _)) (ev_var 12 (.int _))) (fun B7 H7 n7 hk => ?_) fun B7 H7 n7 hk => ?_)
      · have hk' : lab l.2.1 = lab l.2.2 := of_decide_eq_true hk
        have ef : fateI lab bs l = 0 := if_pos hk'
        have en : nextI lab bs l = lab := by unfold nextI; rw [ef]; rfl
        refine ss_one (s_append 4 n7.i (F6.nxt n7) ev_str (hlk rfl) fun B8 H8 n8 F8 => rest _ B8 H8 (NxtE.nxt (n06.trans n7) n8 h0fa) ((sub6'.trans n7.b).trans n8.b) ?_ ?_ ((O6.nxt n7).nxtE n8 nfr.symm) _ fun _ h => h)
        · rw [en]; exact (G6.nxt n7).nxtE n8 ngf
        · rw [ef]; unfold fsD; rw [List.map_append]; exact F8
      · have hk0 : ¬ lab l.2.1 = lab l.2.2 := of_decide_eq_false hk
        have n07 := n06.trans n7
        have G7 := G6.nxt n7
        have F7 := F6.nxt n7
        have O7 := O6.nxt n7
        have c7 := hc.up n07.b
        obtain ⟨g7, M7, hg7⟩ := id G7
        have key : ∀ z : Nm × Nm, (([nmD (lab l.2.1, lab l.2.2), nmD (lab l.2.2, lab l.2.1)] : List PyData).any fun x => PyData.eqv x (nmD (lab z.1, lab z.2))) = betwI lab l.2.1 l.2.2 z := fun z => by
          simp only [List.any_cons, List.any_nil, eqv_nm, Bool.or_false]
          unfold betwI
          rw [Bool.eq_iff_iff]
          simp only [Bool.or_eq_true, decide_eq_true_eq, Prod.mk.injEq]
          constructor
          · rintro (⟨h1, h2⟩ | ⟨h1, h2⟩)
            · exact .inl ⟨h1.symm, h2.symm⟩
            · exact .inr ⟨h1.symm, h2.symm⟩
          · rintro (⟨h1, h2⟩ | ⟨h1, h2⟩)
            · exact .inl ⟨h1.symm, h2.symm⟩
            · exact .inr ⟨h1.symm, h2.symm⟩
        refine ss_one (s_ifH (k := bs.any (betwI lab l.2.1 l.2.2)) (MD.test M7 n7.i fun Bf u1 u2 FF => TV.is (tv_neD (d1 := intsD ((bs.filter (betwI lab l.2.1 l.2.2)).map fun _ => 1)) (d2 := intsD []) (shaped_ints _) (shaped_ints _) (EV.is (ev_lcLif (own := [("near", 13), ("far", 14)]) (g := gTup K 2 (gCons (gName 13) (gCons (gName 14) gNil))) (ds := bs.map prD) (isPr (betwI lab l.2.1 l.2.2)) (fun _ => .int 1) (blkOk_by (by rfl)) (fun _ _ _ _ _ => by exact pg2 (pgn 13) (pgn 14)) (ev_var 2 (c7.up u1)) (by rw [List.length_map]; omega) fun x d0 B9 hd9 s9 hx9 => ?_) ?_) (ev_lst av_nil)) ?_) (fun H8 n8 hk1 => ?_) fun H8 n8 hk1 => ?_)
        · obtain ⟨z, hz, rfl⟩ := List.mem_map.mp hd9
          obtain ⟨t9, ys, rfl, hs9, ha9⟩ := hx9.tup_inv
          obtain ⟨z1, z2, rfl, dz1, dz2⟩ := dp2 ha9
          refine ⟨_, gd_tup2 hs9, fun σ9 e9 => ?_⟩
          have e10 : σ9 = [some a, some b, some c, some (.ref gr), some (.ref fa), some (.ref ro), x6, x7, some (.int l.1), some p1, some p2, some (.int (lab l.2.1)), some (.int (lab l.2.2)), some z1, some z2] := e9
          subst e10
          refine ⟨rfl, fun _ _ _ _ _ => TV.is (tv_in (d1 := nmD (lab z.1, lab z.2)) (d2 := .tuple [nmD (lab l.2.1, lab l.2.2), nmD (lab l.2.2, lab l.2.1)]) rfl (shaped_nm _) rfl ?_ ?_) (key z), fun _ _ _ _ _ _ => ev_int⟩
          · exact EV.is (ev_tup (av_cons (ev_gi 3 (FGi.up ⟨g7, FF, hg7⟩ s9) (inb z hz).1 (ev_var 13 dz1)) (av_cons (ev_gi 3 (FGi.up ⟨g7, FF, hg7⟩ s9) (inb z hz).2 (ev_var 14 dz2)) av_nil)) (by show 2 ≤ 100000; decide)) rfl
          · exact ev_tup (av_cons (EV.is (ev_tup (av_cons (ev_var 11 (.int _)) (av_cons (ev_var 12 (.int _)) av_nil)) (by show 2 ≤ 100000; decide)) rfl) (av_cons (EV.is (ev_tup (av_cons (ev_var 12 (.int _)) (av_cons (ev_var 11 (.int _)) av_nil)) (by show 2 ≤ 100000; decide)) rfl) av_nil)) (by show 2 ≤ 100000; decide)
        · unfold intsD
          rw [List.filter_map, List.map_map, List.map_map]
          rfl
        · rw [eqv_ints]
          cases e : bs.any (betwI lab l.2.1 l.2.2) with
          | true =>
            obtain ⟨z, hz, hb⟩ := List.any_eq_true.mp e
            have : (bs.filter (betwI lab l.2.1 l.2.2)).map (fun _ => (1 : Int)) ≠ [] := fun h => by
              have h2 := List.map_eq_nil_iff.mp h
              have h3 := List.mem_filter.mpr ⟨hz, hb⟩
              rw [h2] at h3
              cases h3
            rw [decide_eq_false this]
            rfl
          | false =>
            have : bs.filter (betwI lab l.2.1 l.2.2) = [] := List.filter_eq_nil_iff.mpr fun z hz hb => by
              rw [List.any_eq_true.mpr ⟨z, hz, hb⟩] at e
              cases e
            rw [this]
            rfl
        · have ef : fateI lab bs l = 1 := by unfold fateI; rw [if_neg hk0, if_pos hk1]
          have en : nextI lab bs l = lab := by unfold nextI; rw [ef]; rfl
          refine ss_one (s_append 4 n8.i (F7.nxt n8) ev_str (hlk rfl) fun B9 H9 n9 F9 => rest _ B9 H9 (NxtE.nxt (n07.trans n8) n9 h0fa) (((sub6'.trans n7.b).trans n8.b).trans n9.b) ?_ ?_ ((O7.nxt n8).nxtE n9 nfr.symm) _ fun _ h => h)
          · rw [en]; exact (G7.nxt n8).nxtE n9 ngf
          · rw [ef]; unfold fsD; rw [List.map_append]; exact F9
        · have ef : fateI lab bs l = 2 := by unfold fateI; rw [if_neg hk0, if_neg (by rw [hk1]; exact Bool.false_ne_true)]
          have en : nextI lab bs l = joinI lab l.2.1 l.2.2 := by unfold nextI; rw [ef]; rfl
          refine ss_cons (s_append 4 n8.i (F7.nxt n8) ev_str (hlk rfl) fun B9 H9 n9 F9 => ?_)
          have n09 := NxtE.nxt (n07.trans n8) n9 h0fa
          have G9 := (G7.nxt n8).nxtE n9 ngf
          have O9 := (O7.nxt n8).nxtE n9 nfr.symm
          have s59 := ((sub6'.trans n7.b).trans n8.b).trans n9.b
          obtain ⟨g9, M9, hg9⟩ := G9
          refine ss_one (s_for PassesOwn.never (pgn 7) rfl n9.i (ev_var 0 (ha.up n09.b)) (fun j σ' B' H' => (∃ x7', σ' = [some a, some b, some c, some (.ref gr), some (.ref fa), some (.ref ro), x6, x7', some (.int l.1), some p1, some p2, some (.int (lab l.2.1)), some (.int (lab l.2.2)), none, none]) ∧ Nxt B H B' H' ∧ Sub B5 B' ∧ Gi P w K B' H' gr ns (fun n => if n ∈ ns.take j then joinI lab l.2.1 l.2.2 n else lab n) ∧ MLst K B' H' fa (fsD fs ++ [PyData.str (fateS 2)]) ∧ MLst K B' H' ro (rs.map intsD)) (fun B10 H10 n10 => ⟨⟨_, rfl⟩, n09.trans n10, s59.trans n10.b, ⟨g9, M9.nxt n10, fun m hm => by simpa using hg9 m hm⟩, (show MLst K B10 H10 fa (fsD fs ++ [PyData.str (fateS 2)]) from F9.nxt n10), O9.nxt n10⟩) ?_ ?_)
          · intro B10 s10 j d1 x1 σ1 B1 H1 hx1 pv1 sB1 sH1 dx1
            obtain ⟨⟨y7, rfl⟩, m1, m2, ⟨g1, MM1, hg1'⟩, FF1, OO1⟩ := pv1
            have hg1 : ∀ n ∈ ns, g1 (nmK n) = .int (if n ∈ ns.take j then joinI lab l.2.1 l.2.2 n else lab n) := hg1'
            rw [List.getElem?_map] at hx1
            obtain ⟨nm, hnm, rfl⟩ := Option.map_eq_some_iff.mp hx1
            have mem : nm ∈ ns := List.mem_of_getElem? hnm
            have fr := fresh_at nd hnm
            have et1 : ns.take (j + 1) = ns.take j ++ [nm] := by rw [List.take_add_one, hnm]; rfl
            have cur : g1 (nmK nm) = .int (lab nm) := by rw [hg1 nm mem, if_neg fr]
            have get : ∀ {Bf : Hp}, FD P w K Bf gr (ns.map nmK) g1 → FGi P w K Bf gr ns (fun n => if n ∈ ns.take j then joinI lab l.2.1 l.2.2 n else lab n) := fun FF => ⟨g1, FF, hg1⟩
            have rhs : EVH (cxOf CX0 P w K mg base ["names", "links", "bars", "groups", "fates", "rows", "at", "name", "weight", "one", "other", "here", "there", "near", "far"] "_law_rule" (defScope (top 41)) f cdv A outer s H E).nox (match (match (match (match (match (defBody (top 41)).getD 2 (.Pass ⟨0, 0, 0, 0⟩) with | .For _ _ bd _ _ => bd | _ => []).getD 1 (.Pass ⟨0, 0, 0, 0⟩) with | .If _ _ el _ => el | _ => []).getD 0 (.Pass ⟨0, 0, 0, 0⟩) with | .If _ _ el _ => el | _ => []).getD 1 (.Pass ⟨0, 0, 0, 0⟩) with | .For _ _ bd _ _ => bd | _ => []).getD 0 (.Pass ⟨0, 0, 0, 0⟩) with | .Assign _ e _ => e | _ => .Constant .none 0 ⟨0, 0, 0, 0⟩) [some a, some b, some c, some (.ref gr), some (.ref fa), some (.ref ro), x6, some x1, some (.int l.1), some p1, some p2, some (.int (lab l.2.1)), some (.int (lab l.2.2)), none, none] B1 H1 (.int (joinI lab l.2.1 l.2.2 nm)) :=
              MD.look MM1 sH1 fun Bf u1 u2 FF => ev_if (k := decide (lab nm = lab l.2.2)) (TV.is (tv_eqI (ev_gi 3 (get FF) mem (ev_var 7 (dx1.up u1))) (ev_var 12 (.int _))) (by rw [if_neg fr]))
                (fun k => EV.is (ev_var 11 (.int _)) (by unfold joinI; rw [if_pos (of_decide_eq_true k)])) (fun k => EV.is (ev_gi 3 (get FF) mem (ev_var 7 (dx1.up u1))) (by unfold joinI; rw [if_neg (of_decide_eq_false k), if_neg fr]))
            refine ss_one (s_nputH 3 sH1 MM1 (ok_nm nm) (by rw [List.length_map]; omega) rhs (EV.is (ev_var 7 dx1) (kD_nm nm).symm) fun B11 H11 n11 M11 => ⟨B11, sB1.trans n11.b, n11.i, ⟨_, rfl⟩, NxtE.nxt m1 n11 hgr, m2.trans n11.b, ⟨gPut g1 (nmK nm) (.int (joinI lab l.2.1 l.2.2 nm)), ?_, fun m hm => ?_⟩, FF1.nxtE n11 ngf.symm, OO1.nxtE n11 ngr.symm⟩)
            · have ek : ksPut (ns.map nmK) (nmK nm) = ns.map nmK := if_pos (mem_nmK mem)
              rw [ek] at M11
              exact M11
            · show gPut g1 (nmK nm) (.int (joinI lab l.2.1 l.2.2 nm)) (nmK m) = .int (if m ∈ ns.take (j + 1) then joinI lab l.2.1 l.2.2 m else lab m)
              rw [et1]
              unfold gPut
              by_cases e : nmK m = nmK nm
              · have e' := nmK_inj e
                subst e'
                rw [if_pos e, if_pos (List.mem_append_right _ (List.mem_singleton.mpr rfl))]
              · have e' : m ≠ nm := fun z => e (by rw [z])
                rw [if_neg e, hg1 m hm]
                by_cases z : m ∈ ns.take j
                · rw [if_pos z, if_pos (List.mem_append_left _ z)]
                · rw [if_neg z, if_neg fun y => (List.mem_append.mp y).elim z fun y => e' (List.mem_singleton.mp y)]
          · rintro σ1 B1 H1 ⟨⟨y7, rfl⟩, m1, m2, ⟨g1, MM1, hg1'⟩, FF1, OO1⟩ _ s1H
            have hg1 : ∀ n ∈ ns, g1 (nmK n) = .int (if n ∈ ns.take (ns.map nmD).length then joinI lab l.2.1 l.2.2 n else lab n) := hg1'
            refine rest _ B1 H1 m1 m2 ⟨g1, MM1, fun m hm => ?_⟩ ?_ OO1 _ fun _ h => h
            · rw [hg1 m hm, hlen, List.take_length, if_pos hm, en]
            · rw [ef]; unfold fsD; rw [List.map_append]; exact FF1
    · rintro σ' B' H' ⟨⟨x6, x7, x8, x9, x10, x11, x12, rfl⟩, n5, G5, F5, O5⟩ s3 s4
      rw [List.length_map, List.take_length] at G5 F5 O5
      obtain ⟨g5, GM, hg5⟩ := G5
      refine ss_one (le_S (ps_ret (pe_tup (pa_cons (pv 4) (pa_cons (pv 3) (pa_cons (pv 5) pa_nil))))) ⟨_, rfl, _, rfl, _, rfl, by show 3 ≤ sizeLine; decide, fun t ht => ?_⟩)
      obtain ⟨ps, c1, c2, c3, c4⟩ := GM.h
      obtain ⟨xs, a1, a2⟩ := F5.h
      obtain ⟨ys, b1, b2⟩ := O5.h
      have f1 := n5.frz hgr c1 GM.b
      have F6 := F5.frzL (o := NdO P w gr ps) ngf.symm GM.b
      have O6 := O5.frzL (o := NdO P w gr ps) ngr.symm GM.b
      have f2 := f1.frz h0fa a1 F6.b
      have O7 := O6.frzL (o := .lst xs) nfr.symm F6.b
      have f3 := f2.frz h0ro b1 O7.b
      have s1' : Sub B' (upd B' gr (NdO P w gr ps)) := Sub.updL GM.b
      have s2' : Sub (upd B' gr (NdO P w gr ps)) (upd (upd B' gr (NdO P w gr ps)) fa (.lst xs)) := Sub.updL F6.b
      have s3' : Sub (upd (upd B' gr (NdO P w gr ps)) fa (.lst xs)) (upd (upd (upd B' gr (NdO P w gr ps)) fa (.lst xs)) ro (.lst ys)) := Sub.updL O7.b
      have sA := (s1'.trans s2').trans s3'
      have dF : Dp K (upd (upd (upd B' gr (NdO P w gr ps)) fa (.lst xs)) ro (.lst ys)) (.ref fa) (.list (fsD (fatesI bs ls (lab0 ns)))) := Dp.up (dpL upd_same (a2.up (s1'.trans s2'))) s3'
      have dO : Dp K (upd (upd (upd B' gr (NdO P w gr ps)) fa (.lst xs)) ro (.lst ys)) (.ref ro) (.list ((rowsI ns bs ls (lab0 ns)).map intsD)) := dpL upd_same (b2.up sA)
      have dG : FGi P w K (upd (upd (upd B' gr (NdO P w gr ps)) fa (.lst xs)) ro (.lst ys)) gr ns (labsI bs ls (lab0 ns)) := ⟨g5, ⟨ps, s3' gr _ (s2' gr _ upd_same), c2.up sA, c3, fun p hp => (c4 p hp).up sA⟩, hg5⟩
      have nt := Nxt.new (o := .tup [.ref fa, .ref gr, .ref ro]) f3.i ht
      exact fin t _ gr _ _ _ (f3.trans nt) upd_same (dF.up nt.b) (dG.up nt.b) (dO.up nt.b)
end
end Who

namespace Who
open PySem L2 PySem.Spec PyProof.Rows
/-- rows by ints, lists that are filled -/
structure RSi (K : PySem.W.Frag) (H0 B H : Hp) (r : Addr) (ls : List Int) (row : Int → List Nm) : Prop where
  b : B r = none
  h0 : H0 r = none
  nd : ls.Nodup
  h : ∃ kvs : List (Key × V), H r = some (.dK kvs) ∧ kvs.map (·.1) = ls.map Sum.inl ∧ (∀ p ∈ kvs, ∃ l xs n, p.1 = Sum.inl n ∧ p.2 = .ref l ∧ B l = none ∧ H0 l = none ∧ H l = some (.lst xs) ∧ DpAll K B xs ((row n).map nmD)) ∧ (kvs.map fun p => p.2).Nodup
theorem valV_mem {kvs : List (Key × V)} {k : Key} (h : k ∈ kvs.map (·.1)) : ∃ p ∈ kvs, p.1 = k ∧ valV kvs k = some p.2 := by
  induction kvs with
  | nil => simp at h
  | cons p r ih =>
    by_cases e : p.1 = k
    · exact ⟨p, List.mem_cons_self, e, valV_pos e⟩
    · rw [List.map_cons] at h
      rcases List.mem_cons.mp h with z | z
      · exact absurd z.symm e
      · obtain ⟨q, hq, e1, e2⟩ := ih z
        exact ⟨q, List.mem_cons_of_mem _ hq, e1, by rw [valV_neg e]; exact e2⟩
theorem valV_no {kvs : List (Key × V)} {k : Key} (h : k ∉ kvs.map (·.1)) : valV kvs k = none := by
  induction kvs with
  | nil => rfl
  | cons p r ih =>
    rw [List.map_cons] at h
    have h1 : ¬ p.1 = k := fun e => h (by rw [e]; exact List.mem_cons_self)
    rw [valV_neg h1]
    exact ih fun z => h (List.mem_cons_of_mem _ z)
theorem mem_inl {ls : List Int} {k : Int} (h : k ∈ ls) : (Sum.inl k : Key) ∈ ls.map Sum.inl := List.mem_map.mpr ⟨k, h, rfl⟩
theorem nodup_inl : ∀ {ls : List Int}, ls.Nodup → (ls.map (Sum.inl : Int → Key)).Nodup
  | [], _ => List.nodup_nil
  | x :: ls, h => by
    rw [List.nodup_cons] at h
    rw [List.map_cons, List.nodup_cons]
    refine ⟨fun z => ?_, nodup_inl h.2⟩
    obtain ⟨y, hy, e⟩ := List.mem_map.mp z
    exact h.1 (Sum.inl.inj e ▸ hy)
section
variable {K : PySem.W.Frag} {H0 B H B2 H2 : Hp} {r : Addr} {ls : List Int} {row : Int → List Nm}
theorem RSi.nxt (m : RSi K H0 B H r ls row) (n : Nxt B H B2 H2) : RSi K H0 B2 H2 r ls row := by
  obtain ⟨ps, h1, h3, h4, h5⟩ := m.h
  refine ⟨n.av r _ h1 m.b, m.h0, m.nd, ps, n.h r _ h1, h3, fun p hp => ?_, h5⟩
  obtain ⟨l, xs, k, e1, e2, e3, e4, e5, e6⟩ := h4 p hp
  exact ⟨l, xs, k, e1, e2, n.av l _ e5 e3, e4, n.h l _ e5, e6.up n.b⟩
theorem RSi.app (m : RSi K H0 B H r ls row) {k : Int} {nm : Nm} (hk : k ∈ ls) : ∃ kvs l xs, H r = some (.dK kvs) ∧ kvs.length = ls.length ∧ valV kvs (Sum.inl k) = some (.ref l) ∧ H l = some (.lst xs) ∧ xs.length = (row k).length ∧ l ≠ r ∧ B l = none ∧ H0 l = none ∧
    ∀ y B3 H3, Nxt B H B3 H3 → Dp K B3 y (nmD nm) → H3 l = some (.lst xs) ∧ B3 l = none ∧ RSi K H0 B3 (upd H3 l (.lst (xs ++ [y]))) r ls (fun n => if n = k then row n ++ [nm] else row n) := by
  obtain ⟨kvs, h1, h3, h4, h5⟩ := m.h
  obtain ⟨p, hp, e0, e0'⟩ := valV_mem (kvs := kvs) (k := Sum.inl k) (by rw [h3]; exact mem_inl hk)
  obtain ⟨l, xs, n, e1, e2, e3, e4, e5, e6⟩ := h4 p hp
  have en : n = k := Sum.inl.inj (e1.symm.trans e0)
  subst en
  have hlr : l ≠ r := ne_of e5 h1 (fun z => nomatch z)
  refine ⟨kvs, l, xs, h1, by have := congrArg List.length h3; rwa [List.length_map, List.length_map] at this, by rw [e0', e2], e5, by rw [e6.len, List.length_map], hlr, e3, e4, fun y B3 H3 n3 dy => ⟨n3.h l _ e5, n3.av l _ e5 e3, n3.av r _ h1 m.b, m.h0, m.nd, kvs, by rw [upd_ne hlr.symm]; exact n3.h r _ h1, h3, fun q hq => ?_, h5⟩⟩
  obtain ⟨l', xs', n', f1, f2, f3, f4, f5, f6⟩ := h4 q hq
  by_cases z : l' = l
  · subst z
    rw [e5] at f5
    cases f5
    have hpq : p = q := nodup_inj h5 hp hq (by rw [e2, f2])
    subst hpq
    have en' : n' = n := Sum.inl.inj (f1.symm.trans e1)
    subst en'
    refine ⟨l', xs ++ [y], n', f1, f2, n3.av l' _ e5 f3, f4, upd_same, ?_⟩
    rw [if_pos rfl, List.map_append]
    exact (f6.up n3.b).app (.cons dy .nil)
  · refine ⟨l', xs', n', f1, f2, n3.av l' _ f5 f3, f4, by rw [upd_ne z]; exact n3.h l' _ f5, ?_⟩
    have hne : n' ≠ n := fun e => z (by
      have hpq : p = q := nodup_inj (f := fun p : Key × V => p.1) (by rw [h3]; exact nodup_inl m.nd) hp hq (by rw [e1, f1, e])
      subst hpq
      rw [e2] at f2
      injection f2 with f2
      exact f2.symm)
    rw [if_neg hne]
    exact f6.up n3.b
/-- a new row, still empty -/
theorem RSi.new (m : RSi K H0 B H r ls row) (s : Sub B H) {k : Int} {z : Addr} (hk : k ∉ ls) (e : row k = []) (hz : H z = none) (h0z : H0 z = none) : ∃ kvs, H r = some (.dK kvs) ∧ kvs.length = ls.length ∧ valV kvs (Sum.inl k) = none ∧ z ≠ r ∧
    RSi K H0 B (upd (upd H z (.lst [])) r (.dK (putK kvs (Sum.inl k) (.ref z)))) r (ls ++ [k]) row := by
  obtain ⟨kvs, h1, h3, h4, h5⟩ := m.h
  have hno : (Sum.inl k : Key) ∉ kvs.map (·.1) := by
    rw [h3]
    intro q
    obtain ⟨y, hy, e⟩ := List.mem_map.mp q
    exact hk (Sum.inl.inj e ▸ hy)
  have hat := valV_no hno
  have eput := putK_new (V.ref z) hat
  have hzr : z ≠ r := (ne_of_none h1 hz).symm
  refine ⟨kvs, h1, by have := congrArg List.length h3; rwa [List.length_map, List.length_map] at this, hat, hzr, m.b, m.h0, nodup_snoc m.nd hk, _, upd_same, ?_, fun p hp => ?_, ?_⟩
  · rw [eput, List.map_append, h3, List.map_append]; rfl
  · rw [eput] at hp
    rcases List.mem_append.mp hp with q | q
    · obtain ⟨l, xs, n, e1, e2, e3, e4, e5, e6⟩ := h4 p q
      have hlr : l ≠ r := ne_of e5 h1 (fun z => nomatch z)
      have hlz : l ≠ z := ne_of_none e5 hz
      exact ⟨l, xs, n, e1, e2, e3, e4, by rw [upd_ne hlr, upd_ne hlz]; exact e5, e6⟩
    · have ep : p = (Sum.inl k, .ref z) := List.mem_singleton.mp q
      subst ep
      exact ⟨z, [], k, rfl, rfl, s.none hz, h0z, by rw [upd_ne hzr]; exact upd_same, by rw [e]; exact .nil⟩
  · rw [eput, List.map_append]
    refine nodup_snoc h5 fun q => ?_
    obtain ⟨p, hp, ep⟩ := List.mem_map.mp q
    obtain ⟨l, xs, n, e1, e2, e3, e4, e5, e6⟩ := h4 p hp
    have : l = z := by
      have e7 : p.2 = V.ref z := ep
      rw [e2] at e7
      injection e7
    exact ne_of_none e5 hz this
/-- a dict with int keys in the base -/
def FDi (K : PySem.W.Frag) (B : Hp) (r : Addr) (ls : List Int) (row : Int → List Nm) : Prop := ∃ kvs : List (Key × V), B r = some (.dK kvs) ∧ kvs.map (·.1) = ls.map Sum.inl ∧ ∀ p ∈ kvs, ∃ n, p.1 = Sum.inl n ∧ Dp K B p.2 (.list ((row n).map nmD))
theorem FDi.up (m : FDi K B r ls row) (s : Sub B B2) : FDi K B2 r ls row := by
  obtain ⟨kvs, h1, h2, h3⟩ := m
  exact ⟨kvs, s r _ h1, h2, fun p hp => let ⟨n, e, d⟩ := h3 p hp; ⟨n, e, d.up s⟩⟩
open Classical in
theorem RSi.frz {B0 : Hp} (m : RSi K H0 B H r ls row) (n : Nxt B0 H0 B H) : ∃ B', Nxt B0 H0 B' H ∧ Sub B B' ∧ FDi K B' r ls row := by
  obtain ⟨ps, h1, h3, h4, h5⟩ := m.h
  let Mx : Addr → Prop := fun a => a = r ∨ ∃ p ∈ ps, p.2 = .ref a
  let B' : Hp := fun a => if (B a).isSome = true then B a else if Mx a then H a else none
  have sB : Sub B B' := fun a o h => by
    show (if (B a).isSome = true then B a else if Mx a then H a else none) = some o
    rw [if_pos (by rw [h]; rfl)]
    exact h
  have atM : ∀ a o, B a = none → Mx a → H a = some o → B' a = some o := fun a o hb hm hh => by
    show (if (B a).isSome = true then B a else if Mx a then H a else none) = some o
    rw [hb, if_neg (by simp), if_pos hm]
    exact hh
  refine ⟨B', ⟨n.b.trans sB, n.h, fun a o h => ?_, fun a o h z => ?_⟩, sB, ps, atM r _ m.b (.inl rfl) h1, h3, fun p hp => ?_⟩
  · have h' : (if (B a).isSome = true then B a else if Mx a then H a else none) = some o := h
    by_cases e : (B a).isSome = true
    · rw [if_pos e] at h'; exact n.i a o h'
    · rw [if_neg e] at h'
      by_cases e2 : Mx a
      · rw [if_pos e2] at h'; exact h'
      · rw [if_neg e2] at h'; cases h'
  · have hb := n.av a o h z
    show (if (B a).isSome = true then B a else if Mx a then H a else none) = none
    rw [hb, if_neg (by simp), if_neg]
    rintro (e | ⟨p, hp, e⟩)
    · subst e; rw [m.h0] at h; cases h
    · obtain ⟨l, xs, k, e1, e2, e3, e4, e5, e6⟩ := h4 p hp
      rw [e2] at e
      injection e with e
      subst e
      rw [e4] at h
      cases h
  · obtain ⟨l, xs, k, e1, e2, e3, e4, e5, e6⟩ := h4 p hp
    refine ⟨k, e1, ?_⟩
    rw [e2]
    exact dpL (atM l _ e3 (.inr ⟨p, hp, e2⟩) e5) (e6.up sB)
end
section
variable {X : Cx} {i : PySem.Expr} {pos p p2 : Pos} {σ : Stt} {B : Hp} {r : Addr} {ls : List Int} {row : Int → List Nm}
theorem keysI {K : PySem.W.Frag} : ∀ {kvs : List (Key × V)} {ls : List Int}, kvs.map (·.1) = ls.map Sum.inl → DpAll K B (kvs.map fun kv => kV kv.1) (ls.map .int)
  | [], [], _ => .nil
  | [], l :: ls, h => by cases h
  | p :: kvs, [], h => by cases h
  | p :: kvs, l :: ls, h => by
    rw [List.map_cons, List.map_cons] at h
    injection h with h1 h2
    rw [List.map_cons, List.map_cons, h1]
    exact .cons (.int l) (keysI h2)
theorem ev_listK [W : Wk X] (n : Nat) {x : Str} (F : FDi X.K B r ls row) (h0 : σ[n]? = some (some (.ref r)) := by rfl) (hN : X.N[n]? = some x := by rfl)
    (hv : Vis X.env.scope x := by first | exact Or.inl rfl | exact Or.inr (Or.inl rfl) | exact Or.inr (Or.inr rfl)) (hd : (x == ("__debug__" : Str)) = false := by decide) (hcd : (x == ("__classdict__" : Str)) = false := by decide) (hg : Gl X "list" := by rfl)
    (s1 : starEach [.Name x p2] X.env = (false, eval (.Name x p2) X.env) :: starEach [] X.env := by rfl) : EV X (.Call (.Name "list" p) [.Name x p2] [] pos) σ B (.list (ls.map .int)) :=
  EV.by (pe_callTy (call_list_dK W.calm) hg (nobx X _ (by decide)) boot_list' (pa_cons (pe_var hN hv hd hcd) pa_nil s1) (by decide) (by decide) s1) fun H1 z Q q => ⟨_, h0, by
    obtain ⟨kvs, h1, h2, h3⟩ := F
    refine ⟨r, kvs, rfl, z r _ h1, fun l hl => q _ _ _ (Nxt.new z hl) (dpL upd_same ?_)⟩
    exact (keysI h2).up (Sub.updL (z.none hl))⟩
theorem ev_iget [W : Wk X] (n : Nat) {x : Str} {k : Int} (F : FDi X.K B r ls row) (hk : k ∈ ls) (h : EV X i σ B (.int k)) (h0 : σ[n]? = some (some (.ref r)) := by rfl) (hN : X.N[n]? = some x := by rfl)
    (hv : Vis X.env.scope x := by first | exact Or.inl rfl | exact Or.inr (Or.inl rfl) | exact Or.inr (Or.inr rfl)) (hd : (x == ("__debug__" : Str)) = false := by decide) (hcd : (x == ("__classdict__" : Str)) = false := by decide) (hs : NoSl i := by intro _ _; rfl) :
    EV X (.Subscript (.Name x p) i pos) σ B (.list ((row k).map nmD)) := EV.by (pe_dget (un1 X) (pe_var hN hv hd hcd) pe_w hs) fun H1 z Q q => ⟨_, h0, h H1 z _ fun v B2 H2 nn pv => by
  obtain ⟨kvs, h1, h2, h3⟩ := F.up nn.b
  obtain ⟨q1, hq, e1, e2⟩ := valV_mem (kvs := kvs) (k := Sum.inl k) (by rw [h2]; exact mem_inl hk)
  obtain ⟨n', en, dn⟩ := h3 q1 hq
  have ek : n' = k := Sum.inl.inj (en.symm.trans e1)
  subst ek
  exact ⟨r, q1.2, rfl, .inl ⟨kvs, Sum.inl n', .inl (nn.i r _ h1), pv.int_inv, e2.symm⟩, q _ B2 H2 nn dn⟩⟩
end
def grpD (g : List Nm) : PyData := .tuple (g.map nmD)
/-- what _law_parts gives -/
def partsD (ns : List Nm) (lab : Nm → Int) : PyData := .tuple (((firsts lab ns).map fun m => grpD (rowL lab ns m)).mergeSort (keyLe id))
def unIt (row : Int → List Nm) : PyData → PyData
  | .int i => grpD (row i)
  | _ => .none
theorem alike_grps : ∀ (xs ys : List Nm), PySem.W.alikeAll (xs.map nmD) (ys.map nmD) = true
  | [], _ => by simp [PySem.W.alikeAll]
  | x :: xs, [] => by simp [PySem.W.alikeAll]
  | x :: xs, y :: ys => by
    rw [List.map_cons, List.map_cons, PySem.W.alikeAll, alike_grps xs ys]
    simp [nmD, PySem.W.alike, PySem.W.alikeAll]
theorem firsts_some {lab : Nm → Int} {xs : List Nm} {m : Int} (h : m ∈ firsts lab xs) : ∃ n ∈ xs, lab n = m := by
  have key : ∀ (ys : List Nm), ∀ m ∈ firsts lab ys.reverse, ∃ n ∈ ys.reverse, lab n = m := by
    intro ys
    induction ys with
    | nil => intro m hm; exact absurd hm (by simp [firsts])
    | cons y ys ih =>
      intro m hm
      rw [List.reverse_cons] at hm ⊢
      rw [firsts_snoc] at hm
      split at hm
      · obtain ⟨n, h1, h2⟩ := ih m hm
        exact ⟨n, List.mem_append_left _ h1, h2⟩
      · rcases List.mem_append.mp hm with z | z
        · obtain ⟨n, h1, h2⟩ := ih m z
          exact ⟨n, List.mem_append_left _ h1, h2⟩
        · exact ⟨y, List.mem_append_right _ (List.mem_singleton.mpr rfl), (List.mem_singleton.mp z).symm⟩
  have := key xs.reverse m
  rw [List.reverse_reverse] at this
  exact this h
theorem rowL_ne {lab : Nm → Int} {xs : List Nm} {m : Int} (h : m ∈ firsts lab xs) : ∃ y ys, rowL lab xs m = y :: ys := by
  obtain ⟨n, h1, h2⟩ := firsts_some h
  have h3 : n ∈ rowL lab xs m := List.mem_filter.mpr ⟨h1, decide_eq_true h2⟩
  cases e : rowL lab xs m with
  | nil => rw [e] at h3; cases h3
  | cons y ys => exact ⟨y, ys, rfl⟩
section
variable {P : Program} {w : World} {K : PySem.W.Frag} {mg : Str → Option Value} {base : Heap} {f : Addr} {fd : FuncData}
theorem sc42 : FnScope ["names", "groups", "rows", "name", "row", "number"] ["names", "groups"] (defScope (top 42)) := ⟨rfl, rfl, rfl, by decide +kernel, rfl, by decide +kernel, by decide +kernel⟩
def sp42 (P : Program) (w : World) (K : PySem.W.Frag) : Sp := fun vs H Q _ => ∃ (B : Hp) (a : V) (d : Addr) (ns : List Nm) (lab : Nm → Int), vs = [a, .ref d] ∧ Sub B H ∧ Dp K B a (.list (ns.map nmD)) ∧ FGi P w K B d ns lab ∧ ns.length ≤ 1000 ∧ ∀ v B2 H2, Nxt B H B2 H2 → Dp K B2 v (partsD ns lab) → Q v H2
theorem ok42 (F : Fun K "_law_parts" "_law_parts" (top 42) f fd) (nb : NoGl mg) : FnOk P w K mg base CX0 1 f fd ["names", "groups"] (sp42 P w K) := by
  refine imp_fn F sc42 nb (fun vs H Q E ⟨_, _, _, _, _, e, _⟩ => by rw [e]; rfl) fun cdv A outer s H E vs Q hr W hsp => ?_
  obtain ⟨B, a, d, ns, lab, rfl, sb, ha, FG, hz, fin⟩ := hsp
  have hlen : (ns.map nmD).length = ns.length := List.length_map _
  refine ss_cons (le_S (ps_set W.nd (i := 2) rfl (by first | exact Or.inl rfl | exact Or.inr rfl) pe_dnewK) fun r hr0 => ?_)
  have n1 : Nxt B H B (upd H r (.dK [])) := Nxt.mut sb hr0
  have R0 : RSi K H B (upd H r (.dK [])) r [] (fun _ => []) := ⟨sb.none hr0, hr0, List.nodup_nil, [], upd_same, rfl, (by intro p hp; cases hp), List.nodup_nil⟩
  refine ss_cons (s_for PassesOwn.never (pgn 3) rfl n1.i (ev_var 0 (ha.up n1.b)) (fun i σ' B' H' => (∃ x y, σ' = [some a, some (.ref d), some (.ref r), x, y, none]) ∧ Nxt B H B' H' ∧ RSi K H B' H' r (firsts lab (ns.take i)) (rowL lab (ns.take i))) (fun B4 H4 n4 => ⟨⟨none, none, rfl⟩, n1.trans n4, R0.nxt n4⟩) ?_ ?_)
  · intro B4 s4 i d0 x σ' B' H' hx pv sB sH dx
    obtain ⟨⟨y3, y4, rfl⟩, nn, R⟩ := pv
    rw [List.getElem?_map] at hx
    obtain ⟨nm, hnm, rfl⟩ := Option.map_eq_some_iff.mp hx
    have mem : nm ∈ ns := List.mem_of_getElem? hnm
    have hil : i < ns.length := (List.getElem?_eq_some_iff.mp hnm).1
    have et : ns.take (i + 1) = ns.take i ++ [nm] := by rw [List.take_add_one, hnm]; rfl
    have FG' := FG.up (s4.trans sB)
    have tl : (ns.take i).length ≤ 1000 := by rw [List.length_take]; omega
    have fl := firsts_len lab (ns.take i)
    have big : (1000 : Nat) < sizeLine := by decide
    have e : rowL lab (ns.take (i + 1)) = fun n => if n = lab nm then rowL lab (ns.take i) n ++ [nm] else rowL lab (ns.take i) n := by
      rw [et]
      exact funext fun n => rowL_snoc lab _ nm n
    -- row.append(name), from a row that stands
    have rest : ∀ (ls' : List Int) (l : Addr) (B6 H6 : Hp), Nxt B H B6 H6 → Sub B4 B6 → firsts lab (ns.take (i + 1)) = ls' → lab nm ∈ ls' → RSi K H B6 H6 r ls' (rowL lab (ns.take i)) → (∀ kvs, H6 r = some (.dK kvs) → valV kvs (Sum.inl (lab nm)) = some (.ref l)) → Sub B' B6 → ∀ D : Ends, (∀ H8, FdN B4 (fun σ' B' H' => (∃ x y, σ' = [some a, some (.ref d), some (.ref r), x, y, none]) ∧ Nxt B H B' H' ∧ RSi K H B' H' r (firsts lab (ns.take (i + 1))) (rowL lab (ns.take (i + 1)))) [some a, some (.ref d), some (.ref r), some x, some (.ref l), none] H8 → D.nx [some a, some (.ref d), some (.ref r), some x, some (.ref l), none] H8) →
        wSs (cxOf CX0 P w K mg base ["names", "groups", "rows", "name", "row", "number"] "_law_parts" (defScope (top 42)) f cdv A outer s H E).nox ((match (defBody (top 42)).getD 1 (.Pass ⟨0, 0, 0, 0⟩) with | .For _ _ bd _ _ => bd | _ => []).drop 1) D [some a, some (.ref d), some (.ref r), some x, some (.ref l), none] H6 := by
      intro ls' l B6 H6 n6 s46 efs hin R6 hval s6 D hD
      obtain ⟨kvs, l2, xs, k1, kl, k2, k3, k4, k5, k6, k7, RR⟩ := R6.app (k := lab nm) (nm := nm) hin
      have el : l2 = l := by
        have := hval kvs k1
        rw [k2] at this
        injection this with this
        injection this
      subst el
      have rlen : xs.length < sizeLine := by
        have : (rowL lab (ns.take i) (lab nm)).length ≤ (ns.take i).length := List.length_filter_le _ _
        omega
      refine ss_one (le_S (ps_expr (pe_bm PySem.F.plainAttrs_list PySem.F.slot_list_append PySem.F.type_list_append mt_append (pv 4) (pa_cons (pv 3) pa_nil))) ⟨_, rfl, .inl ⟨rfl, xs, .inl (.inl k3)⟩, x, rfl, l2, xs, x, rfl, rfl, k3, rlen, hD _ ?_⟩)
      obtain ⟨g1, g2, g3⟩ := RR x B6 H6 (Nxt.refl n6.i) (dx.up s6)
      refine ⟨B6, s46, n6.i.upd k6, ⟨_, _, rfl⟩, n6.put k7 k6, ?_⟩
      rw [e, efs]
      exact g3
    obtain ⟨kvs0, g1, _⟩ := R.h
    refine ss_cons (le_S (ps_set W.nd (i := 4) rfl (by first | exact Or.inl rfl | exact Or.inr rfl) (pe_dsetd (pv 2) pe_w (pe_lst pa_nil) ⟨rfl, rfl, rfl, rfl⟩)) ⟨_, rfl, r, rfl, .inl ⟨kvs0, .inl g1⟩, ?_⟩)
    refine (ev_gi (X := (cxOf CX0 P w K mg base ["names", "groups", "rows", "name", "row", "number"] "_law_parts" (defScope (top 42)) f cdv A outer s H E).nox) 1 FG' mem (ev_var 3 dx)) H' sH _ fun v B5 H5 n5 dv => ⟨by show 0 ≤ sizeLine; decide, fun z hz5 => ?_⟩
    have ev := dv.int_inv
    subst ev
    have nz : Nxt B5 H5 B5 (upd H5 z (.lst [])) := Nxt.mut n5.i hz5
    have R5 := R.nxt n5
    have R6 := R5.nxt nz
    have h0z : H z = none := (nn.trans n5).back hz5
    have s45 := (sB.trans n5.b)
    by_cases hin : lab nm ∈ firsts lab (ns.take i)
    · obtain ⟨kvs, l, xs, k1, kl, k2, k3, k4, k5, k6, k7, RR⟩ := R6.app (k := lab nm) (nm := nm) hin
      have efs : firsts lab (ns.take (i + 1)) = firsts lab (ns.take i) := by rw [et, firsts_snoc, if_pos hin]
      refine ⟨kvs, Sum.inl (lab nm), k1, rfl, by omega, fun v hv => ?_, fun hv => ?_⟩
      · rw [k2] at hv
        cases hv
        exact rest _ l B5 _ ((nn.trans n5).trans nz) s45 efs hin R6 (fun kvs' h => by rw [k1] at h; cases h; exact k2) n5.b _ fun _ h => h
      · rw [k2] at hv; cases hv
    · obtain ⟨kvs, k1, kl, k2, hzr, RR⟩ := R5.new n5.i (k := lab nm) hin (rowL_none hin) hz5 h0z
      have k1' : (upd H5 z (.lst [])) r = some (.dK kvs) := by rw [upd_ne hzr.symm]; exact k1
      have efs : firsts lab (ns.take (i + 1)) = firsts lab (ns.take i) ++ [lab nm] := by rw [et, firsts_snoc, if_neg hin]
      refine ⟨kvs, Sum.inl (lab nm), k1', rfl, by omega, fun v hv => ?_, fun _ => ?_⟩
      · rw [k2] at hv; cases hv
      · refine rest _ z B5 _ (((nn.trans n5).trans nz).put hr0 R5.b) s45 efs (List.mem_append_right _ (List.mem_singleton.mpr rfl)) RR (fun kvs' h => ?_) n5.b _ fun _ h => h
        rw [upd_same] at h
        cases h
        rw [valV_put, if_pos rfl]
  · rintro σ' B' H' ⟨⟨y3, y4, rfl⟩, nn, R⟩ s1 s2
    rw [hlen, List.take_length] at R
    obtain ⟨Bf, nf, sf, FR⟩ := R.frz nn
    have fl := firsts_len lab ns
    have mm : ((firsts lab ns).map PyData.int).map (unIt (rowL lab ns)) = (firsts lab ns).map fun m => grpD (rowL lab ns m) := by rw [List.map_map]; rfl
    refine ss_one (s_ret nf.i (ev_tupleOf rfl (ev_sorted ?_ ?_ ?_ (EV.is (ev_lcL (own := [("number", 5)]) (ds := (firsts lab ns).map .int) (unIt (rowL lab ns)) (blkOk_by (by rfl)) (fun _ _ _ _ _ => pgn 5) (ev_listK 2 FR) (by rw [List.length_map]; omega) fun x d0 B3 hd s3 hx => ?_) (by rw [mm])))) fun v B6 H6 n6 z => fin v B6 H6 (nf.trans n6) z)
    · intro d hd d' hd'
      obtain ⟨x, _, rfl⟩ := List.mem_map.mp hd
      obtain ⟨x', _, rfl⟩ := List.mem_map.mp hd'
      unfold grpD
      rw [PySem.W.alike]
      exact alike_grps _ _
    · refine .inl fun d hd => ?_
      obtain ⟨m, hm, rfl⟩ := List.mem_map.mp hd
      obtain ⟨y, ys, e⟩ := rowL_ne hm
      exact ⟨nmD y, ys.map nmD, by show grpD (rowL lab ns m) = _; rw [e]; rfl⟩
    · intro d hd
      obtain ⟨m, hm, rfl⟩ := List.mem_map.mp hd
      have h := depth_nms (rowL lab ns m)
      show (grpD (rowL lab ns m)).depth ≤ 60
      unfold grpD
      rw [PyData.depth]
      omega
    · obtain ⟨m, hm, rfl⟩ := List.mem_map.mp hd
      exact lc_name 5 fun _ _ _ _ _ => EV.is (ev_tupleOf (ds := (rowL lab ns m).map nmD) rfl (ev_iget 2 (FR.up s3) hm (ev_var 5 hx))) rfl
end
end Who

namespace Who
open PySem L2
/-! ### the plain law -/
theorem lt_nm (a b : Nm) : PySem.W.dataLt (nmD a) (nmD b) = nmLt a b := by
  obtain ⟨a1, a2⟩ := a
  obtain ⟨b1, b2⟩ := b
  show PySem.W.dataLt (.tuple [.int a1, .int a2]) (.tuple [.int b1, .int b2]) = _
  rw [PySem.W.dataLt_pair (by simp [PySem.W.alike]) (by simp [PySem.W.alike]), PySem.W.dataLt_int, PySem.W.dataLt_int]
  unfold nmLt
  by_cases h : a1 = b1
  · subst h
    by_cases h2 : a2 = b2
    · subst h2; simp [PyData.eqv]
    · simp [PyData.eqv, h2]
  · simp [PyData.eqv, h]
theorem leN_eq (a b : Nm) : leN a b = !nmLt b a := by
  show (!PySem.W.dataLt (nmD b) (nmD a)) = _
  rw [lt_nm]
theorem nmLt_trans {a b c : Nm} (h1 : nmLt a b = true) (h2 : nmLt b c = true) : nmLt a c = true := by
  unfold nmLt at *
  by_cases e1 : a.1 = b.1
  · rw [if_pos e1] at h1
    by_cases e2 : b.1 = c.1
    · rw [if_pos e2] at h2
      rw [if_pos (e1.trans e2)]
      simp at *; omega
    · rw [if_neg e2] at h2
      rw [if_neg (fun e => e2 (e1.symm.trans e))]
      simp at *; omega
  · rw [if_neg e1] at h1
    by_cases e2 : b.1 = c.1
    · rw [if_pos e2] at h2
      rw [if_neg (fun e => e1 (e.trans e2.symm))]
      simp at *; omega
    · rw [if_neg e2] at h2
      simp at h1 h2
      rw [if_neg (by omega)]
      simp; omega
theorem nmLt_total {a b : Nm} (h : a ≠ b) : nmLt a b = true ∨ nmLt b a = true := by
  obtain ⟨a1, a2⟩ := a
  obtain ⟨b1, b2⟩ := b
  unfold nmLt
  by_cases e : a1 = b1
  · subst e
    have : a2 ≠ b2 := fun e => h (by rw [e])
    simp; omega
  · simp [e, Ne.symm e]; omega
theorem srt_asc {ns : List Nm} (h : Asc ns) : srt ns = ns := List.mergeSort_of_pairwise (List.Pairwise.imp (fun {a b} hab => by rw [leN_eq, nmLt_asym hab]; rfl) h)
/-! two labellings that part the names alike -/
def Rel (ns : List Nm) (lab : Nm → Nm) (li : Nm → Int) : Prop := ∀ a ∈ ns, ∀ b ∈ ns, lab a = lab b ↔ li a = li b
theorem fate_eq {ns : List Nm} {lab : Nm → Nm} {li : Nm → Int} (r : Rel ns lab li) {bs bs' : List (Nm × Nm)} (hb : ∀ z, z ∈ bs ↔ z ∈ bs') (inb : InB ns bs) {l : Lk} (h1 : l.2.1 ∈ ns) (h2 : l.2.2 ∈ ns) : fateN lab bs l = fateI li bs' l := by
  unfold fateN fateI
  have e1 : (lab l.2.1 = lab l.2.2) = (li l.2.1 = li l.2.2) := propext (r _ h1 _ h2)
  have e2 : bs.any (betw lab l.2.1 l.2.2) = bs'.any (betwI li l.2.1 l.2.2) := by
    rw [Bool.eq_iff_iff, List.any_eq_true, List.any_eq_true]
    have key : ∀ z ∈ bs, betw lab l.2.1 l.2.2 z = betwI li l.2.1 l.2.2 z := fun z hz => by
      obtain ⟨a, b⟩ := inb z hz
      unfold betw betwI
      rw [decide_eq_decide, r _ a _ h1, r _ b _ h2, r _ a _ h2, r _ b _ h1]
    constructor
    · rintro ⟨z, hz, h⟩; exact ⟨z, (hb z).mp hz, by rw [← key z hz]; exact h⟩
    · rintro ⟨z, hz, h⟩; exact ⟨z, (hb z).mpr hz, by rw [key z ((hb z).mpr hz)]; exact h⟩
  rw [e2]
  by_cases h : lab l.2.1 = lab l.2.2
  · rw [if_pos h, if_pos (Eq.mp e1 h)]
  · rw [if_neg h, if_neg fun z => h (Eq.mpr e1 z)]
theorem minmax (lab : Nm → Nm) (p q : Nm) (h : lab p ≠ lab q) : (minL lab p q = lab p ∧ maxL lab p q = lab q) ∨ (minL lab p q = lab q ∧ maxL lab p q = lab p) := by
  unfold minL maxL
  rcases nmLt_total h with z | z
  · left; rw [if_pos z, if_neg (by rw [nmLt_asym z]; exact Bool.false_ne_true)]; exact ⟨rfl, rfl⟩
  · right; rw [if_pos z, if_neg (by rw [nmLt_asym z]; exact Bool.false_ne_true)]; exact ⟨rfl, rfl⟩
theorem merge_iff {α : Type} [DecidableEq α] (A B x y : α) : (if x = B then A else x) = (if y = B then A else y) ↔ x = y ∨ ((x = A ∨ x = B) ∧ (y = A ∨ y = B)) := by
  by_cases c1 : x = B
  · by_cases c2 : y = B
    · rw [if_pos c1, if_pos c2]; exact ⟨fun _ => .inl (c1.trans c2.symm), fun _ => rfl⟩
    · rw [if_pos c1, if_neg c2]
      constructor
      · intro e; exact .inr ⟨.inr c1, .inl e.symm⟩
      · rintro (e | ⟨_, e | e⟩)
        · exact absurd (e.symm.trans c1) c2
        · exact e.symm
        · exact absurd e c2
  · by_cases c2 : y = B
    · rw [if_neg c1, if_pos c2]
      constructor
      · intro e; exact .inr ⟨.inl e, .inr c2⟩
      · rintro (e | ⟨e | e, _⟩)
        · exact absurd (e.trans c2) c1
        · exact e
        · exact absurd e c1
    · rw [if_neg c1, if_neg c2]
      constructor
      · exact .inl
      · rintro (e | ⟨e1 | e1, e2 | e2⟩)
        · exact e
        · exact e1.trans e2.symm
        · exact absurd e2 c2
        · exact absurd e1 c1
        · exact absurd e1 c1
/-- in terms of the relation alone -/
theorem join_iff (lab : Nm → Nm) (p q a b : Nm) (h : lab p ≠ lab q) : joinL lab p q a = joinL lab p q b ↔ lab a = lab b ∨ ((lab a = lab p ∨ lab a = lab q) ∧ (lab b = lab p ∨ lab b = lab q)) := by
  unfold joinL
  rcases minmax lab p q h with ⟨e1, e2⟩ | ⟨e1, e2⟩
  · rw [e1, e2]
    exact merge_iff (lab p) (lab q) (lab a) (lab b)
  · rw [e1, e2]
    exact (merge_iff (lab q) (lab p) (lab a) (lab b)).trans ⟨fun h => h.imp id fun ⟨x, y⟩ => ⟨x.symm, y.symm⟩, fun h => h.imp id fun ⟨x, y⟩ => ⟨x.symm, y.symm⟩⟩
theorem joinI_iff (li : Nm → Int) (p q a b : Nm) : joinI li p q a = joinI li p q b ↔ li a = li b ∨ ((li a = li p ∨ li a = li q) ∧ (li b = li p ∨ li b = li q)) := merge_iff (li p) (li q) (li a) (li b)
theorem rel_next {ns : List Nm} {lab : Nm → Nm} {li : Nm → Int} (r : Rel ns lab li) {bs bs' : List (Nm × Nm)} (hb : ∀ z, z ∈ bs ↔ z ∈ bs') (inb : InB ns bs) {l : Lk} (h1 : l.2.1 ∈ ns) (h2 : l.2.2 ∈ ns) : Rel ns (nextL lab bs l) (nextI li bs' l) := by
  have ef := fate_eq r hb inb h1 h2
  intro a ha b hb'
  unfold nextL nextI
  rw [ef]
  by_cases e : fateI li bs' l = 2
  · rw [if_pos e, if_pos e]
    have hne : lab l.2.1 ≠ lab l.2.2 := fun z => by
      rw [← ef] at e
      unfold fateN at e
      rw [if_pos z] at e
      cases e
    rw [join_iff lab _ _ a b hne, joinI_iff, r _ ha _ hb', r _ ha _ h1, r _ ha _ h2, r _ hb' _ h1, r _ hb' _ h2]
  · rw [if_neg e, if_neg e]
    exact r a ha b hb'
theorem rel_all {ns : List Nm} {bs bs' : List (Nm × Nm)} (hb : ∀ z, z ∈ bs ↔ z ∈ bs') (inb : InB ns bs) : ∀ (ls : List Lk) {lab : Nm → Nm} {li : Nm → Int}, InL ns ls → Rel ns lab li → Rel ns (labsL bs ls lab) (labsI bs' ls li)
  | [], _, _, _, r => r
  | l :: ls, lab, li, inl, r => rel_all hb inb ls (fun z hz => inl z (List.mem_cons_of_mem _ hz)) (rel_next r hb inb (inl l List.mem_cons_self).1 (inl l List.mem_cons_self).2)
theorem fates_eq {ns : List Nm} {bs bs' : List (Nm × Nm)} (hb : ∀ z, z ∈ bs ↔ z ∈ bs') (inb : InB ns bs) : ∀ (ls : List Lk) {lab : Nm → Nm} {li : Nm → Int}, InL ns ls → Rel ns lab li → fatesL bs ls lab = fatesI bs' ls li
  | [], _, _, _, _ => rfl
  | l :: ls, lab, li, inl, r => by
    have h := inl l List.mem_cons_self
    show fateN lab bs l :: fatesL bs ls _ = fateI li bs' l :: fatesI bs' ls _
    rw [fate_eq r hb inb h.1 h.2, fates_eq hb inb ls (fun z hz => inl z (List.mem_cons_of_mem _ hz)) (rel_next r hb inb h.1 h.2)]
theorem rel0 {ns : List Nm} (nd : ns.Nodup) : Rel ns id (lab0 ns) := fun a ha b hb => by
  constructor
  · intro e
    have e' : a = b := e
    rw [e']
  · intro e
    exact placeOf_inj nd ha hb (Int.ofNat.inj (show Int.ofNat (placeOf ns a) = Int.ofNat (placeOf ns b) from e))
/-! the least name labels -/
def Least (ns : List Nm) (lab : Nm → Nm) : Prop := ∀ n ∈ ns, lab n ∈ ns ∧ lab (lab n) = lab n ∧ nmLt n (lab n) = false
theorem least_join {ns : List Nm} {lab : Nm → Nm} (h : Least ns lab) {p q : Nm} (hp : p ∈ ns) (hq : q ∈ ns) (hne : lab p ≠ lab q) : Least ns (joinL lab p q) := by
  intro n hn
  obtain ⟨a1, a2, a3⟩ := h n hn
  obtain ⟨p1, p2, p3⟩ := h p hp
  obtain ⟨q1, q2, q3⟩ := h q hq
  have mn : minL lab p q ∈ ns ∧ lab (minL lab p q) = minL lab p q := by
    rcases minmax lab p q hne with ⟨e, _⟩ | ⟨e, _⟩
    · rw [e]; exact ⟨p1, p2⟩
    · rw [e]; exact ⟨q1, q2⟩
  have mne : minL lab p q ≠ maxL lab p q := by
    rcases minmax lab p q hne with ⟨e1, e2⟩ | ⟨e1, e2⟩
    · rw [e1, e2]; exact hne
    · rw [e1, e2]; exact hne.symm
  have mlt : nmLt (minL lab p q) (maxL lab p q) = true := by
    unfold minL maxL
    rcases nmLt_total hne with z | z
    · rw [if_pos z, if_neg (by rw [nmLt_asym z]; exact Bool.false_ne_true)]; exact z
    · rw [if_pos z, if_neg (by rw [nmLt_asym z]; exact Bool.false_ne_true)]; exact z
  have jm : joinL lab p q (minL lab p q) = minL lab p q := by
    unfold joinL
    rw [mn.2, if_neg mne]
  by_cases e : lab n = maxL lab p q
  · have ej : joinL lab p q n = minL lab p q := if_pos e
    rw [ej]
    refine ⟨mn.1, jm, ?_⟩
    cases z : nmLt n (minL lab p q) with
    | false => rfl
    | true =>
      have := nmLt_trans z mlt
      rw [← e, a3] at this
      cases this
  · have ej : joinL lab p q n = lab n := if_neg e
    rw [ej]
    refine ⟨a1, ?_, a3⟩
    unfold joinL
    rw [a2, if_neg e]
theorem least_next {ns : List Nm} {lab : Nm → Nm} (h : Least ns lab) (bs : List (Nm × Nm)) {l : Lk} (h1 : l.2.1 ∈ ns) (h2 : l.2.2 ∈ ns) : Least ns (nextL lab bs l) := by
  unfold nextL
  by_cases e : fateN lab bs l = 2
  · rw [if_pos e]
    refine least_join h h1 h2 fun z => ?_
    unfold fateN at e
    rw [if_pos z] at e
    cases e
  · rw [if_neg e]; exact h
theorem least_all {ns : List Nm} (bs : List (Nm × Nm)) : ∀ (ls : List Lk) {lab : Nm → Nm}, InL ns ls → Least ns lab → Least ns (labsL bs ls lab)
  | [], _, _, h => h
  | l :: ls, lab, inl, h => least_all bs ls (fun z hz => inl z (List.mem_cons_of_mem _ hz)) (least_next h bs (inl l List.mem_cons_self).1 (inl l List.mem_cons_self).2)
theorem least0 (ns : List Nm) : Least ns id := fun n hn => ⟨hn, rfl, nmLt_irrefl n⟩
/-! groups in the order of their first names -/
theorem firsts_lead {ns : List Nm} {lab : Nm → Nm} {li : Nm → Int} (r : Rel ns lab li) : ∀ ys : List Nm, (∀ y ∈ ys, y ∈ ns) → ∃ L : List Nm, (∀ y ∈ L, y ∈ ns) ∧ firsts lab ys.reverse = L.map lab ∧ firsts li ys.reverse = L.map li := by
  intro ys
  induction ys with
  | nil => intro _; exact ⟨[], (by intro y h; cases h), rfl, rfl⟩
  | cons y ys ih =>
    intro h
    obtain ⟨L, h1, h2, h3⟩ := ih fun z hz => h z (List.mem_cons_of_mem _ hz)
    have hy := h y List.mem_cons_self
    rw [List.reverse_cons, firsts_snoc, firsts_snoc, h2, h3]
    have key : lab y ∈ L.map lab ↔ li y ∈ L.map li := by
      rw [List.mem_map, List.mem_map]
      constructor
      · rintro ⟨z, hz, e⟩; exact ⟨z, hz, (r z (h1 z hz) y hy).mp e⟩
      · rintro ⟨z, hz, e⟩; exact ⟨z, hz, (r z (h1 z hz) y hy).mpr e⟩
    by_cases c : lab y ∈ L.map lab
    · rw [if_pos c, if_pos (key.mp c)]
      exact ⟨L, h1, rfl, rfl⟩
    · rw [if_neg c, if_neg fun z => c (key.mpr z)]
      refine ⟨L ++ [y], fun z hz => ?_, by rw [List.map_append]; rfl, by rw [List.map_append]; rfl⟩
      rcases List.mem_append.mp hz with q | q
      · exact h1 z q
      · rw [List.mem_singleton.mp q]; exact hy
theorem groups_eq {ns : List Nm} {lab : Nm → Nm} {li : Nm → Int} (r : Rel ns lab li) : (firsts lab ns).map (fun m => grpD (rowL lab ns m)) = (firsts li ns).map fun m => grpD (rowL li ns m) := by
  obtain ⟨L, h1, h2, h3⟩ := firsts_lead r ns.reverse fun y hy => List.mem_reverse.mp hy
  rw [List.reverse_reverse] at h2 h3
  rw [h2, h3, List.map_map, List.map_map]
  refine List.map_congr_left fun x hx => ?_
  show grpD (rowL lab ns (lab x)) = grpD (rowL li ns (li x))
  congr 1
  unfold rowL
  refine List.filter_congr fun n hn => ?_
  rw [decide_eq_decide]
  exact r n hn x (h1 x hx)
theorem firsts_own {ns : List Nm} {lab : Nm → Nm} (hA : Asc ns) (hL : Least ns lab) : ∀ i, i ≤ ns.length → firsts lab (ns.take i) = (ns.take i).filter fun n => decide (lab n = n) := by
  intro i
  induction i with
  | zero => intro _; rfl
  | succ i ih =>
    intro hi
    have hil : i < ns.length := hi
    have et : ns.take (i + 1) = ns.take i ++ [ns[i]] := by rw [List.take_add_one, List.getElem?_eq_getElem hil]; rfl
    rw [et, firsts_snoc, List.filter_append, ← ih (by omega)]
    obtain ⟨a1, a2, a3⟩ := hL ns[i] (List.getElem_mem hil)
    by_cases c : lab ns[i] = ns[i]
    · have hno : lab ns[i] ∉ firsts lab (ns.take i) := fun h => by
        rw [ih (by omega), c] at h
        exact fresh_at hA.nodup (List.getElem?_eq_getElem hil) (List.mem_filter.mp h).1
      rw [if_neg hno]
      simp [c]
    · have hin : lab ns[i] ∈ firsts lab (ns.take i) := by
        obtain ⟨j, hj, ej⟩ := List.mem_iff_getElem.mp a1
        have hji : j < i := by
          rcases Nat.lt_trichotomy j i with h | h | h
          · exact h
          · subst h; exact absurd ej.symm c
          · have := List.pairwise_iff_getElem.mp hA i j hil hj h
            rw [ej, a3] at this
            cases this
        have hm : lab ns[i] ∈ ns.take i := by
          rw [← ej]
          exact List.mem_take_iff_getElem.mpr ⟨j, by omega, rfl⟩
        have := firsts_rev lab (ns.take i) _ hm
        rw [a2] at this
        exact this
      rw [if_pos hin]
      simp [c]
theorem firsts_asc {ns : List Nm} {lab : Nm → Nm} (hA : Asc ns) (hL : Least ns lab) : Asc (firsts lab ns) ∧ ∀ m ∈ firsts lab ns, m ∈ ns ∧ lab m = m := by
  have h := firsts_own hA hL ns.length (Nat.le_refl _)
  rw [List.take_length] at h
  rw [h]
  refine ⟨List.Pairwise.sublist List.filter_sublist hA, fun m hm => ?_⟩
  obtain ⟨h1, h2⟩ := List.mem_filter.mp hm
  exact ⟨h1, of_decide_eq_true h2⟩
theorem row_head {ns : List Nm} {lab : Nm → Nm} (hA : Asc ns) (hL : Least ns lab) {m : Nm} (hm : m ∈ ns) (e : lab m = m) : ∃ ys, rowL lab ns m = m :: ys := by
  have h1 : m ∈ rowL lab ns m := List.mem_filter.mpr ⟨hm, decide_eq_true e⟩
  have hp : Asc (rowL lab ns m) := List.Pairwise.sublist List.filter_sublist hA
  cases q : rowL lab ns m with
  | nil => rw [q] at h1; cases h1
  | cons y ys =>
    rw [q] at h1 hp
    rcases List.mem_cons.mp h1 with z | z
    · rw [z]; exact ⟨ys, rfl⟩
    · have lt : nmLt y m = true := (List.pairwise_cons.mp hp).1 m z
      have hy : y ∈ rowL lab ns m := by rw [q]; exact List.mem_cons_self
      obtain ⟨g1, g2⟩ := List.mem_filter.mp hy
      obtain ⟨_, _, b3⟩ := hL y g1
      rw [of_decide_eq_true g2, lt] at b3
      cases b3
theorem lt_grp {a b : Nm} {xs ys : List Nm} (h : nmLt a b = true) : PySem.W.dataLt (grpD (b :: xs)) (grpD (a :: ys)) = false := by
  unfold grpD
  have hne : ¬ b = a := fun e => by rw [e, nmLt_irrefl] at h; cases h
  rw [List.map_cons, List.map_cons, PySem.W.dataLt_tuple, PySem.W.dataLt_cons (by simp [nmD, PySem.W.alike, PySem.W.alikeAll]), eqv_nm, decide_eq_false hne, if_neg Bool.false_ne_true, lt_nm, nmLt_asym h]
theorem told_eq {ns : List Nm} {lab : Nm → Nm} {li : Nm → Int} (hA : Asc ns) (hL : Least ns lab) (r : Rel ns lab li) : toldD ns lab = partsD ns li := by
  unfold toldD partsD
  obtain ⟨f1, f2⟩ := firsts_asc hA hL
  rw [srt_asc hA, srt_asc f1, ← groups_eq r]
  show PyData.tuple ((firsts lab ns).map fun m => grpD (rowL lab ns m)) = _
  congr 1
  symm
  refine List.mergeSort_of_pairwise ?_
  rw [List.pairwise_map]
  refine List.Pairwise.imp_of_mem (fun {a b} ha hb hab => ?_) f1
  obtain ⟨ys, e1⟩ := row_head hA hL (f2 a ha).1 (f2 a ha).2
  obtain ⟨zs, e2⟩ := row_head hA hL (f2 b hb).1 (f2 b hb).2
  show (!PySem.W.dataLt (grpD (rowL lab ns b)) (grpD (rowL lab ns a))) = true
  rw [e1, e2, lt_grp hab]
  rfl
/-! the links' order -/
theorem neg_neg (l : Lk) : neg1 (neg1 l) = l := by
  obtain ⟨i, p⟩ := l
  show (0 - (0 - i), p) = (i, p)
  congr 1
  omega
def leK (a b : Lk) : Bool := keyLe id (lkD a) (lkD b)
def ordL (ls : List Lk) : List Lk := ((ls.map neg1).mergeSort leK).map neg1
theorem ord_eq (ls : List Lk) : ordL ls = srtL ls := by
  have h := PySem.W.sort_maps (r := leL) (s := leK) (l := ls) neg1 (fun _ _ _ _ => rfl)
  unfold ordL srtL
  rw [← h, List.map_map]
  have e : (neg1 ∘ neg1) = (id : Lk → Lk) := funext neg_neg
  rw [e, List.map_id]
/-! first weights -/
def weightsL (i j : Nat) (ls : List Lk) (rows : List (List Int)) : List Int := ((ls.zip rows).filter fun z => !decide (z.2 = []) && decide (z.2.getD i 0 = z.2.getD j 0)).map fun z => z.1.1
def dueW (i j : Nat) (ws : List Int) : Option Int := if ws = [] ∨ i = j then none else ws.head?
theorem firstW_eq {ns : List Nm} (nd : ns.Nodup) {bs bs' : List (Nm × Nm)} (hb : ∀ z, z ∈ bs ↔ z ∈ bs') (inb : InB ns bs) {i j : Nat} (hi : i < ns.length) (hj : j < ns.length) : ∀ (ls : List Lk) {lab : Nm → Nm} {li : Nm → Int}, InL ns ls → Rel ns lab li →
    firstW bs (nA ns i) (nA ns j) ls lab = dueW i j (weightsL i j ls (rowsI ns bs' ls li))
  | [], _, _, _, _ => by
    show none = dueW i j []
    unfold dueW
    rw [if_pos (.inl rfl)]
  | l :: ls, lab, li, inl, r => by
    have h := inl l List.mem_cons_self
    have ef := fate_eq r hb inb h.1 h.2
    have rn := rel_next r hb inb h.1 h.2
    have ih := firstW_eq nd hb inb hi hj ls (fun z hz => inl z (List.mem_cons_of_mem _ hz)) rn
    have mi : nA ns i ∈ ns := by unfold nA; rw [show ns.getD i (0, 0) = ns[i] by simp [hi]]; exact List.getElem_mem hi
    have mj : nA ns j ∈ ns := by unfold nA; rw [show ns.getD j (0, 0) = ns[j] by simp [hj]]; exact List.getElem_mem hj
    have hne : ns ≠ [] := fun e => by rw [e] at hi; exact absurd hi (by simp)
    show (if fateN lab bs l = 2 ∧ nA ns i ≠ nA ns j ∧ nextL lab bs l (nA ns i) = nextL lab bs l (nA ns j) then some l.1 else firstW bs (nA ns i) (nA ns j) ls (nextL lab bs l)) = _
    have ew : weightsL i j (l :: ls) (rowsI ns bs' (l :: ls) li) = (if (!decide (rowI ns li bs' l = []) && decide ((rowI ns li bs' l).getD i 0 = (rowI ns li bs' l).getD j 0)) = true then [l.1] else []) ++ weightsL i j ls (rowsI ns bs' ls (nextI li bs' l)) := by
      unfold weightsL
      show (((l, rowI ns li bs' l) :: ls.zip (rowsI ns bs' ls (nextI li bs' l))).filter _).map _ = _
      rw [List.filter_cons]
      split <;> rfl
    rw [ew, ih, ef]
    by_cases e2 : fateI li bs' l = 2
    · have er : rowI ns li bs' l = ns.map (nextI li bs' l) := if_pos e2
      have g : ∀ k, k < ns.length → (ns.map (nextI li bs' l)).getD k 0 = nextI li bs' l (nA ns k) := fun k hk => by
        unfold nA
        simp [hk]
      have nemp : ns.map (nextI li bs' l) ≠ [] := fun e => hne (List.map_eq_nil_iff.mp e)
      rw [er, g i hi, g j hj, decide_eq_false nemp]
      have rr := rn _ mi _ mj
      by_cases e3 : nextI li bs' l (nA ns i) = nextI li bs' l (nA ns j)
      · rw [decide_eq_true e3]
        by_cases e4 : i = j
        · subst e4
          rw [if_neg (fun z => z.2.1 rfl)]
          unfold dueW
          rw [if_pos (.inr rfl), if_pos (.inr rfl)]
        · have e5 : nA ns i ≠ nA ns j := fun z => e4 (nA_inj nd hi hj z)
          rw [if_pos ⟨e2, e5, rr.mpr e3⟩]
          have e6 : (if (!false && true) = true then [l.1] else ([] : List Int)) = [l.1] := rfl
          rw [e6]
          unfold dueW
          rw [if_neg (by simp [e4])]
          rfl
      · have e6 : (if (!false && false) = true then [l.1] else ([] : List Int)) = [] := rfl
        rw [decide_eq_false e3, if_neg (fun z => e3 (rr.mp z.2.2)), e6]
        rfl
    · have er : rowI ns li bs' l = [] := if_neg e2
      have e6 : (if (!decide (([] : List Int) = []) && decide (([] : List Int).getD i 0 = ([] : List Int).getD j 0)) = true then [l.1] else ([] : List Int)) = [] := by simp
      rw [er, if_neg (fun z => e2 z.1), e6]
      rfl
end Who

/-! Who: the law's own call, where what surrounds it is known (no container is being shown). -/
namespace Who
open PySem L2 PySem.Spec PyProof.Rows
section
variable {P : Program} {w : World} {K : PySem.W.Frag} {mg mb : Str → Option Value} {base : Heap}
theorem run_one {x qual y : Str} {st : Stmt} {f : Addr} {fd : FuncData} {N : List Str} {k : Nat} (F : Fun K x qual st f fd) (S : FnScope N [y] (defScope st)) {A : Around} {outer : List Env} {s : Shared} {H : Hp} {u : Value} {v : V} {Q : VK} (hr : Room (k + 1) A) (e0 : Env0 P w K mg base A outer s H)
    (hb : BindsTo s fd ⟨[u], []⟩ [(y, u)]) (ruv : RelV v u) (hk : ((defScope st).names.lookup y == some .local || (defScope st).names.lookup y == some .cell) = true)
    (body : ∀ cdv, wSs (cxOf CX0 P w K mg base N qual (defScope st) f cdv A outer s H E0).nox (defBody st) { nx := fun _ H' => Q .non H', rt := Q } (start N [v]) H) : codeAny (model P w) A (.call (.ref f) ⟨[u], []⟩) (CR CX0 outer P w H s Q E0) s := by
  obtain ⟨a1, a2, a3, a4, a5, a6, cdv, a8, a9, rfl, lk, hcd⟩ := F.ex
  have kept : ∀ b o, base.get? b = some o → s.heap.get? b = some o := fun b o h => (e0.bs b o h).1
  refine Att.call_fn (e0.mod.kin.keeps kept) (e0.mod.nolimit.keeps kept) lk hcd hr.depth hb (by rw [List.all_cons, hk]; rfl) (fun s1 hc => ?_) S.co S.gen S.kind
  have J0 : Inv (cxOf CX0 P w K mg base N qual (defScope st) f cdv A outer s H E0) [] (start N [v]) H s1 := inv_start (us := [u]) S hr.hd e0 rfl (.cons ruv .nil) hc
  refine wpAny_mono (body cdv [] s1 (J0.wish _)) (fun fl s' hs => ?_) fun _ _ z => False.elim z
  cases fl with
  | next => obtain ⟨σ', H', J, q⟩ := hs; exact ⟨.non, H', J.os, J.bare, J.base, J.hok, rfl, q⟩
  | ret r => obtain ⟨z, σ', H', J, rz, q⟩ := hs; exact ⟨z, H', J.os, J.bare, J.base, J.hok, rz, q⟩
  | brk => obtain ⟨_, _, _, q⟩ := hs; cases q
  | cont => obtain ⟨_, _, _, q⟩ := hs; cases q
/-- nothing but the script is tracked -/
def Lone (H : Hp) (a : Addr) : Prop := ∀ b u, H b = some u → b = a ∧ ∃ ob xs, u = .frz ob (.lst xs)
theorem end_core {f a : Addr} {s : Shared} {vs : List Value} {H : Hp} (KX : K.In s.heap) (hg : s.heap.Ns mainGlobals mg) (hb : s.heap.Ns builtinsNs mb) (hbb : ∀ y : Str, y ≠ "__name__" → mb y = bootBuiltins y) (hl : s.heap.NoLimit) (gens : s.gens = #[])
    (ha : s.heap.get? a = some { cls := .type "list", data := .seq vs.toArray }) (hok : HOk P w H s.heap) (lone : Lone H a) (hK : H a ≠ none → K.lookup a = none)
    (run : ∀ base, K.In base → base.Ns mainGlobals mg → Env0 P w K mg base callerA [] s H → codeAny (model P w) callerA (.call (.ref f) ⟨[.ref a], []⟩) (CR CX0 [] P w H s (fun v _ => v = .bl true) E0) s) :
    codeAny (model P w) callerA (.call (.ref f) ⟨[.ref a], []⟩) (fun r s' => r = .ok (.ret (.bool true)) ∧ OldK s.heap s'.heap ∧ s'.os = s.os ∧ AllBare s'.gens) s := by
  have free : ∀ {b : Addr} {o : Obj} {es : Array DictEntry} {n : Nat}, s.heap.get? b = some o → o.data = .dict es n → H b = none := by
    intro b o es n h d
    rcases q : H b with _ | u
    · rfl
    · obtain ⟨rfl, _⟩ := lone b u q
      rw [ha] at h
      injection h with h
      rw [← h] at d
      injection d
  have names : ∀ {b : Addr} {m : Str → Option Value}, s.heap.Ns b m → (hidT s.heap H).Ns b m := by
    rintro b m ⟨o, es, n, h, d, rest⟩
    exact ⟨o, es, n, hidT_get h (free h d), d, rest⟩
  have kin : K.In (hidT s.heap H) := by
    intro b o h
    refine hidT_get (KX b o h) ?_
    rcases q : H b with _ | u
    · rfl
    · obtain ⟨rfl, _⟩ := lone b u q
      have z := hK (by rw [q]; exact fun z => by cases z)
      rw [z] at h
      cases h
  have mod : Mod K mg (hidT s.heap H) := ⟨kin, names hg, ⟨mb, names hb, hbb⟩, by obtain ⟨mc, h1, h2⟩ := hl; exact ⟨mc, names h1, h2⟩⟩
  have env : Env0 P w K mg (hidT s.heap H) callerA [] s H := ⟨rfl, mod, fun b o => of_hidT, Nat.le_of_eq (hidT_size s.heap H), trivial, (fun b z => by cases z), hok, AllBare.of_eq gens⟩
  refine codeAny_mono (run _ kin (names hg) env) fun r s' h => ?_
  match r, h with
  | .error e, h => exact False.elim h
  | .ok .next, h => exact False.elim h
  | .ok .brk, h => exact False.elim h
  | .ok .cont, h => exact False.elim h
  | .ok (.ret u), h =>
    obtain ⟨v, H', os, bare, un, hok', rv, rfl⟩ := h
    obtain rfl : u = Value.bool true := rv
    refine ⟨rfl, OldK.of_keep fun b o h => ?_, os, bare⟩
    rcases q : H b with _ | u
    · exact un.keep b o h q (fun z => by cases z) (fun z => by cases z)
    · obtain ⟨rfl, ob, xs, rfl⟩ := lone b u q
      have h1 := (hok _ _ q).1
      have h2 := (hok' _ _ (un.frzs _ _ _ q)).1
      rw [h] at h1
      injection h1 with h1
      rw [h1]
      exact h2
/-- the script, wherever it stands -/
theorem end_call {f a : Addr} {s : Shared} {vs : List Value} {ns : List Int} (KX : K.In s.heap) (hg : s.heap.Ns mainGlobals mg) (hb : s.heap.Ns builtinsNs mb) (hbb : ∀ y : Str, y ≠ "__name__" → mb y = bootBuiltins y) (hl : s.heap.NoLimit) (gens : s.gens = #[])
    (ha : s.heap.get? a = some { cls := .type "list", data := .seq vs.toArray }) (hi : IntsAre vs ns) (hz : ns.length ≤ sizeLine)
    (run : ∀ base H, K.In base → base.Ns mainGlobals mg → Env0 P w K mg base callerA [] s H → SqL K H a (ns.map V.int) → codeAny (model P w) callerA (.call (.ref f) ⟨[.ref a], []⟩) (CR CX0 [] P w H s (fun v _ => v = .bl true) E0) s) :
    codeAny (model P w) callerA (.call (.ref f) ⟨[.ref a], []⟩) (fun r s' => r = .ok (.ret (.bool true)) ∧ OldK s.heap s'.heap ∧ s'.os = s.os ∧ AllBare s'.gens) s := by
  have rel := vals_ints hi
  have len := hi.length
  rcases kl : K.lookup a with _ | o
  · let H : Hp := fun b => if b = a then some (.frz { cls := .type "list", data := .seq vs.toArray } (.lst (ns.map V.int))) else none
    have at1 : H a = some (.frz { cls := .type "list", data := .seq vs.toArray } (.lst (ns.map V.int))) := if_pos rfl
    have at2 : ∀ b u, H b = some u → b = a ∧ u = .frz { cls := .type "list", data := .seq vs.toArray } (.lst (ns.map V.int)) := fun b u h => by
      by_cases e : b = a
      · subst e; rw [at1] at h; injection h with h; exact ⟨rfl, h.symm⟩
      · have h' : (none : Option HO) = some u := (if_neg e).symm.trans h
        cases h'
    refine end_core (H := H) KX hg hb hbb hl gens ha (fun b u h => ?_) (fun b u h => ⟨(at2 b u h).1, _, _, (at2 b u h).2⟩) (fun _ => kl) fun base h1 h2 h3 => run base H h1 h2 h3 (.inl (.inr ⟨_, at1⟩))
    obtain ⟨rfl, rfl⟩ := at2 b u h
    exact ⟨ha, by rw [List.length_map]; exact hz, vs, _, rel, ha⟩
  · have e := KX a o kl
    rw [ha] at e
    injection e with e
    subst e
    refine end_core (H := fun _ => none) KX hg hb hbb hl gens ha (fun b u h => by cases h) (fun b u h => by cases h) (fun z => absurd rfl z) fun base h1 h2 h3 => run base _ h1 h2 h3 (.inr ⟨_, vs.toArray, _, kl, rfl, rfl, rfl, by rw [List.size_toArray, len]; exact hz, by simpa using rel⟩)
end
end Who

/-! Who: what may be shown; a comprehension over two lists at once; calls by keywords. -/
namespace Who
open PySem L2 PySem.Spec PyProof.Rows
/-- data that may be shown, of weight at most w, of depth at most n -/
structure PyOk (d : PyData) (w n : Nat) : Prop where
  s : d.showable = true
  h : d.hasDict = false
  l : d.leavesShort 13 = true
  w : d.weight ≤ w
  d : d.depth ≤ n
theorem ok_int {i : Int} (h : i.natAbs < 2 ^ 30) : PyOk (.int i) 31 1 := by
  have h1 : i.natAbs.log2 < 30 := by
    by_cases e : i.natAbs = 0
    · rw [e]; decide
    · exact (Nat.log2_lt e).mpr h
  refine ⟨?_, by simp [PyData.hasDict], ?_, ?_, by simp [PyData.depth]⟩
  · simp only [PyData.showable, decide_eq_true_eq]; omega
  · simp only [PyData.leavesShort, decide_eq_true_eq]
    exact PyData.shown_int_le (by omega)
  · simp only [PyData.weight]
    split <;> omega
theorem ok_none : PyOk .none 0 1 := ⟨by simp [PyData.showable], by simp [PyData.hasDict], by simp [PyData.leavesShort], by simp [PyData.weight], by simp [PyData.depth]⟩
theorem ok_all {w n : Nat} : ∀ {xs : List PyData}, (∀ x ∈ xs, PyOk x w n) → PyData.showableAll xs = true ∧ PyData.hasDictAll xs = false ∧ PyData.leavesShortAll 13 xs = true ∧ PyData.weightAll xs ≤ xs.length * (w + 1) ∧ PyData.depthAll xs ≤ n
  | [], _ => ⟨by simp [PyData.showableAll], by simp [PyData.hasDictAll], by simp [PyData.leavesShortAll], by simp [PyData.weightAll], by simp [PyData.depthAll]⟩
  | x :: xs, h => by
    obtain ⟨h1, h2, h3, h4, h5⟩ := ok_all fun y hy => h y (List.mem_cons_of_mem _ hy)
    have hx := h x List.mem_cons_self
    refine ⟨by rw [PyData.showableAll, hx.s, h1]; rfl, by rw [PyData.hasDictAll, hx.h, h2]; rfl, by rw [PyData.leavesShortAll, hx.l, h3]; rfl, ?_, by rw [PyData.depthAll]; exact Nat.max_le.mpr ⟨hx.d, h5⟩⟩
    rw [PyData.weightAll, List.length_cons, Nat.add_mul]
    have := hx.w
    omega
theorem ok_tup {w n : Nat} {xs : List PyData} (h : ∀ x ∈ xs, PyOk x w n) : PyOk (.tuple xs) (xs.length * (w + 1)) (n + 1) := by
  obtain ⟨h1, h2, h3, h4, h5⟩ := ok_all h
  exact ⟨by rw [PyData.showable]; exact h1, by rw [PyData.hasDict]; exact h2, by rw [PyData.leavesShort]; exact h3, by rw [PyData.weight]; exact h4, by rw [PyData.depth]; exact Nat.succ_le_succ h5⟩
theorem PyOk.le {d : PyData} {w n w' n' : Nat} (h : PyOk d w n) (h1 : w ≤ w') (h2 : n ≤ n') : PyOk d w' n' := ⟨h.s, h.h, h.l, Nat.le_trans h.w h1, Nat.le_trans h.d h2⟩
theorem ok_fate (n : Nat) : PyOk (.str (fateS n)) 100 1 := by
  have key : ∀ s : Str, (s = "in" ∨ s = "no" ∨ s = "join") → PyOk (.str s) 100 1 := by
    rintro s (rfl | rfl | rfl) <;> exact ⟨by rfl, by rfl, by decide +kernel, by decide +kernel, by decide⟩
  refine key _ ?_
  match n with
  | 0 => exact .inl rfl
  | 1 => exact .inr (.inl rfl)
  | n + 2 => exact .inr (.inr rfl)
section
variable {X : Cx} {e a c iter elt : PySem.Expr} {pos p p2 p3 p4 p5 : Pos} {σ : Stt} {B H : Hp} {d : PyData} {ds es : List PyData} {scope : Scope} {own : List (Str × Nat)} {g : TG}
theorem ev_repr [W : Wk X] {w n : Nat} (hg : X.A.guards = some []) (ok : PyOk d w n) (hw : w ≤ 2 ^ 20) (hn : n ≤ 60) (h : EV X e σ B d) (hgl : Gl X "repr" := by rfl) (he : starEach [e] X.env = (false, eval e X.env) :: starEach [] X.env := by rfl) : EV X (.Call (.Name "repr" p) [e] [] pos) σ B (.str d.shown) :=
  EV.by (pe_callB (cr_repr hg (un65 X)) hgl (nobx X _ (by decide)) boot_repr' (pa_cons pe_w pa_nil he) (by decide) (by decide) he) fun H1 z Q q => h H1 z _ fun v B2 H2 n2 dv =>
    ⟨v, d, rfl, dv.up n2.i, ok.s, ok.h, Nat.le_trans ok.d hn, PyData.shown_fits (by decide) (by decide) ok.l (Nat.le_trans ok.w hw), q _ B2 H2 n2 (.str _)⟩
/-- one turn, from a base that is told -/
theorem lcI_step {K : PySem.W.Frag} {σ : Stt} {B H1 H B2 : Hp} {D : Addr} {g : TG} {tt : TT} {te : TE} {vs : List Nat} {out : List PyData} {acc : List V} {x : V} {keep : Bool} {val : PyData} (n : Nxt B H1 B2 H) (b : B2 D = none) (hh : H D = some (.lst acc)) (dd : DpAll K B2 acc out) (hD : H1 D = none) (hz : out.length < 100000) (hB : LcT K g tt te vs σ B2 x keep val) {Nx : Hp → Prop}
    (hN : ∀ H', LcI K B H1 D (out ++ (if keep = true then [val] else [])) H' → Nx H') : g x (wipe σ vs) H fun σ2 H2 => wipe σ2 vs = wipe σ vs ∧ tt σ2 H2 fun b H3 =>
      if b = true then te σ2 H3 fun y H4 => ∃ acc, H4 D = some (.lst acc) ∧ acc.length < sizeLine ∧ Nx (upd H4 D (.lst (acc ++ [y]))) else Nx H3 := by
  obtain ⟨P, hg, hP⟩ := hB
  refine hg H n.i _ fun σ2 p => ?_
  obtain ⟨hw, ht, he⟩ := hP σ2 p
  refine ⟨hw, ht H n.i _ fun B3 H3 m => ?_⟩
  have b3 : B3 D = none := m.av D _ hh b
  have h3 : H3 D = some (.lst acc) := m.h D _ hh
  cases keep with
  | false => exact hN H3 ⟨B3, acc, n.trans m, b3, h3, by simpa using dd.up m.b⟩
  | true =>
    refine ((he rfl).mono m.b) H3 m.i _ fun y B4 H4 k p' => ?_
    have b4 : B4 D = none := k.av D _ h3 b3
    refine ⟨acc, k.h D _ h3, by rw [dd.len]; exact Nat.lt_of_lt_of_le hz (by decide), hN _ ⟨B4, acc ++ [y], ((n.trans m).trans k).put hD b4, b4, upd_same, ?_⟩⟩
    exact (dd.up (m.b.trans k.b)).app (.cons p' .nil)
/-- [elt for g in zip(a, c) if t] -/
theorem lc_zip {K : PySem.W.Frag} {a b : Addr} {xs ys : List V} {g : TG} {tt : TT} {te : TE} {vs : List Nat} {σ : L2.St} {H1 : Hp} {D : Addr} {Qd : Hp → Prop} (hl : xs.length = ys.length) (Pv : Nat → Hp → Prop) (h0 : Pv 0 (upd H1 D (.lst []))) (hq : ∀ i H, Pv i H → SqL K H a xs ∧ SqL K H b ys)
    (hs : ∀ i x y T H, xs[i]? = some x → ys[i]? = some y → Pv i H → H T = none → g (.ref T) (wipe σ vs) (upd H T (.tup [x, y])) fun σ2 H2 => wipe σ2 vs = wipe σ vs ∧ tt σ2 H2 fun b H3 =>
      if b = true then te σ2 H3 fun y H4 => ∃ acc, H4 D = some (.lst acc) ∧ acc.length < sizeLine ∧ Pv (i + 1) (upd H4 D (.lst (acc ++ [y]))) else Pv (i + 1) H3) (hd : ∀ H, Pv xs.length H → Qd H) :
    ∃ W : Nat → Nat → Hp → Prop, (∃ m, W 0 m (upd H1 D (.lst []))) ∧ ∀ i m H, W i m H →
      ((Itz K a b).stop i H ∧ Qd H) ∨ ((Itz K a b).go i H ∧ ∃ Nx : Hp → Prop, (∀ H', Nx H' → ∃ m', m' < m ∧ W (i + 1) m' H') ∧ ∀ x H', (Itz K a b).yld i H x H' → g x (wipe σ vs) H' fun σ2 H2 => wipe σ2 vs = wipe σ vs ∧ tt σ2 H2 fun b H3 =>
        if b = true then te σ2 H3 fun y H4 => ∃ acc, H4 D = some (.lst acc) ∧ acc.length < sizeLine ∧ Nx (upd H4 D (.lst (acc ++ [y]))) else Nx H3) := by
  refine ⟨fun i m H => m = xs.length - i ∧ i ≤ xs.length ∧ Pv i H, ⟨xs.length, rfl, Nat.zero_le _, h0⟩, ?_⟩
  rintro i m H ⟨rfl, hi, p⟩
  obtain ⟨qx, qy⟩ := hq i H p
  by_cases hlt : i < xs.length
  · have hlt2 : i < ys.length := by omega
    refine .inr ⟨⟨xs, ys, xs[i], ys[i], qx, qy, List.getElem?_eq_getElem hlt, List.getElem?_eq_getElem hlt2⟩, Pv (i + 1), fun H' p' => ⟨xs.length - (i + 1), by omega, rfl, hlt, p'⟩, fun v H' y => ?_⟩
    obtain ⟨T, x, y, rfl, hT, rfl, f1, f2⟩ := y
    exact hs i x y T H (f1 xs qx) (f2 ys qy) p hT
  · have e : i = xs.length := by omega
    subst e
    exact .inl ⟨⟨xs, ys, qx, qy, .inl (Nat.le_refl _)⟩, hd H p⟩
theorem ed_lcZ {e : PySem.Expr} (keep : PyData × PyData → Bool) (val : PyData × PyData → PyData) (ha : EV X a σ B (.list ds)) (hc : EV X c σ B (.list es)) (hl : ds.length = es.length) (hz : ds.length ≤ 100000)
    (ht : ∀ (x : V) (z : PyData × PyData) (B2 : Hp), z ∈ ds.zip es → Sub B B2 → Dp X.K B2 x (.tuple [z.1, z.2]) → ∃ P : Stt → Prop, GD g (wipe σ (own.map (·.2))) B2 x P ∧ ∀ σ2, P σ2 → wipe σ2 (own.map (·.2)) = wipe σ (own.map (·.2)) ∧ TVb X scope e σ2 B2 (keep z) ∧ (keep z = true → EVb X scope elt σ2 B2 (val z))) :
    ED X.K (tLc (RZ.iZipA X.K (tCons (wE X a) (tCons (wE X c) tNil))) g (mT X scope e) (mE X scope elt) (own.map (·.2))) σ B (.list (((ds.zip es).filter keep).map val)) := fun H1 z Q q =>
  ha H1 z _ fun v B2 H2 n p => (hc.mono n.b) H2 n.i _ fun u B3 H3 n3 p3 => by
    obtain ⟨a1, xs, rfl, hl1, hx⟩ := (p.up n3.b).lst_inv
    obtain ⟨b1, ys, rfl, hl2, hy⟩ := p3.lst_inv
    have l1 := hx.len
    have l2 := hy.len
    have nn := n.trans n3
    refine ⟨a1, b1, xs, ys, rfl, .inl ⟨sub_l n3.i hl1, sub_l n3.i hl2, fun D hD => lc_zip (K := X.K) (xs := xs) (ys := ys) (by omega) (fun i H => LcI X.K B3 H3 D ((((ds.zip es).take i).filter keep).map val) H) (by simpa using lcI_start n3.i hD) (fun i H ⟨B4, _, m4, _⟩ => ⟨sub_l (m4.b.trans m4.i) hl1, sub_l (m4.b.trans m4.i) hl2⟩) ?_ ?_⟩⟩
    · intro i x y T H hx' hy' h hT
      obtain ⟨dx, hdx, px⟩ := hx.at' hx'
      obtain ⟨dy, hdy, py⟩ := hy.at' hy'
      have hi : i < ds.length := (List.getElem?_eq_some_iff.mp hdx).1
      have hzi : (ds.zip es)[i]? = some (dx, dy) := by
        rw [List.getElem?_zip_eq_some]
        exact ⟨hdx, hdy⟩
      -- the pair is laid
      obtain ⟨B4, acc, m4, bD, hD4, dd⟩ := h
      have nt := Nxt.new (o := .tup [x, y]) m4.i hT
      have hne : T ≠ D := fun e => by subst e; rw [hD4] at hT; cases hT
      have dT : Dp X.K (upd B4 T (.tup [x, y])) (.ref T) (.tuple [dx, dy]) := dpT upd_same (.cons ((px.up m4.b).up nt.b) (.cons ((py.up m4.b).up nt.b) .nil))
      obtain ⟨P, hP, hw⟩ := ht (.ref T) (dx, dy) _ (List.mem_of_getElem? hzi) ((nn.b.trans m4.b).trans nt.b) dT
      refine lcI_step (keep := keep (dx, dy)) (val := val (dx, dy)) (m4.trans nt) (by rw [upd_ne hne.symm]; exact bD) (by rw [upd_ne hne.symm]; exact hD4) (dd.up nt.b) hD ?_ ⟨P, hP, fun σ2 p => ⟨(hw σ2 p).1, (hw σ2 p).2.1.et, fun k => ((hw σ2 p).2.2 k).ed⟩⟩ (fun H' h'' => ?_)
      · have := List.length_filter_le keep ((ds.zip es).take i)
        rw [List.length_map]
        have h8 : ((ds.zip es).take i).length ≤ i := by rw [List.length_take]; omega
        omega
      · have e1 : (ds.zip es).take (i + 1) = (ds.zip es).take i ++ [(dx, dy)] := by rw [List.take_add_one, hzi]; rfl
        show LcI X.K B3 H3 D ((((ds.zip es).take (i + 1)).filter keep).map val) H'
        rw [e1, List.filter_append, List.map_append]
        by_cases k : keep (dx, dy) = true
        · rw [if_pos k] at h''
          simpa [k] using h''
        · rw [if_neg k] at h''
          simpa [k] using h''
    · intro H h
      have e1 : (ds.zip es).take xs.length = ds.zip es := List.take_of_length_le (by rw [List.length_zip]; omega)
      rw [e1] at h
      exact lcI_end hD h fun w B4 H4 m p' => q w B4 H4 (nn.trans m) p'
theorem ev_lcZ [W : Wk X] {m : Nat} {x1 x2 : PySem.Expr} (keep : PyData × PyData → Bool) (val : PyData × PyData → PyData) (ok : BlkOk X.N X.env.scope scope own) (hg : PGb X scope (.Tuple [x1, x2] m p4) g) (ha : EV X a σ B (.list ds)) (hc : EV X c σ B (.list es)) (hl : ds.length = es.length) (hz : ds.length ≤ 100000)
    (ht : ∀ (x : V) (z : PyData × PyData) (B2 : Hp), z ∈ ds.zip es → Sub B B2 → Dp X.K B2 x (.tuple [z.1, z.2]) → ∃ P : Stt → Prop, GD g (wipe σ (own.map (·.2))) B2 x P ∧ ∀ σ2, P σ2 → wipe σ2 (own.map (·.2)) = wipe σ (own.map (·.2)) ∧ TVb X scope e σ2 B2 (keep z) ∧ (keep z = true → EVb X scope elt σ2 B2 (val z))) (hgl : Gl X "zip" := by rfl)
    (hs : starEach [a, c] X.env = (false, eval a X.env) :: starEach [c] X.env := by rfl) (hs2 : starEach [c] X.env = (false, eval c X.env) :: starEach [] X.env := by rfl) (hpl : (backTo p2 (starEach [c] X.env)).any (·.1) = false := by rfl) (hf : ∀ x, foldedSetIterable (.Call (.Name "zip" p) [a, c] [] p2) X.env x = pure x := by intro _; rfl) :
    EV X (.ListComp elt [⟨.Tuple [x1, x2] m p4, .Call (.Name "zip" p) [a, c] [] p2, [e], 0⟩] scope pos) σ B (.list (((ds.zip es).filter keep).map val)) :=
  EV.by (pe_lc W.calm W.nd (RZ.pi_zipA hgl (nobx X _ (by decide)) (pa_cons pe_w (pa_cons pe_w pa_nil hs2) hs) hs hpl) ok hg (fun _ _ _ _ _ => pts_one (pt_m _ _ _ _ _)) pe_m hf) (ed_lcZ keep val ha hc hl hz ht)
/-- name = [elt for tg in a list] -/
theorem s_setLcL [W : Wk X] {D : Ends} {tg : PySem.Expr} (n : Nat) {y : Str} (val : PyData → PyData) (ok : BlkOk X.N X.env.scope scope own) (hg : PGb X scope tg g) (s : Sub B H) (hs : EV X iter σ B (.list ds)) (hz : ds.length ≤ 100000)
    (ht : ∀ x d B2, d ∈ ds → Sub B B2 → Dp X.K B2 x d → ∃ P : Stt → Prop, GD g (wipe σ (own.map (·.2))) B2 x P ∧ ∀ σ2, P σ2 → wipe σ2 (own.map (·.2)) = wipe σ (own.map (·.2)) ∧ EVb X scope elt σ2 B2 (val d)) (q : ∀ v B2 H2, Nxt B H B2 H2 → Dp X.K B2 v (.list (ds.map val)) → D.nx (σ.set n (some v)) H2)
    (hy : X.N[n]? = some y := by rfl) (hyl : X.env.scope.names.lookup y = some .local := by rfl) (hk : X.env.scope.kind = .function := by rfl) (hl : (p.line == p2.line) = true := by rfl) (ha : (scope.names.any fun (n, k) => n == y && (k == .local || k == .cell)) = false := by rfl) (hf : ∀ x, foldedSetIterable iter X.env x = pure x := by intro _; rfl) :
    wS X (.Assign [.Name y p] (.ListComp elt [⟨tg, iter, [], 0⟩] scope p2) p3) D σ H := le_S (ps_setLc W.calm W.nd hy hyl (sw_true hk hyl hl ha) (pi_list pe_w) ok hg (fun _ _ _ _ _ => pts_nil) pe_m hf) ((ed_lc (fun _ => true) val hs hz fun x d B2 h1 h2 h3 => by
  obtain ⟨P, hP, hw⟩ := ht x d B2 h1 h2 h3
  exact ⟨P, hP, fun σ2 p => ⟨(hw σ2 p).1, et_yes, fun _ => (hw σ2 p).2.ed⟩⟩) H s _ fun v B2 H2 n2 dv => q v B2 H2 n2 (by rw [kept_all] at dv; exact dv))
/-- name = [elt for x, y in zip(a, c) if e] -/
theorem s_setLcZ [W : Wk X] {D : Ends} {m : Nat} {x1 x2 : PySem.Expr} {p6 p7 : Pos} (n : Nat) {y : Str} (keep : PyData × PyData → Bool) (val : PyData × PyData → PyData) (ok : BlkOk X.N X.env.scope scope own) (hg : PGb X scope (.Tuple [x1, x2] m p4) g) (s : Sub B H) (ha : EV X a σ B (.list ds)) (hc : EV X c σ B (.list es)) (hl : ds.length = es.length) (hz : ds.length ≤ 100000)
    (ht : ∀ (x : V) (z : PyData × PyData) (B2 : Hp), z ∈ ds.zip es → Sub B B2 → Dp X.K B2 x (.tuple [z.1, z.2]) → ∃ P : Stt → Prop, GD g (wipe σ (own.map (·.2))) B2 x P ∧ ∀ σ2, P σ2 → wipe σ2 (own.map (·.2)) = wipe σ (own.map (·.2)) ∧ TVb X scope e σ2 B2 (keep z) ∧ (keep z = true → EVb X scope elt σ2 B2 (val z))) (q : ∀ v B2 H2, Nxt B H B2 H2 → Dp X.K B2 v (.list (((ds.zip es).filter keep).map val)) → D.nx (σ.set n (some v)) H2)
    (hy : X.N[n]? = some y := by rfl) (hyl : X.env.scope.names.lookup y = some .local := by rfl) (hk : X.env.scope.kind = .function := by rfl) (hlp : (p6.line == pos.line) = true := by rfl) (hay : (scope.names.any fun (n, k) => n == y && (k == .local || k == .cell)) = false := by rfl) (hgl : Gl X "zip" := by rfl)
    (hs : starEach [a, c] X.env = (false, eval a X.env) :: starEach [c] X.env := by rfl) (hs2 : starEach [c] X.env = (false, eval c X.env) :: starEach [] X.env := by rfl) (hpl : (backTo p2 (starEach [c] X.env)).any (·.1) = false := by rfl) (hf : ∀ x, foldedSetIterable (.Call (.Name "zip" p) [a, c] [] p2) X.env x = pure x := by intro _; rfl) :
    wS X (.Assign [.Name y p6] (.ListComp elt [⟨.Tuple [x1, x2] m p4, .Call (.Name "zip" p) [a, c] [] p2, [e], 0⟩] scope pos) p7) D σ H := le_S (ps_setLc W.calm W.nd hy hyl (sw_true hk hyl hlp hay) (RZ.pi_zipA hgl (nobx X _ (by decide)) (pa_cons pe_w (pa_cons pe_w pa_nil hs2) hs) hs hpl) ok hg (fun _ _ _ _ _ => pts_one (pt_m _ _ _ _ _)) pe_m hf) ((ed_lcZ keep val ha hc hl hz ht) H s _ q)
end
end Who

namespace Who
open PySem L2 PySem.Spec PyProof.Rows
/-! ### the names that are drawn -/
theorem names_asc {n : Nat} {wide step : Int} (hw : 1 ≤ wide) (hs : 1 ≤ step) : Asc (namesL n wide step) := by
  unfold Asc namesL
  rw [List.pairwise_map]
  refine List.Pairwise.imp (fun {i j} hij => ?_) (List.pairwise_lt_range (n := n))
  unfold nmLt nameAt
  show (if (i : Int) / wide = (j : Int) / wide then decide (step * ((i : Int) - (i : Int) / wide * wide) < step * ((j : Int) - (j : Int) / wide * wide)) else decide ((i : Int) / wide < (j : Int) / wide)) = true
  have hij' : (i : Int) < j := by omega
  by_cases e : (i : Int) / wide = (j : Int) / wide
  · rw [if_pos e, e]
    refine decide_eq_true ?_
    exact Int.mul_lt_mul_of_pos_left (by omega) (by omega)
  · rw [if_neg e]
    have h1 : (i : Int) / wide ≤ (j : Int) / wide := Int.ediv_le_ediv (by omega) (by omega)
    exact decide_eq_true (by omega)
theorem names_len (n : Nat) (wide step : Int) : (namesL n wide step).length = n := by unfold namesL; rw [List.length_map, List.length_range]
def SmallN (ns : List Nm) : Prop := ∀ p ∈ ns, 0 ≤ p.1 ∧ p.1 ≤ 1000 ∧ 0 ≤ p.2 ∧ p.2 ≤ 1000
theorem names_small {n : Nat} {wide step : Int} (hn : n ≤ 100) (hw : 1 ≤ wide) (hs : 1 ≤ step) (h3 : step ≤ 3) : SmallN (namesL n wide step) := fun p hp => by
  obtain ⟨k, hk, rfl⟩ := List.mem_map.mp hp
  have hk' := List.mem_range.mp hk
  have q1 : (0 : Int) ≤ (k : Int) / wide := Int.ediv_nonneg (by omega) (by omega)
  have q2 : (k : Int) / wide ≤ k := Int.ediv_le_self _ (by omega)
  have q3 : (0 : Int) ≤ (k : Int) % wide := Int.emod_nonneg _ (by omega)
  have q4 : (k : Int) % wide ≤ k := by
    have h1 := Int.mul_ediv_add_emod (k : Int) wide
    have h2 := Int.mul_nonneg (show 0 ≤ wide by omega) q1
    omega
  have q5 : (k : Int) - (k : Int) / wide * wide = (k : Int) % wide := by
    have := Int.mul_ediv_add_emod (k : Int) wide
    rw [Int.mul_comm] at this
    omega
  show 0 ≤ (k : Int) / wide ∧ (k : Int) / wide ≤ 1000 ∧ 0 ≤ step * ((k : Int) - (k : Int) / wide * wide) ∧ step * ((k : Int) - (k : Int) / wide * wide) ≤ 1000
  rw [q5]
  refine ⟨q1, by omega, Int.mul_nonneg (by omega) q3, ?_⟩
  have : step * ((k : Int) % wide) ≤ 3 * ((k : Int) % wide) := Int.mul_le_mul_of_nonneg_right h3 q3
  omega
/-! ### forms -/
theorem paired_map {α β : Type} {F : β → α → Prop} {f : α → β} : ∀ {ls : List α}, (∀ l ∈ ls, F (f l) l) → Paired F (ls.map f) ls
  | [], _ => .nil
  | l :: ls, h => .cons (h l List.mem_cons_self) (paired_map fun x hx => h x (List.mem_cons_of_mem _ hx))
def lsD (p : Nm) : PyData := .list [.int p.1, .int p.2]
theorem nmF_t {ns : List Nm} (hs : SmallN ns) {p : Nm} (h : p ∈ ns) : NmF (nmD p) p := ⟨rfl, (hs p h).1, (hs p h).2.2.1⟩
theorem nmF_l {ns : List Nm} (hs : SmallN ns) {p : Nm} (h : p ∈ ns) : NmF (lsD p) p := ⟨rfl, (hs p h).1, (hs p h).2.2.1⟩
/-- what is known of drawn links and bars -/
structure Drawn (ns : List Nm) (ls : List Lk) (bs : List (Nm × Nm)) : Prop where
  asc : Asc ns
  sm : SmallN ns
  nl : ns.length ≤ 100
  li : ∀ l ∈ ls, l.2.1 ∈ ns ∧ l.2.2 ∈ ns ∧ nmLt l.2.1 l.2.2 = true ∧ -1000000 ≤ l.1 ∧ l.1 ≤ 1000000
  ld : (ls.map (·.2)).Nodup
  ll : ls.length ≤ 200
  bi : ∀ b ∈ bs, b.1 ∈ ns ∧ b.2 ∈ ns ∧ nmLt b.1 b.2 = true
  bd : bs.Nodup
  bl : bs.length ≤ 20
theorem nA_mem {ns : List Nm} {i : Nat} (h : i < ns.length) : nA ns i ∈ ns := by unfold nA; rw [show ns.getD i (0, 0) = ns[i] by simp [h]]; exact List.getElem_mem h
theorem nA_lt {ns : List Nm} (hA : Asc ns) {i j : Nat} (hij : i < j) (h : j < ns.length) : nmLt (nA ns i) (nA ns j) = true := by
  unfold nA
  rw [show ns.getD i (0, 0) = ns[i] by simp [show i < ns.length by omega], show ns.getD j (0, 0) = ns[j] by simp [h]]
  exact List.pairwise_iff_getElem.mp hA i j (by omega) h hij
theorem drawn_of {ns : List Nm} {L : List Li} {bs : List (Nat × Nat)} (hA : Asc ns) (hs : SmallN ns) (hn : ns.length ≤ 100) (hL : OkL ns.length L) (hB : OkB ns.length bs) : Drawn ns (L.map (lkI ns)) (bs.map (prI ns)) := by
  refine ⟨hA, hs, hn, fun l hl => ?_, ?_, by rw [List.length_map]; exact hL.len, fun b hb => ?_, ?_, by rw [List.length_map]; exact hB.len⟩
  · obtain ⟨z, hz, rfl⟩ := List.mem_map.mp hl
    obtain ⟨h1, h2, h3, h4⟩ := hL.i z hz
    exact ⟨nA_mem (by omega), nA_mem h2, nA_lt hA h1 h2, h3, h4⟩
  · rw [List.map_map]
    have e : L.map ((fun x : Lk => x.2) ∘ lkI ns) = (L.map (·.2)).map (prI ns) := by rw [List.map_map]; rfl
    rw [e]
    refine nodup_map_on (fun x hx y hy exy => ?_) hL.nd
    obtain ⟨z, hz, rfl⟩ := List.mem_map.mp hx
    obtain ⟨u, hu, rfl⟩ := List.mem_map.mp hy
    obtain ⟨h1, h2, _⟩ := hL.i z hz
    obtain ⟨g1, g2, _⟩ := hL.i u hu
    have e1 := nA_inj hA.nodup (by omega) (by omega) (congrArg Prod.fst exy)
    have e2 := nA_inj hA.nodup h2 g2 (congrArg Prod.snd exy)
    exact Prod.ext e1 e2
  · obtain ⟨z, hz, rfl⟩ := List.mem_map.mp hb
    obtain ⟨h1, h2⟩ := hB.i z hz
    exact ⟨nA_mem (by omega), nA_mem h2, nA_lt hA h1 h2⟩
  · refine nodup_map_on (fun z hz u hu exy => ?_) hB.nd
    obtain ⟨h1, h2⟩ := hB.i z hz
    obtain ⟨g1, g2⟩ := hB.i u hu
    have e1 := nA_inj hA.nodup (by omega) (by omega) (congrArg Prod.fst exy)
    have e2 := nA_inj hA.nodup h2 g2 (congrArg Prod.snd exy)
    exact Prod.ext e1 e2
where
  nodup_map_on {α β : Type} {f : α → β} : ∀ {xs : List α}, (∀ x ∈ xs, ∀ y ∈ xs, f x = f y → x = y) → xs.Nodup → (xs.map f).Nodup
    | [], _, _ => List.nodup_nil
    | x :: xs, h, nd => by
      rw [List.nodup_cons] at nd
      rw [List.map_cons, List.nodup_cons]
      refine ⟨fun z => ?_, nodup_map_on (fun a ha b hb => h a (List.mem_cons_of_mem _ ha) b (List.mem_cons_of_mem _ hb)) nd.2⟩
      obtain ⟨y, hy, e⟩ := List.mem_map.mp z
      have := h y (List.mem_cons_of_mem _ hy) x List.mem_cons_self e
      exact nd.1 (this ▸ hy)
section
variable {ns : List Nm} {ls : List Lk} {bs : List (Nm × Nm)} (D : Drawn ns ls bs)
include D
theorem Drawn.nmsT {d : PyData} (hi : items d = some (ns.map nmD)) : NmsF d ns := ⟨_, hi, paired_map fun p hp => nmF_t D.sm hp, D.asc, by have := D.nl; omega⟩
theorem Drawn.nmsL {d : PyData} (hi : items d = some (ns.map lsD)) : NmsF d ns := ⟨_, hi, paired_map fun p hp => nmF_l D.sm hp, D.asc, by have := D.nl; omega⟩
theorem Drawn.lksT {d : PyData} (hi : items d = some (ls.map lkD)) : LksF ns d ls := ⟨_, hi, paired_map fun l hl => by
  obtain ⟨h1, h2, h3, _⟩ := D.li l hl
  exact ⟨nmD l.2.1, nmD l.2.2, rfl, nmF_t D.sm h1, nmF_t D.sm h2, h1, h2, h3⟩, D.ld, by have := D.ll; omega⟩
theorem Drawn.lksG {d : PyData} (hi : items d = some (ls.map fun l => .list [.int l.1, lsD l.2.1, nmD l.2.2])) : LksF ns d ls := ⟨_, hi, paired_map fun l hl => by
  obtain ⟨h1, h2, h3, _⟩ := D.li l hl
  exact ⟨lsD l.2.1, nmD l.2.2, rfl, nmF_l D.sm h1, nmF_t D.sm h2, h1, h2, h3⟩, D.ld, by have := D.ll; omega⟩
theorem Drawn.brsT {d : PyData} (hi : items d = some (bs.map prD)) : BrsF ns d bs := ⟨_, hi, paired_map fun l hl => by
  obtain ⟨h1, h2, h3⟩ := D.bi l hl
  exact ⟨nmD l.1, nmD l.2, rfl, nmF_t D.sm h1, nmF_t D.sm h2, h1, h2, h3⟩, D.bd, by have := D.bl; omega⟩
theorem Drawn.brsL {d : PyData} (hi : items d = some (bs.map fun l => .list [nmD l.1, nmD l.2])) : BrsF ns d bs := ⟨_, hi, paired_map fun l hl => by
  obtain ⟨h1, h2, h3⟩ := D.bi l hl
  exact ⟨nmD l.1, nmD l.2, rfl, nmF_t D.sm h1, nmF_t D.sm h2, h1, h2, h3⟩, D.bd, by have := D.bl; omega⟩
theorem Drawn.rev : Drawn ns ls bs.reverse := ⟨D.asc, D.sm, D.nl, D.li, D.ld, D.ll, fun b hb => D.bi b (List.mem_reverse.mp hb), List.pairwise_reverse.mpr (D.bd.imp fun h e => h e.symm), by rw [List.length_reverse]; exact D.bl⟩
theorem Drawn.inl : InL ns (srtL ls) := fun l hl => let h := D.li l (mem_srtL.mp hl); ⟨h.1, h.2.1⟩
theorem Drawn.inb : InB ns bs := fun b hb => let h := D.bi b hb; ⟨h.1, h.2.1⟩
theorem Drawn.ok_nm {p : Nm} (h : p ∈ ns) : PyOk (nmD p) 64 2 := by
  obtain ⟨h1, h2, h3, h4⟩ := D.sm p h
  exact ok_tup (xs := [.int p.1, .int p.2]) fun x hx => by
    rcases List.mem_cons.mp hx with e | hx
    · rw [e]; exact ok_int (by omega)
    · rw [List.mem_singleton.mp hx]; exact ok_int (by omega)
theorem Drawn.ok_ls : PyOk (lnD (srtL ls)) 40000 4 := by
  refine PyOk.le (ok_tup (w := 195) (n := 3) fun x hx => ?_) ?_ (Nat.le_refl _)
  · obtain ⟨l, hl, rfl⟩ := List.mem_map.mp hx
    obtain ⟨h1, h2, h3, h4, h5⟩ := D.li l (mem_srtL.mp hl)
    exact ok_tup (w := 64) (n := 2) (xs := [.int l.1, nmD l.2.1, nmD l.2.2]) fun x hx => by
      rcases List.mem_cons.mp hx with e | hx
      · rw [e]; exact (ok_int (by omega)).le (by decide) (by decide)
      · rcases List.mem_cons.mp hx with e | hx
        · rw [e]; exact D.ok_nm h1
        · rw [List.mem_singleton.mp hx]; exact D.ok_nm h2
  · rw [List.length_map]
    have := (List.mergeSort_perm ls leL).length_eq
    have e : (srtL ls).length = ls.length := this
    have := D.ll
    omega
theorem Drawn.ok_fs (fs : List Nat) (h : fs.length ≤ 200) : PyOk (.tuple (fsD fs)) 30000 2 := by
  refine PyOk.le (ok_tup (w := 100) (n := 1) fun x hx => ?_) ?_ (Nat.le_refl _)
  · obtain ⟨n, _, rfl⟩ := List.mem_map.mp hx
    exact ok_fate n
  · unfold fsD; rw [List.length_map]; omega
theorem Drawn.ok_parts (lab : Nm → Int) : PyOk (partsD ns lab) 700000 4 := by
  have e1 : (((firsts lab ns).map fun m => grpD (rowL lab ns m)).mergeSort (keyLe id)).length = (firsts lab ns).length := by rw [List.length_mergeSort, List.length_map]
  have e2 := firsts_len lab ns
  have e3 := D.nl
  refine PyOk.le (ok_tup (w := 6500) (n := 3) fun x hx => ?_) (by rw [e1]; omega) (Nat.le_refl _)
  have hx' := (List.mergeSort_perm _ _).mem_iff.mp hx
  obtain ⟨m, _, rfl⟩ := List.mem_map.mp hx'
  have hl : (rowL lab ns m).length ≤ ns.length := List.length_filter_le _ _
  refine PyOk.le (ok_tup (w := 64) (n := 2) fun x hx => ?_) (by rw [List.length_map]; omega) (Nat.le_refl _)
  obtain ⟨p, hp, rfl⟩ := List.mem_map.mp hx
  exact D.ok_nm (List.mem_filter.mp hp).1
end
/-! ### calls by keywords -/
structure DfnK (P : Program) (w : World) (K : PySem.W.Frag) (mg : Str → Option Value) (base : Heap) (k : Nat) (x : Str) (ps ks : List Str) (gV : List V → List V) (sp : Sp) : Prop where
  ex : ∃ f fd g, FnOk P w K mg base CX0 k f fd ps sp ∧ mg x = some (.ref f) ∧ PySem.W.keepIn K (.ref f) = true ∧ KBind0 fd ps ks g gV
section
variable {X : Cx} {pos p : Pos} {σ : Stt} {B : Hp} {ds es : List PyData} {f : PyData} {kws : List Keyword} {ks : List Str} {gV : List V → List V}
theorem ev_kw {k j : Nat} {x : Str} {ps : List Str} {R : List PyData → PyData → Prop} (F : DfnK X.prog X.w X.K X.mg X.base j x ps ks gV (spR X.K R)) (hr : Room k X.A) (hR : R es f) (ha : KV' X kws σ B ds) (hgV : ∀ B vs, DpAll X.K B vs ds → DpAll X.K B (gV vs) es) (hj : j ≤ k := by decide) (hg : Gl X x := by rfl)
    (hall : (backToKw pos (keywordEach kws X.env)).all (·.1.isSome) = true := by rfl) (hks : (backToKw pos (keywordEach kws X.env)).filterMap (·.1) = ks := by rfl) (hdb : (x == ("__debug__" : Str)) = false := by decide)
    (hpl : ((backTo pos (starEach [] X.env)).any (·.1) || (backToKw pos (keywordEach kws X.env)).any (·.1.isNone)) = false := by rfl) : EV X (.Call (.Name x p) [] kws pos) σ B f := by
  obtain ⟨fa, fd, g, G, hm, hk, hb⟩ := F.ex
  exact EV.by (pe_callK0 G (hr.mono hj) hg hm hk hb pass0 pk_w hall hks hdb hpl) fun H1 z Q q => ha H1 z _ fun vs B2 H2 n dd => ⟨B2, es, f, n.i, hgV B2 vs dd, hR, fun v B3 H3 n3 dv => q v B3 H3 (n.trans n3) dv⟩
end
/-! ### labels as a value -/
def GV (X : Cx) (e : PySem.Expr) (σ : Stt) (B : Hp) (ns : List Nm) (lab : Nm → Int) : Prop := ∀ B1 H1, Sub B B1 → Sub B1 H1 → ∀ Q : VK, (∀ d B2 H2, Nxt B1 H1 B2 H2 → FGi X.prog X.w X.K B2 d ns lab → Q (.ref d) H2) → wE X e σ H1 Q
section
variable {X : Cx} {e a b c : PySem.Expr} {pos p p2 p3 p4 : Pos} {σ : Stt} {B : Hp} {m : Addr} {ns : List Nm} {lab : Nm → Int} {ls : List Lk} {bs : List (Nm × Nm)}
theorem gv_var (n : Nat) {x : Str} (F : FGi X.prog X.w X.K B m ns lab) (h0 : σ[n]? = some (some (.ref m)) := by rfl) (hN : X.N[n]? = some x := by rfl) (hv : Vis X.env.scope x := by first | exact Or.inl rfl | exact Or.inr (Or.inl rfl) | exact Or.inr (Or.inr rfl))
    (hd : (x == ("__debug__" : Str)) = false := by decide) (hcd : (x == ("__classdict__" : Str)) = false := by decide) : GV X (.Name x pos) σ B ns lab := fun B1 H1 s1 s2 Q q => le_E (pe_var hN hv hd hcd) ⟨_, h0, q m B1 H1 (Nxt.refl s2) (F.up s1)⟩
/-- _law_rule(..)[1] -/
theorem gv_rule {k kk : Nat} (F : Dfn X.prog X.w X.K X.mg X.base 1 "_law_rule" ["names", "links", "bars"] (sp41 X.prog X.w X.K)) (hr : Room k X.A) (h : AV X [a, b, c] σ B [.list (ns.map nmD), .list (ls.map lkD), .list (bs.map prD)]) (inl : InL ns ls) (inb : InB ns bs) (zl : ls.length ≤ 1000) (zb : bs.length ≤ 1000) (nd : ns.Nodup) (zn : ns.length ≤ 1000) (hj : 1 ≤ k := by decide) (hg : Gl X "_law_rule" := by rfl)
    (he : starEach [a, b, c] X.env = (false, eval a X.env) :: starEach [b, c] X.env := by rfl) (hpl : (backTo p2 (starEach [b, c] X.env)).any (·.1) = false := by rfl) (hs : PlainIx (.Constant (.int 1) kk p3) := by intro _ _; rfl) :
    GV X (.Subscript (.Call (.Name "_law_rule" p) [a, b, c] [] p2) (.Constant (.int 1) kk p3) pos) σ B ns (labsI bs ls (lab0 ns)) := fun B1 H1 s1 s2 Q q => by
  refine w_ix (w_call F hr s2 (EA.mono h s1) (fun vs B2 H2 n dd => ?_) hj hg (by decide) he hpl) hs
  obtain ⟨v1, v2, v3, rfl, d1, d2, d3⟩ := dp3 dd
  exact ⟨B2, v1, v2, v3, ns, ls, bs, rfl, n.i, d1, d2, d3, inl, inb, zl, zb, nd, zn, fun t x d y B3 H3 n3 ht _ hG _ => ⟨t, _, .ref d, rfl, SqT.of (n3.i t _ ht), rfl, q d B3 H3 (n.trans n3) hG⟩⟩
theorem ev_parts {k : Nat} (F : Dfn X.prog X.w X.K X.mg X.base 1 "_law_parts" ["names", "groups"] (sp42 X.prog X.w X.K)) (hr : Room k X.A) (ha : EV X a σ B (.list (ns.map nmD))) (hb : GV X b σ B ns lab) (zn : ns.length ≤ 1000) (hj : 1 ≤ k := by decide) (hg : Gl X "_law_parts" := by rfl)
    (he : starEach [a, b] X.env = (false, eval a X.env) :: starEach [b] X.env := by rfl) (he2 : starEach [b] X.env = (false, eval b X.env) :: starEach [] X.env := by rfl) (hpl : (backTo pos (starEach [b] X.env)).any (·.1) = false := by rfl) : EV X (.Call (.Name "_law_parts" p) [a, b] [] pos) σ B (partsD ns lab) := fun H1 z Q q => by
  obtain ⟨fa, fd, G, hm, hk, hbd⟩ := F.ex
  exact le_E (pe_call G (hr.mono hj) hg hm hk hbd .nil pass0 (pa_cons pe_w (pa_cons pe_w pa_nil he2) he) (by decide) he hpl) (ha H1 z _ fun v B2 H2 n dv => hb B2 H2 n.b n.i _ fun d B3 H3 n3 FG => ⟨B3, v, d, ns, lab, rfl, n3.i, dv.up n3.b, FG, zn, fun u B4 H4 n4 du => q u B4 H4 ((n.trans n3).trans n4) du⟩)
end
end Who

namespace Who
open PySem L2 PySem.Spec PyProof.Rows
section
variable {X : Cx} {a b c e : PySem.Expr} {pos p p2 p3 p4 p5 p6 : Pos} {σ : Stt} {B H : Hp} {d d2 : PyData} {m : Addr} {sa : List Stmt} {ds es : List PyData}
/-- if repr(a) != repr(b): .., where both are the same -/
theorem s_check [W : Wk X] {w n : Nat} {D : Ends} (hg : X.A.guards = some []) (ok : PyOk d w n) (hw : w ≤ 2 ^ 20) (hn : n ≤ 60) (s : Sub B H) (ha : EV X a σ B d2) (hb : EV X b σ B d) (e : d2 = d) (q : ∀ B2 H2, Nxt B H B2 H2 → D.nx σ H2) (hgl : Gl X "repr" := by rfl) (h1 : starEach [a] X.env = (false, eval a X.env) :: starEach [] X.env := by rfl) (h2 : starEach [b] X.env = (false, eval b X.env) :: starEach [] X.env := by rfl) :
    wS X (.If (.Compare (.Call (.Name "repr" p) [a] [] p2) [.NotEq] [.Call (.Name "repr" p3) [b] [] p4] p5) sa [] pos) D σ H := by
  subst e
  refine s_if s (tv_neS (ev_repr hg ok hw hn ha hgl h1) (ev_repr hg ok hw hn hb hgl h2)) (fun B2 H2 n hk => ?_) fun B2 H2 n _ => ss_nil (q B2 H2 n)
  rw [decide_eq_true rfl] at hk
  exact absurd hk Bool.false_ne_true
/-- f(x, e), x a box, e any expression -/
theorem w_callB {k j : Nat} {x y : Str} {ps : List Str} {sp : Sp} {Q : VK} (n : Nat) (F : Dfn X.prog X.w X.K X.mg X.base j x ps sp) (hr : Room k X.A) (h : wE X e σ H fun v H1 => sp [.ref m, v] H1 Q E0) (hj : j ≤ k := by decide) (hg : Gl X x := by rfl) (hdb : (x == ("__debug__" : Str)) = false := by decide)
    (h0 : σ[n]? = some (some (.ref m)) := by rfl) (hN : X.N[n]? = some y := by rfl) (hv : Vis X.env.scope y := by first | exact Or.inl rfl | exact Or.inr (Or.inl rfl) | exact Or.inr (Or.inr rfl)) (hd : (y == ("__debug__" : Str)) = false := by decide) (hcd : (y == ("__classdict__" : Str)) = false := by decide)
    (he : starEach [.Name y p2, e] X.env = (false, eval (.Name y p2) X.env) :: starEach [e] X.env := by rfl) (he2 : starEach [e] X.env = (false, eval e X.env) :: starEach [] X.env := by rfl) (hpl : (backTo pos (starEach [e] X.env)).any (·.1) = false := by rfl) : wE X (.Call (.Name x p) [.Name y p2, e] [] pos) σ H Q := by
  obtain ⟨fa, fd, G, hm, hk, hb⟩ := F.ex
  exact le_E (pe_call G (hr.mono hj) hg hm hk hb .nil pass0 (pa_cons (pe_var hN hv hd hcd) (pa_cons pe_w pa_nil he2) he) hdb he hpl) ⟨_, h0, h⟩
/-- a + b of two lists -/
def rCatL (K : PySem.W.Frag) : R2 := fun x y H Q => ∃ l r xs zs, x = .ref l ∧ y = .ref r ∧ SqL K H l xs ∧ SqL K H r zs ∧ xs.length + zs.length ≤ sizeLine ∧ ∀ t, H t = none → Q (.ref t) (upd H t (.lst (xs ++ zs)))
theorem op_catL : OpR X (binaryOp .Add) (rCatL X.K) := by
  intro pins s σ H x y v u Q I rx ry h
  obtain ⟨l, r, xs, zs, rfl, rfl, h1, h2, hz, q⟩ := h
  obtain rfl : v = .ref l := rx
  obtain rfl : u = .ref r := ry
  obtain ⟨i1, r1, p1, z1⟩ := I.list h1
  obtain ⟨i2, r2, p2, z2⟩ := I.list h2
  have l1 := r1.length
  have l2 := r2.length
  obtain ⟨⟨cA, xA, dA, kA⟩, nA', gA, tA, _, eA⟩ := p1
  obtain ⟨⟨cB, xB, dB, kB⟩, nB', gB, tB, _, eB⟩ := p2
  simp only at tA eA tB eB
  subst tA eA tB eB
  have room : i1.toArray.size + i2.toArray.size ≤ sizeLine := by rw [List.size_toArray, List.size_toArray]; omega
  have both : i1.toArray ++ i2.toArray = (i1 ++ i2).toArray := by simp
  refine concat_meets ⟨_, gA, rfl⟩ ⟨_, gB, rfl⟩ noFill_list_add seq_list_add PySem.F.slot_list_add PySem.F.entry_list_add (PySem.F.args_list_add_2 _ _) (list_addW l r i1.toArray i2.toArray _ _ _ _ _ _ room) ⟨gA, gB, ?_⟩
  rw [both]
  exact ⟨.ref _, _, I.laid (t' := s.toks) (o := .lst (xs ++ zs)) (fun _ _ h => Heap.get?_push_of_some _ h) (Nat.le_refl _) ⟨by rw [List.length_append]; omega, _, 0, r1.append r2, Heap.get?_push_size _ rfl⟩, rfl, q _ (I.hok.fresh (Nat.le_refl _))⟩
theorem ev_catL (hz : ds.length + es.length ≤ 100000) (ha : EV X a σ B (.list ds)) (hb : EV X b σ B (.list es)) : EV X (.BinOp a .Add b pos) σ B (.list (ds ++ es)) := ev_op op_catL (fun x y A H s hx hy Q q => by
  obtain ⟨l, xs, rfl, hs, h1⟩ := hx.lst_inv
  obtain ⟨r, ys, rfl, ht, h2⟩ := hy.lst_inv
  have l1 := h1.len
  have l2 := h2.len
  have zz : (100000 : Nat) ≤ sizeLine := by decide
  exact ⟨l, r, xs, ys, rfl, rfl, sub_l s hs, sub_l s ht, by omega, fun t ht => q _ _ _ (Nxt.new s ht) (dpL upd_same ((h1.app h2).up (Sub.updL (s.none ht))))⟩) ha hb
/-- e[i], a list of ints, i drawn -/
theorem ew_item {b : Addr} {xs : List Int} {i : PySem.Expr} (hne : ∀ r, 0 ≤ r → r < (xs.length : Int) → True) (ha : EV X a σ B (.list (xs.map .int))) (hi : EW X i σ B b fun r => 0 ≤ r ∧ r < (xs.length : Int)) (hs : PlainIx i := by intro _ _; rfl) : EW X (.Subscript a i pos) σ B b fun _ => True := fun B1 H1 s1 s2 m Q q =>
  le_E (pe_ix ix_seq pe_w pe_w hs) ((ha.mono s1) H1 s2 _ fun v B2 H2 n2 dv => hi B2 H2 (s1.trans n2.b) n2.i (m.nxt n2) _ fun r B3 H3 n3 m3 ⟨r0, r1⟩ => by
    obtain ⟨k, rfl⟩ := Int.eq_ofNat_of_zero_le r0
    have hk : k < xs.length := by omega
    have hat : atI (xs.map PyData.int) (k : Int) = some (.int xs[k]) := by
      unfold atI ixN
      rw [if_pos r0, if_pos (by rw [List.length_map]; exact r1)]
      simp [hk]
    exact rd_ix (K := X.K) rfl hat v _ B3 H3 n3.i (dv.up n3.b) (.int _) Q fun u B4 H4 n4 du => by
      rw [du.int_inv]
      exact q _ B4 H4 ((n2.e.step n3 m (m.nxt n2)).step n4.e m m3) (m3.nxt n4) trivial)
end
end Who

namespace Who
open PySem L2 PySem.Spec PyProof.Rows
def swap2 : List V → List V
  | [a, b] => [b, a]
  | vs => vs
def gvK : PyData → PyData
  | .tuple [.int i, .tuple xs, z] => .list [.int i, .list xs, z]
  | d => d
def toL : PyData → PyData
  | .tuple xs => .list xs
  | d => d
def w0K : PyData → PyData
  | .tuple (.int i :: _) => .int i
  | d => d
/-- the weights' comprehension -/
def wKeep (i j : Nat) (z : PyData × PyData) : Bool := match z.2 with
  | .list xs => !decide (xs.length = 0) && PyData.eqv (xs.getD i (.int 0)) (xs.getD j (.int 0))
  | _ => false
def gvD (l : Lk) : PyData := .list [.int l.1, lsD l.2.1, nmD l.2.2]
def plD (l : Nm × Nm) : PyData := .list [nmD l.1, nmD l.2]
theorem ev_kwI {X : Cx} {pos p : Pos} {σ : Stt} {B : Hp} {ds : List PyData} {f : PyData} {kws : List Keyword} {ks : List Str} {k j : Nat} {x : Str} {ps : List Str} {R : List PyData → PyData → Prop} (F : DfnK X.prog X.w X.K X.mg X.base j x ps ks id (spR X.K R)) (hr : Room k X.A) (hR : R ds f) (ha : KV' X kws σ B ds) (hj : j ≤ k := by decide) (hg : Gl X x := by rfl)
    (hall : (backToKw pos (keywordEach kws X.env)).all (·.1.isSome) = true := by rfl) (hks : (backToKw pos (keywordEach kws X.env)).filterMap (·.1) = ks := by rfl) (hdb : (x == ("__debug__" : Str)) = false := by decide)
    (hpl : ((backTo pos (starEach [] X.env)).any (·.1) || (backToKw pos (keywordEach kws X.env)).any (·.1.isNone)) = false := by rfl) : EV X (.Call (.Name x p) [] kws pos) σ B f := ev_kw F hr hR ha (fun _ _ h => h) hj hg hall hks hdb hpl
def unI : PyData → Int
  | .int i => i
  | _ => 0
def unInts : PyData → List Int
  | .list xs => xs.map unI
  | _ => []
theorem unInts_at (r : List Int) : unInts (intsD r) = r := by
  show (r.map PyData.int).map unI = r
  rw [List.map_map]
  exact List.map_id r
def keepZ (i j : Nat) (z : PyData × PyData) : Bool := !decide (unInts z.2 = []) && decide ((unInts z.2).getD i 0 = (unInts z.2).getD j 0)
theorem keepZ_at (i j : Nat) (l : Lk) (r : List Int) : keepZ i j (lkD l, intsD r) = (!decide (r = []) && decide (r.getD i 0 = r.getD j 0)) := by
  unfold keepZ
  simp only [unInts_at]
theorem weightsZ (i j : Nat) (ls : List Lk) (R : List (List Int)) : (((ls.map lkD).zip (R.map intsD)).filter (keepZ i j)).map (fun z => w0K z.1) = (weightsL i j ls R).map PyData.int := by
  rw [List.zip_map, List.filter_map, List.map_map]
  unfold weightsL
  rw [List.map_map]
  have e : (keepZ i j ∘ Prod.map lkD intsD) = fun z : Lk × List Int => !decide (z.2 = []) && decide (z.2.getD i 0 = z.2.getD j 0) := funext fun z => keepZ_at i j z.1 z.2
  rw [e]
  rfl
theorem weightsL_mem {i j : Nat} {ls : List Lk} {R : List (List Int)} {v : Int} (h : v ∈ weightsL i j ls R) : ∃ l ∈ ls, v = l.1 := by
  unfold weightsL at h
  obtain ⟨z, hz, rfl⟩ := List.mem_map.mp h
  exact ⟨z.1, (List.of_mem_zip (List.mem_filter.mp hz).1).1, rfl⟩
theorem rowsI_mem (ns : List Nm) (bs : List (Nm × Nm)) : ∀ (ls : List Lk) (lab : Nm → Int), ∀ r ∈ rowsI ns bs ls lab, r = [] ∨ r.length = ns.length
  | [], _, r, h => by cases h
  | l :: ls, lab, r, h => by
    rcases List.mem_cons.mp h with e | h
    · rw [e]
      unfold rowI
      split
      · exact .inr (List.length_map _)
      · exact .inl rfl
    · exact rowsI_mem ns bs ls _ r h
theorem atI_ints {r : List Int} {i : Nat} (h : i < r.length) : atI (r.map PyData.int) (i : Int) = some (.int (r.getD i 0)) := by
  unfold atI ixN
  rw [if_pos (by omega), if_pos (by rw [List.length_map]; omega)]
  simp [h]
theorem Box.same {K : PySem.W.Frag} {B B2 H H2 : Hp} {b : Addr} (m : Box K B H b) (n : Nxt B H B2 H2) : Box K B H2 b := by
  obtain ⟨i, j, k, M⟩ := m
  obtain ⟨xs, h1, h2⟩ := M.h
  exact ⟨i, j, k, M.b, xs, n.h b _ h1, h2⟩
def nLaw : List Str := ["script", "box", "names", "links", "bars", "order", "fates", "groups", "rows", "given", "least", "due", "turn", "one", "other", "weights", "weight", "link", "name", "bar", "row"]
section
variable {P : Program} {w : World} {K : PySem.W.Frag} {mg : Str → Option Value} {base : Heap}
theorem sc43 : FnScope nLaw ["script"] (defScope (top 43)) := ⟨rfl, rfl, rfl, by decide +kernel, rfl, by decide +kernel, by decide +kernel⟩
/-- what the law's body leans on -/
structure Defs (P : Program) (w : World) (K : PySem.W.Frag) (mg : Str → Option Value) (base : Heap) : Prop where
  f21 : DfnK P w K mg base 7 "link_order" ["names", "links"] ["links", "names"] swap2 (spR K R21)
  f28 : DfnK P w K mg base 8 "link_fates" ["names", "links", "bars"] ["names", "links", "bars"] id (spR K R28)
  f29 : Dfn P w K mg base 8 "rule_people" ["names", "links", "bars"] (spR K R29)
  f31 : DfnK P w K mg base 7 "link_pieces" ["names", "links"] ["names", "links"] id (spR K R31)
  f33 : DfnK P w K mg base 8 "first_weight" ["names", "links", "bars", "one", "other"] ["names", "links", "bars", "one", "other"] id (spR K R33)
  f34 : DfnK P w K mg base 8 "people_above" ["names", "links", "bars", "least"] ["names", "links", "bars", "least"] id (spR K R34)
  f36 : Dfn P w K mg base 1 "_law_box" ["script", "k"] (sp36 K)
  f37 : Dfn P w K mg base 1 "_law_take" ["box", "many"] (sp37 K)
  f38 : Dfn P w K mg base 2 "_law_pick" ["box", "some"] (sp38 K)
  f39 : Dfn P w K mg base 2 "_law_names" ["box", "many"] (sp39 K)
  f40 : Dfn P w K mg base 3 "_law_web" ["box", "names"] (spWeb K)
  f41 : Dfn P w K mg base 1 "_law_rule" ["names", "links", "bars"] (sp41 P w K)
  f42 : Dfn P w K mg base 1 "_law_parts" ["names", "groups"] (sp42 P w K)
theorem law_body (T : Defs P w K mg base) {cdv : Value} {A : Around} {outer : List Env} {s : Shared} {H : Hp} {f : Addr} {a : Addr} {sc : List Int} (hr : Room 9 (A.deeper (envOfC "law" (defScope (top 43)) s.heap.objs.size f cdv))) (hg : (A.deeper (envOfC "law" (defScope (top 43)) s.heap.objs.size f cdv)).guards = some [])
    (W : Wk (cxOf CX0 P w K mg base nLaw "law" (defScope (top 43)) f cdv A outer s H E0).nox) (hS : SqL K H a (sc.map V.int)) :
    wSs (cxOf CX0 P w K mg base nLaw "law" (defScope (top 43)) f cdv A outer s H E0).nox (defBody (top 43)) { nx := fun _ _ => (V.non = V.bl true), rt := fun v _ => v = V.bl true } (start nLaw [.ref a]) H := by
  have hsc : Dp K H (.ref a) (.list (sc.map .int)) := .lst hS (dpInts sc)
  -- box
  refine ss_cons (le_S (ps_set W.nd (i := 1) rfl (Or.inl rfl) pe_w) (w_call T.f36 hr (Sub.refl H) (av_cons (ev_var 0 hsc) (av_cons ev_int av_nil)) fun vs B1 H1 n1 dd => ?_))
  obtain ⟨v1, v2, rfl, d1, d2⟩ := dp2 dd
  have e2 := d2.int_inv
  subst e2
  refine ⟨B1, v1, sc, rfl, n1.i, d1, fun b B2 H2 hb n2 m2 => ?_⟩
  -- names
  refine ss_cons (le_S (ps_set W.nd (i := 2) rfl (Or.inl rfl) pe_w) (w_callB 1 T.f39 hr (ew_use (ew_pick (R := fun r => 20 ≤ r ∧ r ≤ 60) (PL := fun rs => ∃ x y, rs = [x, y] ∧ 20 ≤ x ∧ x ≤ 60 ∧ 20 ≤ y ∧ y ≤ 60) 1 T.f38 hr (aw_cons (P := fun r => 20 ≤ r ∧ r ≤ 60) (PL := fun rs => ∃ y, rs = [y] ∧ 20 ≤ y ∧ y ≤ 60)
      (ew_add (P := fun r => r = 20) (P' := fun r => 0 ≤ r ∧ r < 11) (ew_pure ev_int rfl) (ew_take (P := fun r => r = 11) 1 T.f37 hr (ew_pure ev_int rfl) fun n e => ⟨by omega, by omega, fun r h1 h2 => ⟨h1, by omega⟩⟩) fun i j h1 h2 => ⟨by omega, by omega⟩)
      (aw_cons (P := fun r => 20 ≤ r ∧ r ≤ 60) (PL := fun rs => rs = []) (ew_add (P := fun r => r = 30) (P' := fun r => 0 ≤ r ∧ r < 31) (ew_pure ev_int rfl) (ew_take (P := fun r => r = 31) 1 T.f37 hr (ew_pure ev_int rfl) fun n e => ⟨by omega, by omega, fun r h1 h2 => ⟨h1, by omega⟩⟩) fun i j h1 h2 => ⟨by omega, by omega⟩) (aw_nil rfl) fun r rs h1 h2 => ⟨r, by rw [h2], h1⟩) fun r rs h1 ⟨y, h2, h3⟩ => ⟨r, y, by rw [h2], h1.1, h1.2, h3⟩)
      fun rs ⟨x, y, e, h1, h2, h3, h4⟩ => ⟨by rw [e]; simp, by rw [e]; simp, fun r hr => by
        rw [e] at hr
        rcases List.mem_cons.mp hr with q | q
        · rw [q]; exact ⟨h1, h2⟩
        · rw [List.mem_singleton.mp q]; exact ⟨h3, h4⟩⟩) (Sub.refl B2) n2.i m2 fun many B3 H3 n3 m3 ⟨g1, g2⟩ => ?_)))
  obtain ⟨n, rfl⟩ := Int.eq_ofNat_of_zero_le (show 0 ≤ many by omega)
  refine ⟨B3, b, n, rfl, n3.i, m3, by omega, by omega, fun wide step vn B4 H4 n4 m4 w1 t1 t3 dn => ?_⟩
  have hA := names_asc (n := n) w1 t1
  have hsm := names_small (n := n) (by omega) w1 t1 t3
  have hnl := names_len n wide step
  generalize namesL n wide step = ns at dn hA hsm hnl
  have n20 : 20 ≤ ns.length := by omega
  have n60 : ns.length ≤ 60 := by omega
  -- links, bars
  refine ss_cons (s_asg (pg2 (pgn 3) (pgn 4)) (w_callD 1 T.f40 hr n4.i (av_cons (ev_var 2 dn) av_nil) fun vs B5 H5 n5 dd5 => ?_))
  obtain ⟨u1, rfl, c1⟩ := dp1 dd5
  refine ⟨B5, b, u1, ns, rfl, n5.i, m4.nxt n5, c1, by omega, by omega, hA.nodup, fun t va vb L bi B6 H6 n6 m6 ht da db hL hB => ?_⟩
  refine gd_tup2 (i := 3) (j := 4) (SqT.of ht) H6 n6.i _ fun σ6 e6 => ?_
  have e7 : σ6 = [some (.ref a), some (.ref b), some vn, some va, some vb, none, none, none, none, none, none, none, none, none, none, none, none, none, none, none, none] := e6
  subst e7
  have D := drawn_of hA hsm (by omega) hL hB
  have dn6 := (dn.up n5.b).up n6.b
  have da6 : Dp K B6 va (.list ((L.map (lkI ns)).map lkD)) := by rw [List.map_map]; exact da
  have db6 : Dp K B6 vb (.list ((bi.map (prI ns)).map prD)) := by rw [List.map_map]; exact db
  generalize L.map (lkI ns) = ls at D da6
  generalize bi.map (prI ns) = bs at D db6
  have i6 := n6.i
  clear da db n6 n5 n4 n3 n2 n1 ht dd5 c1
  have lsl : (ls.map lkD).length ≤ 100000 := by rw [List.length_map]; have := D.ll; omega
  have dlen := (List.mergeSort_perm ls leL).length_eq
  have oll : (srtL ls).length ≤ 200 := by have e : (srtL ls).length = ls.length := dlen; rw [e]; exact D.ll
  -- order
  refine ss_cons (s_setLcL 5 (own := [("weight", 16), ("one", 13), ("other", 14)]) (g := gTup K 3 (gCons (gName 16) (gCons (gName 13) (gCons (gName 14) gNil)))) (ds := ((ls.map neg1).mergeSort leK).map lkD) placeK (blkOk_by (by rfl)) (fun _ _ _ _ _ => by exact pg3 (pgn 16) (pgn 13) (pgn 14)) i6
      (EV.is (ev_sorted (ds := (ls.map neg1).map lkD) ?al ?so ?de (EV.is (ev_lcL (own := [("link", 17)]) (ds := ls.map lkD) placeK (blkOk_by (by rfl)) (fun _ _ _ _ _ => pgn 17) (ev_var 3 da6) lsl fun x d0 B7 hd s7 hx => ?in1) (by rw [List.map_map, List.map_map]; rfl))) (congrArg PyData.list (PySem.W.sort_maps (r := leK) (s := keyLe id) (l := ls.map neg1) lkD (fun _ _ _ _ => rfl)).symm)) (by rw [List.length_map, List.length_mergeSort, List.length_map]; have := D.ll; omega) (fun x d0 B7 hd s7 hx => ?in2) fun vo B7 H7 n7 do7' => ?go)
  case al =>
    intro d hd d' hd'
    obtain ⟨x, _, rfl⟩ := List.mem_map.mp hd
    obtain ⟨x', _, rfl⟩ := List.mem_map.mp hd'
    exact alike_lks
  case so =>
    refine .inl fun d hd => ?_
    obtain ⟨x, _, rfl⟩ := List.mem_map.mp hd
    exact ⟨_, _, rfl⟩
  case de =>
    intro d hd
    obtain ⟨x, _, rfl⟩ := List.mem_map.mp hd
    exact depth_lk x
  case in1 =>
    obtain ⟨l, hl, rfl⟩ := List.mem_map.mp hd
    exact lc_name 17 fun _ _ _ _ _ => EV.is (ev_tup (av_cons (ev_sub ev_int (ev_ix (lkD_at l) rfl (ev_var 17 hx) ev_int)) (av_cons (ev_ix (lkD_at l) rfl (ev_var 17 hx) ev_int) (av_cons (ev_ix (lkD_at l) rfl (ev_var 17 hx) ev_int) av_nil))) (by show 3 ≤ 100000; decide)) rfl
  case in2 =>
    obtain ⟨l, hl, rfl⟩ := List.mem_map.mp hd
    obtain ⟨t7, y1, y2, rfl, hs7, dy1, dy2⟩ := dp_cut hx
    refine ⟨_, gd_tup3 hs7, fun σ8 e8 => ?_⟩
    have e9 : σ8 = [some (.ref a), some (.ref b), some vn, some va, some vb, none, none, none, none, none, none, none, none, some y1, some y2, none, some (.int l.1), none, none, none, none] := e8
    subst e9
    exact ⟨rfl, fun _ _ _ _ _ => EV.is (ev_tup (av_cons (ev_sub ev_int (ev_var 16 (.int _))) (av_cons (ev_var 13 dy1) (av_cons (ev_var 14 dy2) av_nil))) (by show 3 ≤ 100000; decide)) rfl⟩
  case go =>
    have do7 : Dp K B7 vo (.list ((srtL ls).map lkD)) := by
      rw [← ord_eq]
      unfold ordL
      rw [List.map_map] at do7' ⊢
      exact do7'
    have dn7 := dn6.up n7.b
    have da7 := da6.up n7.b
    have db7 := db6.up n7.b
    have m7 := m6.nxt n7
    -- the law's own rule
    refine ss_cons (s_asg (pg3 (pgn 6) (pgn 7) (pgn 8)) (w_call T.f41 hr n7.i (av_cons (ev_var 2 dn7) (av_cons (ev_var 5 do7) (av_cons (ev_var 4 db7) av_nil))) fun vs B8 H8 n8 dd8 => ?_))
    obtain ⟨v1, v2, v3, rfl, q1, q2, q3⟩ := dp3 dd8
    refine ⟨B8, v1, v2, v3, ns, srtL ls, bs, rfl, n8.i, q1, q2, q3, D.inl, D.inb, by omega, by have := D.bl; omega, D.asc.nodup, by omega, fun t8 vf dg vr B9 H9 n9 ht9 df dG dR => ?_⟩
    refine gd_tup3 (i := 6) (j := 7) (k := 8) (SqT.of ht9) H9 n9.i _ fun σ9 e9 => ?_
    have e10 : σ9 = [some (.ref a), some (.ref b), some vn, some va, some vb, some vo, some vf, some (.ref dg), some vr, none, none, none, none, none, none, none, none, none, none, none, none] := e9
    subst e10
    have s79 := n8.b.trans n9.b
    have dn9 := dn7.up s79
    have da9 := da7.up s79
    have db9 := db7.up s79
    have do9 := do7.up s79
    have m9 := m7.nxt (n8.trans n9)
    -- given
    refine ss_cons (s_setLcL 9 (own := [("link", 17)]) (ds := ls.map lkD) gvK (blkOk_by (by rfl)) (fun _ _ _ _ _ => pgn 17) n9.i (ev_var 3 da9) lsl (fun x d0 B10 hd s10 hx => ?in3) fun vg B10 H10 n10 dg10' => ?go2)
    case in3 =>
      obtain ⟨l, hl, rfl⟩ := List.mem_map.mp hd
      exact lc_name 17 fun _ _ _ _ _ => EV.is (ev_lst (av_cons (ev_ix (lkD_at l) rfl (ev_var 17 hx) ev_int) (av_cons (ev_listOf (d := nmD l.2.1) rfl (ev_ix (lkD_at l) rfl (ev_var 17 hx) ev_int)) (av_cons (ev_ix (lkD_at l) rfl (ev_var 17 hx) ev_int) av_nil))) (by show 3 ≤ 100000; decide)) rfl
    case go2 =>
      have dg10 : Dp K B10 vg (.list (ls.map gvD)) := by rw [List.map_map] at dg10'; exact dg10'
      have dn10 := dn9.up n10.b
      have da10 := da9.up n10.b
      have db10 := db9.up n10.b
      have do10 := do9.up n10.b
      have df10 := df.up n10.b
      have dG10 := dG.up n10.b
      have dR10 := dR.up n10.b
      have m10 := m9.nxt n10
      have i10 := n10.i
      -- the order of the links
      refine ss_cons (s_check hg D.ok_ls (by decide) (by decide) i10 (ev_kw (es := [.list (ns.map nmD), .list (ls.map gvD)]) T.f21 hr ⟨ns, ls, _, _, rfl, D.nmsT rfl, D.lksG rfl, rfl⟩ (kv_cons (ev_var 9 dg10) (kv_cons (ev_listOf rfl (ev_var 2 dn10)) kv_nil)) (fun B vs dd => ?sw)) (EV.is (ev_tupleOf rfl (ev_var 5 do10)) (f := lnD (srtL ls)) rfl) (lksD_eq ls) fun B11 H11 n11 => ?go3)
      case sw =>
        obtain ⟨y1, y2, rfl, k1, k2⟩ := dp2 dd
        exact .cons k2 (.cons k1 .nil)
      case go3 =>
        have i11 : Sub B10 H11 := n11.b.trans n11.i
        have m11 : Box K B10 H11 b := m10.same n11
        have nd := D.asc.nodup
        have zn : ns.length ≤ 1000 := by omega
        have zbs : bs.length ≤ 1000 := by have := D.bl; omega
        have bsl : (bs.map prD).length ≤ 100000 := by rw [List.length_map]; omega
        have hb1 : ∀ z, z ∈ srtB bs ↔ z ∈ bs := fun z => mem_srtB
        have ib1 : InB ns (srtB bs) := fun z hz => D.inb z (mem_srtB.mp hz)
        -- the fates
        have eF : fatesL (srtB bs.reverse) (srtL ls) id = fatesI bs (srtL ls) (lab0 ns) := fates_eq (fun z => mem_srtB.trans List.mem_reverse) (fun z hz => D.inb z (List.mem_reverse.mp (mem_srtB.mp hz))) (srtL ls) D.inl (rel0 nd)
        refine ss_cons (s_check hg (D.ok_fs (fatesI bs (srtL ls) (lab0 ns)) (by rw [fatesI_len]; exact oll)) (by decide) (by decide) i11 (ev_kwI (ds := [.list (ns.map lsD), .list (ls.map gvD), .list (bs.reverse.map prD)]) T.f28 hr ⟨ns, ls, bs.reverse, _, _, _, rfl, ⟨D.nmsL rfl, D.lksG rfl, D.rev.brsT rfl⟩, rfl⟩
          (kv_cons (EV.is (ev_lcL (own := [("name", 18)]) (ds := ns.map nmD) toL (blkOk_by (by rfl)) (fun _ _ _ _ _ => pgn 18) (ev_var 2 dn10) (by rw [List.length_map]; omega) fun x d0 B12 hd s12 hx => ?c1) (show PyData.list ((ns.map nmD).map toL) = PyData.list (ns.map lsD) by rw [List.map_map]; rfl)) (kv_cons (ev_var 9 dg10) (kv_cons (EV.is (ev_back (d := .list (bs.map prD)) rfl (ev_var 4 db10) (EV.is (ev_sub ev_int ev_int) rfl)) (show PyData.list (bs.map prD).reverse = PyData.list (bs.reverse.map prD) by rw [List.map_reverse])) kv_nil)))) (ev_tupleOf rfl (ev_var 6 df10)) (by rw [eF]) fun B12 H12 n12 => ?go4)
        case c1 =>
          obtain ⟨p, hp, rfl⟩ := List.mem_map.mp hd
          exact lc_name 18 fun _ _ _ _ _ => EV.is (ev_listOf (d := nmD p) rfl (ev_var 18 hx)) rfl
        case go4 =>
        have i12 : Sub B10 H12 := n12.b.trans n12.i
        have m12 : Box K B10 H12 b := m11.same n12
        have ls0 := least_all (srtB bs) (srtL ls) D.inl (least0 ns)
        -- the people
        refine ss_cons (s_check hg (D.ok_parts (labsI bs (srtL ls) (lab0 ns))) (by decide) (by decide) i12 (ev_call T.f29 hr ⟨ns, ls, bs, _, _, _, rfl, ⟨D.nmsT rfl, D.lksT rfl, D.brsL rfl⟩, rfl⟩ (av_cons (ev_var 2 dn10) (av_cons (ev_var 3 da10) (av_cons (EV.is (ev_lcL (own := [("bar", 19)]) (ds := bs.map prD) toL (blkOk_by (by rfl)) (fun _ _ _ _ _ => pgn 19) (ev_var 4 db10) bsl fun x d0 B13 hd s13 hx => ?c2) (f := .list (bs.map plD)) (by rw [List.map_map]; rfl)) av_nil))))
          (ev_parts T.f42 hr (ev_var 2 dn10) (gv_var 7 dG10) zn) (told_eq D.asc ls0 (rel_all hb1 ib1 (srtL ls) D.inl (rel0 nd))) fun B13 H13 n13 => ?go5)
        case c2 =>
          obtain ⟨p, hp, rfl⟩ := List.mem_map.mp hd
          exact lc_name 19 fun _ _ _ _ _ => EV.is (ev_listOf (prD_at p) (ev_var 19 hx)) rfl
        case go5 =>
        have i13 : Sub B10 H13 := n13.b.trans n13.i
        have m13 : Box K B10 H13 b := m12.same n13
        -- the pieces
        refine ss_cons (s_check hg (D.ok_parts (labsI [] (srtL ls) (lab0 ns))) (by decide) (by decide) i13 (ev_kwI (ds := [nmsD ns, lnD ls]) T.f31 hr ⟨ns, ls, _, _, rfl, D.nmsT rfl, D.lksT rfl, rfl⟩ (kv_cons (ev_tupleOf rfl (ev_var 2 dn10)) (kv_cons (ev_tupleOf rfl (ev_var 3 da10)) kv_nil)))
          (ev_parts T.f42 hr (ev_var 2 dn10) (gv_rule (bs := []) T.f41 hr (av_cons (ev_var 2 dn10) (av_cons (ev_var 5 do10) (av_cons (ev_lst av_nil) av_nil))) D.inl (fun z hz => by cases hz) (by omega) (Nat.zero_le _) nd zn) zn) (told_eq D.asc (least_all [] (srtL ls) D.inl (least0 ns)) (rel_all (fun z => Iff.rfl) (fun z hz => by cases hz) (srtL ls) D.inl (rel0 nd))) fun B14 H14 n14 => ?go6)
        case go6 =>
        have i14 : Sub B10 H14 := n14.b.trans n14.i
        have m14 : Box K B10 H14 b := m13.same n14
        have wl : (((srtL ls).map (·.1) ++ [1] : List Int)).length = (srtL ls).length + 1 := by simp
        -- least
        refine ss_cons (le_S (ps_set W.nd (i := 10) rfl (Or.inr rfl) pe_w) (ew_use (ew_pick (R := fun _ => True) (PL := fun rs => rs ≠ [] ∧ rs.length ≤ 4) 1 T.f38 hr (aw_cons (P := fun _ => True) (PL := fun rs => rs.length ≤ 3) (ew_pure ev_int trivial) (aw_cons (P := fun _ => True) (PL := fun rs => rs.length ≤ 2) (ew_take (P := fun r => r = 13) 1 T.f37 hr (ew_pure ev_int rfl) fun n e => ⟨by omega, by omega, fun r h1 h2 => trivial⟩)
          (aw_cons (P := fun _ => True) (PL := fun rs => rs.length ≤ 1) (ew_item (xs := (srtL ls).map (·.1) ++ [1]) (fun _ _ _ => trivial) (EV.is (ev_catL (ds := (srtL ls).map fun l => .int l.1) (es := [.int 1]) (by rw [List.length_map]; simp; omega) (EV.is (ev_lcL (own := [("link", 17)]) (ds := (srtL ls).map lkD) w0K (blkOk_by (by rfl)) (fun _ _ _ _ _ => pgn 17) (ev_var 5 do10) (by rw [List.length_map]; omega) fun x d0 B15 hd s15 hx => ?c3) (by rw [List.map_map]; rfl)) (ev_lst (av_cons ev_int av_nil) (by show 1 ≤ 100000; decide))) (by rw [List.map_append, List.map_map]; rfl))
            (ew_take (P := fun r => r = ((srtL ls).length : Int) + 1) 1 T.f37 hr (ew_pure (ev_add (ev_len rfl (ev_var 5 do10)) ev_int) (by rw [List.length_map])) fun n e => ⟨by omega, by omega, fun r h1 h2 => ⟨h1, by rw [wl]; omega⟩⟩))
          (aw_cons (P := fun _ => True) (PL := fun rs => rs.length ≤ 0) (ew_sub (P := fun _ => True) (P' := fun _ => True) (ew_pure ev_int trivial) (ew_take (P := fun r => r = 10 ^ (6 : Int).toNat) 1 T.f37 hr (ew_pure (ev_pow ⟨by decide, by decide, by decide⟩ ev_int ev_int) rfl) fun n e => ⟨by rw [e]; decide, by rw [e]; decide, fun r h1 h2 => trivial⟩) fun _ _ _ _ => trivial) (aw_nil (Nat.le_refl _)) fun r rs _ h => Nat.succ_le_succ h) fun r rs _ h => Nat.succ_le_succ h) fun r rs _ h => Nat.succ_le_succ h) fun r rs _ h => ⟨by simp, Nat.succ_le_succ h⟩)
          fun rs h => ⟨h.1, by have := h.2; omega, fun _ _ => trivial⟩) (Sub.refl B10) i14 m14 fun least B15 H15 n15 m15 _ => ?go7))
        case c3 =>
          obtain ⟨l, hl, rfl⟩ := List.mem_map.mp hd
          exact lc_name 17 fun _ _ _ _ _ => EV.is (ev_ix (lkD_at l) rfl (ev_var 17 hx) ev_int) rfl
        case go7 =>
        have dn15 := dn10.up n15.b
        have da15 := da10.up n15.b
        have db15 := db10.up n15.b
        have do15 := do10.up n15.b
        have dR15 := dR10.up n15.b
        have i15 := n15.i
        have inF : InL ns (fromW least (srtL ls)) := fun l hl => D.inl l (List.mem_filter.mp hl).1
        have fwl : (fromW least (srtL ls)).length ≤ 1000 := Nat.le_trans (List.length_filter_le _ _) (by omega)
        -- due
        refine ss_cons (s_set 11 i15 (ev_parts T.f42 hr (ev_var 2 dn15) (gv_rule (ls := fromW least (srtL ls)) (bs := bs) T.f41 hr (av_cons (ev_var 2 dn15) (av_cons (EV.is (ev_lcLif (own := [("link", 17)]) (ds := (srtL ls).map lkD) (keepW least) id (blkOk_by (by rfl)) (fun _ _ _ _ _ => pgn 17) (ev_var 5 do15) (by rw [List.length_map]; omega) fun x d0 B16 hd s16 hx => ?c4) (by rw [List.map_id, List.filter_map]; rfl)) (av_cons (ev_var 4 db15) av_nil))) inF D.inb fwl zbs nd zn) zn) fun vd B16 H16 n16 dd16 => ?go8)
        case c4 =>
          obtain ⟨l, hl, rfl⟩ := List.mem_map.mp hd
          exact lc_name_if 17 (fun _ _ _ _ _ => tv_ge (ev_ix (lkD_at l) rfl (ev_var 17 hx) ev_int) (ev_var 10 (.int least))) fun _ _ _ _ _ _ => ev_var 17 hx
        case go8 =>
        have dn16 := dn15.up n16.b
        have da16 := da15.up n16.b
        have db16 := db15.up n16.b
        have do16 := do15.up n16.b
        have dR16 := dR15.up n16.b
        have m16 := m15.nxt n16
        refine ss_cons (s_check hg (D.ok_parts (labsI bs (fromW least (srtL ls)) (lab0 ns))) (by decide) (by decide) n16.i (ev_kwI (ds := [.list (ns.map nmD), .list (ls.map lkD), .list (bs.map prD), .int least]) T.f34 hr ⟨ns, ls, bs, _, _, _, least, rfl, ⟨D.nmsT rfl, D.lksT rfl, D.brsT rfl⟩, rfl⟩ (kv_cons (ev_var 2 dn16) (kv_cons (ev_var 3 da16) (kv_cons (ev_var 4 db16) (kv_cons (ev_var 10 (.int least)) kv_nil))))) (ev_var 11 dd16)
          (told_eq D.asc (least_all (srtB bs) _ inF (least0 ns)) (rel_all hb1 ib1 _ inF (rel0 nd))) fun B17 H17 n17 => ?go9)
        case go9 =>
        have i17 : Sub B16 H17 := n17.b.trans n17.i
        have m17 : Box K B16 H17 b := m16.same n17
        clear eF ls0
        have eR : ∀ r ∈ rowsI ns bs (srtL ls) (lab0 ns), r = [] ∨ r.length = ns.length := fun r hr => rowsI_mem ns bs _ _ r hr
        have lR : (rowsI ns bs (srtL ls) (lab0 ns)).length = (srtL ls).length := rowsI_len ns bs _ _
        generalize eRR : rowsI ns bs (srtL ls) (lab0 ns) = R at dR16 eR lR
        have hlen : (ns.map nmD).length = ns.length := List.length_map _
        refine ss_cons (s_rng1 PassesOwn.never (pgn 12) ((av_cons (X := (cxOf CX0 P w K mg base nLaw "law" (defScope (top 43)) f cdv A outer s H E0).nox) (ev_int (B := B16)) av_nil) H17 i17 _ fun vs B18 H18 n18 dd18 => ?_))
        obtain ⟨k1, rfl, kd⟩ := dp1 dd18
        refine ⟨2, by rw [kd.int_inv]; rfl, by decide, fun i σ' H' => ∃ (B' : Hp) (x11 x12 x13 x14 x15 : Option V), σ' = [some (.ref a), some (.ref b), some vn, some va, some vb, some vo, some vf, some (.ref dg), some vr, some vg, some (.int least), x11, x12, x13, x14, x15, none, none, none, none, none] ∧ Sub B16 B' ∧ Sub B' H' ∧ Box K B' H' b, ⟨B18, _, _, _, _, _, rfl, n18.b, n18.i, m17.nxt n18⟩, ?_, ?_⟩
        · rintro i σ' H' hi ⟨B', x11, x12, x13, x14, x15, rfl, sB, sH, mB⟩
          have dn' := dn16.up sB
          have da' := da16.up sB
          have db' := db16.up sB
          have do' := do16.up sB
          have dR' := dR16.up sB
          -- two places
          refine ss_cons (le_S (ps_asg (pe_tup pa_w) (pg2 (pgn 13) (pgn 14))) (aw_use (PL := fun rs => ∃ x y, rs = [x, y] ∧ (0 ≤ x ∧ x < (ns.length : Int)) ∧ (0 ≤ y ∧ y < (ns.length : Int))) (B := B') (aw_cons (P := fun r => 0 ≤ r ∧ r < (ns.length : Int)) (PL := fun rs => ∃ y, rs = [y] ∧ (0 ≤ y ∧ y < (ns.length : Int))) (ew_take (P := fun r => r = (ns.length : Int)) 1 T.f37 hr (ew_pure (ev_len rfl (ev_var 2 dn')) (by rw [hlen])) fun n e => ⟨by omega, by omega, fun r h1 h2 => ⟨h1, by omega⟩⟩)
            (aw_cons (P := fun r => 0 ≤ r ∧ r < (ns.length : Int)) (PL := fun rs => rs = []) (ew_take (P := fun r => r = (ns.length : Int)) 1 T.f37 hr (ew_pure (ev_len rfl (ev_var 2 dn')) (by rw [hlen])) fun n e => ⟨by omega, by omega, fun r h1 h2 => ⟨h1, by omega⟩⟩) (aw_nil rfl) fun r rs h1 h2 => ⟨r, by rw [h2], h1⟩) fun r rs h1 ⟨y, h2, h3⟩ => ⟨r, y, by rw [h2], h1, h3⟩) (Sub.refl B') sH mB fun rs B19 H19 n19 m19 ⟨x, y, e, hx, hy⟩ => ?_))
          subst e
          obtain ⟨p, rfl⟩ := Int.eq_ofNat_of_zero_le hx.1
          obtain ⟨q, rfl⟩ := Int.eq_ofNat_of_zero_le hy.1
          have hp : p < ns.length := by omega
          have hq : q < ns.length := by omega
          refine ⟨by show 2 ≤ sizeLine; decide, fun t ht => ?_⟩
          have nt := Nxt.new (o := .tup ([(p : Int), (q : Int)].map V.int)) n19.i ht
          refine gd_tup2 (i := 13) (j := 14) (SqT.of (show (upd B19 t (.tup ([(p : Int), (q : Int)].map V.int))) t = _ from upd_same)) _ nt.i _ fun σ2 e2 => ?_
          have e3 : σ2 = [some (.ref a), some (.ref b), some vn, some va, some vb, some vo, some vf, some (.ref dg), some vr, some vg, some (.int least), x11, some (.int ((i : Nat) : Int)), some (.int (p : Int)), some (.int (q : Int)), x15, none, none, none, none, none] := e2
          subst e3
          have sA := n19.b.trans nt.b
          have m20 := m19.nxt nt
          have dn2 := dn'.up sA
          have da2 := da'.up sA
          have db2 := db'.up sA
          have do2 := do'.up sA
          have dR2 := dR'.up sA
          have i20 := nt.i
          generalize upd B19 t (.tup ([(p : Int), (q : Int)].map V.int)) = B20 at sA m20 dn2 da2 db2 do2 dR2 i20
          generalize upd H19 t (.tup ([(p : Int), (q : Int)].map V.int)) = H20 at m20 i20
          have sZ : Sub B16 B20 := sB.trans sA
          clear nt n19 m19 ht
          -- the weights
          refine ss_cons (s_setLcZ 15 (own := [("link", 17), ("row", 20)]) (g := gTup K 2 (gCons (gName 17) (gCons (gName 20) gNil))) (ds := (srtL ls).map lkD) (es := R.map intsD) (keepZ p q) (fun z => w0K z.1) (blkOk_by (by rfl)) (fun _ _ _ _ _ => by exact pg2 (pgn 17) (pgn 20)) i20 (ev_var 5 do2) (ev_var 8 dR2) (by rw [List.length_map, List.length_map, lR]) (by rw [List.length_map]; omega) (fun x z B21 hz s21 hx => ?d1) fun vw B21 H21 n21 dw' => ?go10)
          case d1 =>
            rw [List.zip_map] at hz
            obtain ⟨⟨l, r⟩, hlr, rfl⟩ := List.mem_map.mp hz
            have hr' := eR r (List.of_mem_zip hlr).2
            obtain ⟨t9, ys, rfl, hs9, ha9⟩ := hx.tup_inv
            obtain ⟨z1, z2, rfl, dz1, dz2⟩ := dp2 ha9
            have dz1 : Dp K B21 z1 (lkD l) := dz1
            have dz2 : Dp K B21 z2 (intsD r) := dz2
            refine ⟨_, gd_tup2 hs9, fun σ9 e9 => ?_⟩
            have e10 : σ9 = [some (.ref a), some (.ref b), some vn, some va, some vb, some vo, some vf, some (.ref dg), some vr, some vg, some (.int least), x11, some (.int ((i : Nat) : Int)), some (.int (p : Int)), some (.int (q : Int)), x15, none, some z1, none, none, some z2] := e9
            subst e10
            refine ⟨rfl, fun _ _ _ _ _ => TV.is (WV.tv (wv_and (tv_neD (shaped_ints r) (shaped_ints []) (ev_var 20 dz2) (ev_lst av_nil)) fun k => wv_and1 (tv_eqI (ev_ix (d := intsD r) rfl (atI_ints (i := p) (r := r) ?_) (ev_var 20 dz2) (ev_var 13 (.int _))) (ev_ix (d := intsD r) rfl (atI_ints (i := q) (r := r) ?_) (ev_var 20 dz2) (ev_var 14 (.int _)))))) ?_, fun _ _ _ _ _ _ => EV.is (ev_ix (lkD_at l) rfl (ev_var 17 dz1) ev_int) rfl⟩
            · rcases hr' with e | e
              · rw [e, eqv_ints] at k; cases k
              · omega
            · rcases hr' with e | e
              · rw [e, eqv_ints] at k; cases k
              · omega
            · rw [eqv_ints]
              exact (keepZ_at p q l r).symm
          case go10 =>
            have dw : Dp K B21 vw (.list ((weightsL p q (srtL ls) R).map .int)) := by
              rw [weightsZ] at dw'
              exact dw'
            generalize ews : weightsL p q (srtL ls) R = ws at dw
            -- due
            refine ss_cons (s_set 11 n21.i (ev_if (d := optD (dueW p q ws)) (WV.tv (wv_or (TV.is (tv_eqD (d1 := intsD ws) (d2 := intsD []) (shaped_ints ws) (shaped_ints []) (ev_var 15 dw) (ev_lst av_nil)) (eqv_ints ws [])) fun _ => wv_or1 (tv_eqI (ev_var 13 (.int _)) (ev_var 14 (.int _))))) (fun k => EV.is ev_non ?d2) fun k => EV.is (ev_ix (d := intsD ws) (f := .int (ws.getD 0 0)) rfl (atI_ints (i := 0) (r := ws) ?d3) (ev_var 15 dw) ev_int) ?d4) fun vd2 B22 H22 n22 dd22 => ?go11)
            case d2 =>
              unfold dueW
              rw [if_pos]
              · rfl
              · rw [Bool.or_eq_true, decide_eq_true_eq, decide_eq_true_eq] at k
                exact k.imp id fun h => by omega
            case d3 =>
              rw [Bool.or_eq_false_iff, decide_eq_false_iff_not] at k
              exact List.length_pos_iff.mpr k.1
            case d4 =>
              rw [Bool.or_eq_false_iff, decide_eq_false_iff_not, decide_eq_false_iff_not] at k
              unfold dueW
              rw [if_neg fun h => h.elim k.1 fun h => k.2 (by rw [h])]
              cases ws with
              | nil => exact absurd rfl k.1
              | cons w0 ws => rfl
            case go11 =>
              have s22 := n21.b.trans n22.b
              have mp := nA_mem hp
              have mq := nA_mem hq
              have okD : PyOk (optD (dueW p q ws)) 100 1 := by
                cases e : dueW p q ws with
                | none => exact ok_none.le (by decide) (Nat.le_refl _)
                | some v =>
                  have hv : v ∈ ws := by
                    unfold dueW at e
                    split at e
                    · cases e
                    · exact List.mem_of_mem_head? e
                  rw [← ews] at hv
                  obtain ⟨l, hl, rfl⟩ := weightsL_mem hv
                  have := D.li l (mem_srtL.mp hl)
                  exact (ok_int (by omega)).le (by decide) (Nat.le_refl _)
              refine ss_one (s_check hg okD (by decide) (by decide) n22.i (ev_kwI (ds := [.list (ns.map nmD), .list (ls.map lkD), .list (bs.map prD), lsD (nA ns p), nmD (nA ns q)]) T.f33 hr ⟨ns, ls, bs, _, _, _, _, _, nA ns p, nA ns q, rfl, ⟨D.nmsT rfl, D.lksT rfl, D.brsT rfl⟩, nmF_l D.sm mp, nmF_t D.sm mq, mp, mq, rfl⟩
                (kv_cons (ev_var 2 (dn2.up s22)) (kv_cons (ev_var 3 (da2.up s22)) (kv_cons (ev_var 4 (db2.up s22)) (kv_cons (EV.is (ev_listOf (d := nmD (nA ns p)) rfl (ev_ix rfl (atI_nm hp) (ev_var 2 (dn2.up s22)) (ev_var 13 (.int _)))) rfl) (kv_cons (ev_ix rfl (atI_nm hq) (ev_var 2 (dn2.up s22)) (ev_var 14 (.int _))) kv_nil)))))) (ev_var 11 dd22)
                (by rw [firstW_eq nd hb1 ib1 hp hq (srtL ls) D.inl (rel0 nd), eRR, ews]) fun B23 H23 n23 => ?_)
              exact ⟨B23, _, _, _, _, _, rfl, (sZ.trans s22).trans n23.b, n23.i, ((m20.nxt n21).nxt n22).nxt n23⟩
        · rintro σ' H' ⟨B', x11, x12, x13, x14, x15, rfl, sB, sH, mB⟩
          exact ss_one (s_ret sH ev_bl fun v B20 H20 n20 dv => dv.bl_inv)
end
end Who

namespace Who
open PySem L2 PySem.Spec PyProof.Rows
/-- a def of the text as the top has bound it -/
def Entry (K : PySem.W.Frag) (mg : Str → Option Value) (x : Str) (st : Stmt) : Prop := ∃ f fd, Fun K x x st f fd ∧ mg x = some (.ref f)
section
variable {P : Program} {w : World} {K : PySem.W.Frag} {mg : Str → Option Value} {base h : Heap} {x : Str} {st : Stmt} {k : Nat} {ps ks : List Str} {sp : Sp}
theorem entry {f : Addr} {oc kV dc pm cd ct : Value} {od an : Option Addr} {sl : Array (Option Value)} (X : K.In h) (G : h.Ns mainGlobals mg) (a : PySem.W.nsIn K mainGlobals x = some (some (.ref f)))
    (l : K.lookup f = some ⟨oc, od, .func (PySem.W.fnOf x x (defArgs st) (defBody st) (defScope st) .none kV dc pm an cd ct), sl⟩) (c : PySem.W.codeIn K cd x = true) (kp : PySem.W.keepIn K (.ref f) = true) : Entry K mg x st := ⟨f, _, fun_mk l c kp, PySem.W.mg_of X G a⟩
theorem mkD (E : Entry K mg x st) (ok : ∀ {f fd}, Fun K x x st f fd → FnOk P w K mg base CX0 k f fd ps sp) (hb : ∀ (kV doc pm : Value) (an : Option Addr) (cdv ct : Value) (us : List Value), us.length = ps.length → bindArgs (PySem.W.fnOf x x (defArgs st) (defBody st) (defScope st) .none kV doc pm an cdv ct) ⟨us, []⟩ = pure (ps.zip us)) : Dfn P w K mg base k x ps sp := by
  obtain ⟨f, fd, F, m⟩ := E
  exact ⟨f, fd, ok F, m, F.kp, F.binds hb⟩
theorem mkK {gV : List V → List V} (g : List Value → List Value) (E : Entry K mg x st) (ok : ∀ {f fd}, Fun K x x st f fd → FnOk P w K mg base CX0 k f fd ps sp)
    (hb : ∀ (kV doc pm : Value) (an : Option Addr) (cdv ct : Value) (ws : List Value), (g ws).length = ps.length → bindArgs (PySem.W.fnOf x x (defArgs st) (defBody st) (defScope st) .none kV doc pm an cdv ct) ⟨[], ks.zip ws⟩ = pure (ps.zip (g ws))) (hr : ∀ {zs : List V} {ws : List Value}, Vals zs ws → Vals (gV zs) (g ws)) : DfnK P w K mg base k x ps ks gV sp := by
  obtain ⟨f, fd, F, m⟩ := E
  refine ⟨f, fd, g, ok F, m, F.kp, fun s ws hl => ?_, hr⟩
  obtain ⟨oc, od, kV, doc, pm, an, cdv, ct, osl, rfl, lk, hcd⟩ := F.ex
  exact .of_eq (hb kV doc pm an cdv ct ws hl)
end
theorem nob_of {mg : Str → Option Value} (b0 : mg "isinstance" = none) (b1 : mg "int" = none) (b2 : mg "bool" = none) (b3 : mg "list" = none) (b4 : mg "tuple" = none) (b5 : mg "str" = none) (b6 : mg "len" = none) (b7 : mg "min" = none) (b8 : mg "max" = none) (b9 : mg "abs" = none) (b10 : mg "sorted" = none) (b11 : mg "repr" = none) (b12 : mg "all" = none) (b13 : mg "any" = none) (b14 : mg "sum" = none) (b15 : mg "enumerate" = none) (b16 : mg "range" = none) (b17 : mg "zip" = none) (b18 : mg "dict" = none) (b19 : mg "set" = none) : NoGl mg := by
  intro x hx
  unfold bnames at hx
  rcases List.mem_cons.mp hx with e | hx
  · rw [e]; exact b0
  rcases List.mem_cons.mp hx with e | hx
  · rw [e]; exact b1
  rcases List.mem_cons.mp hx with e | hx
  · rw [e]; exact b2
  rcases List.mem_cons.mp hx with e | hx
  · rw [e]; exact b3
  rcases List.mem_cons.mp hx with e | hx
  · rw [e]; exact b4
  rcases List.mem_cons.mp hx with e | hx
  · rw [e]; exact b5
  rcases List.mem_cons.mp hx with e | hx
  · rw [e]; exact b6
  rcases List.mem_cons.mp hx with e | hx
  · rw [e]; exact b7
  rcases List.mem_cons.mp hx with e | hx
  · rw [e]; exact b8
  rcases List.mem_cons.mp hx with e | hx
  · rw [e]; exact b9
  rcases List.mem_cons.mp hx with e | hx
  · rw [e]; exact b10
  rcases List.mem_cons.mp hx with e | hx
  · rw [e]; exact b11
  rcases List.mem_cons.mp hx with e | hx
  · rw [e]; exact b12
  rcases List.mem_cons.mp hx with e | hx
  · rw [e]; exact b13
  rcases List.mem_cons.mp hx with e | hx
  · rw [e]; exact b14
  rcases List.mem_cons.mp hx with e | hx
  · rw [e]; exact b15
  rcases List.mem_cons.mp hx with e | hx
  · rw [e]; exact b16
  rcases List.mem_cons.mp hx with e | hx
  · rw [e]; exact b17
  rcases List.mem_cons.mp hx with e | hx
  · rw [e]; exact b18
  rcases List.mem_cons.mp hx with e | hx
  · rw [e]; exact b19
  cases hx
/-- the top's table, as far as it is needed -/
structure Top (K : PySem.W.Frag) (mg : Str → Option Value) : Prop where
  nb : NoGl mg
  e8 : Entry K mg "is_integer" (top 8)
  e9 : Entry K mg "is_number" (top 9)
  e10 : Entry K mg "is_sequence" (top 10)
  e12 : Entry K mg "is_mark_pair" (top 12)
  e13 : Entry K mg "need_people_names" (top 13)
  e14 : Entry K mg "is_pair_of" (top 14)
  e15 : Entry K mg "is_link_of" (top 15)
  e16 : Entry K mg "frozen_pair" (top 16)
  e17 : Entry K mg "link_place" (top 17)
  e18 : Entry K mg "need_links" (top 18)
  e19 : Entry K mg "need_bars" (top 19)
  e20 : Entry K mg "need_web" (top 20)
  e21 : Entry K mg "link_order" (top 21)
  e22 : Entry K mg "lone_groups" (top 22)
  e23 : Entry K mg "join_groups" (top 23)
  e24 : Entry K mg "bars_between" (top 24)
  e25 : Entry K mg "told_groups" (top 25)
  e26 : Entry K mg "next_fate" (top 26)
  e27 : Entry K mg "rule_groups" (top 27)
  e28 : Entry K mg "link_fates" (top 28)
  e29 : Entry K mg "rule_people" (top 29)
  e30 : Entry K mg "tied_groups" (top 30)
  e31 : Entry K mg "link_pieces" (top 31)
  e32 : Entry K mg "need_name_of" (top 32)
  e33 : Entry K mg "first_weight" (top 33)
  e34 : Entry K mg "people_above" (top 34)
  e36 : Entry K mg "_law_box" (top 36)
  e37 : Entry K mg "_law_take" (top 37)
  e38 : Entry K mg "_law_pick" (top 38)
  e39 : Entry K mg "_law_names" (top 39)
  e40 : Entry K mg "_law_web" (top 40)
  e41 : Entry K mg "_law_rule" (top 41)
  e42 : Entry K mg "_law_parts" (top 42)
  e43 : Entry K mg "law" (top 43)
section
variable {P : Program} {w : World} {K : PySem.W.Frag} {mg : Str → Option Value} {base : Heap}
def swapV : List Value → List Value
  | [a, b] => [b, a]
  | us => us
theorem swap2_rel {zs : List V} {ws : List Value} (r : Vals zs ws) : Vals (swap2 zs) (swapV ws) := by
  match r with
  | .nil => exact .nil
  | .cons a .nil => exact .cons a .nil
  | .cons a (.cons b .nil) => exact .cons b (.cons a .nil)
  | .cons a (.cons b (.cons c t)) => exact .cons a (.cons b (.cons c t))
theorem Top.defs (T : Top K mg) : Defs P w K mg base := by
  have nb := T.nb
  have F8 : Dfn P w K mg base 1 "is_integer" ["value"] (spR K R8) := mkD T.e8 (fun F => ok8 F nb) fun _ _ _ _ _ _ us hl => match us, hl with | [_], _ => rfl
  have F10 : Dfn P w K mg base 1 "is_sequence" ["value"] (spR K R10) := mkD T.e10 (fun F => ok10 F nb) fun _ _ _ _ _ _ us hl => match us, hl with | [_], _ => rfl
  have F9 : Dfn P w K mg base 2 "is_number" ["value"] (spR K R9) := mkD T.e9 (fun F => ok9 F nb F8) fun _ _ _ _ _ _ us hl => match us, hl with | [_], _ => rfl
  have F12 : Dfn P w K mg base 3 "is_mark_pair" ["value"] (spR K R12) := mkD T.e12 (fun F => ok12 F nb F9 F10) fun _ _ _ _ _ _ us hl => match us, hl with | [_], _ => rfl
  have F13 : Dfn P w K mg base 4 "need_people_names" ["value"] (spR K R13) := mkD T.e13 (fun F => ok13 F nb F10 F12) fun _ _ _ _ _ _ us hl => match us, hl with | [_], _ => rfl
  have F14 : Dfn P w K mg base 4 "is_pair_of" ["names", "value"] (spR K R14) := mkD T.e14 (fun F => ok14 F nb F10 F12) fun _ _ _ _ _ _ us hl => match us, hl with | [_, _], _ => rfl
  have F15 : Dfn P w K mg base 5 "is_link_of" ["names", "value"] (spR K R15) := mkD T.e15 (fun F => ok15 F nb F8 F10 F14) fun _ _ _ _ _ _ us hl => match us, hl with | [_, _], _ => rfl
  have F16 : Dfn P w K mg base 1 "frozen_pair" ["value"] (spR K R16) := mkD T.e16 (fun F => ok16 F nb) fun _ _ _ _ _ _ us hl => match us, hl with | [_], _ => rfl
  obtain ⟨f17, fd17, F17, m17⟩ := T.e17
  have F18 : Dfn P w K mg base 6 "need_links" ["names", "value"] (spR K R18) := mkD T.e18 (fun F => ok18 F nb F10 F15 F16 F17 m17) fun _ _ _ _ _ _ us hl => match us, hl with | [_, _], _ => rfl
  have F19 : Dfn P w K mg base 6 "need_bars" ["names", "value"] (spR K R19) := mkD T.e19 (fun F => ok19 F nb F10 F14 F16) fun _ _ _ _ _ _ us hl => match us, hl with | [_, _], _ => rfl
  have F20 : Dfn P w K mg base 7 "need_web" ["names", "links", "bars"] (spR K R20) := mkD T.e20 (fun F => ok20 F nb F13 F18 F19) fun _ _ _ _ _ _ us hl => match us, hl with | [_, _, _], _ => rfl
  have F22 : Dfn P w K mg base 1 "lone_groups" ["names"] (sp22 P w K) := mkD T.e22 (fun F => ok22 F nb) fun _ _ _ _ _ _ us hl => match us, hl with | [_], _ => rfl
  have F23 : Dfn P w K mg base 1 "join_groups" ["groups", "one", "other"] (sp23 P w K) := mkD T.e23 (fun F => ok23 F nb) fun _ _ _ _ _ _ us hl => match us, hl with | [_, _, _], _ => rfl
  have F24 : Dfn P w K mg base 1 "bars_between" ["groups", "bars", "one", "other"] (sp24 P w K) := mkD T.e24 (fun F => ok24 F nb) fun _ _ _ _ _ _ us hl => match us, hl with | [_, _, _, _], _ => rfl
  have F25 : Dfn P w K mg base 1 "told_groups" ["groups"] (sp25 P w K) := mkD T.e25 (fun F => ok25 F nb) fun _ _ _ _ _ _ us hl => match us, hl with | [_], _ => rfl
  have F26 : Dfn P w K mg base 2 "next_fate" ["groups", "bars", "link"] (sp26 P w K) := mkD T.e26 (fun F => ok26 F nb F23 F24) fun _ _ _ _ _ _ us hl => match us, hl with | [_, _, _], _ => rfl
  have F27 : Dfn P w K mg base 3 "rule_groups" ["names", "links", "bars"] (sp27 P w K) := mkD T.e27 (fun F => ok27 F nb F22 F26) fun _ _ _ _ _ _ us hl => match us, hl with | [_, _, _], _ => rfl
  have F30 : Dfn P w K mg base 4 "tied_groups" ["names", "links"] (sp30 P w K) := mkD T.e30 (fun F => ok30 F nb F27) fun _ _ _ _ _ _ us hl => match us, hl with | [_, _], _ => rfl
  have F32 : Dfn P w K mg base 4 "need_name_of" ["names", "value", "at"] (spR K R32) := mkD T.e32 (fun F => ok32 F nb F12) fun _ _ _ _ _ _ us hl => match us, hl with | [_, _, _], _ => rfl
  have F37 : Dfn P w K mg base 1 "_law_take" ["box", "many"] (sp37 K) := mkD T.e37 (fun F => ok37 F nb) fun _ _ _ _ _ _ us hl => match us, hl with | [_, _], _ => rfl
  have F38 : Dfn P w K mg base 2 "_law_pick" ["box", "some"] (sp38 K) := mkD T.e38 (fun F => ok38 F nb F37) fun _ _ _ _ _ _ us hl => match us, hl with | [_, _], _ => rfl
  exact {
    f21 := mkK swapV T.e21 (fun F => ok21 F nb F13 F18) (fun _ _ _ _ _ _ ws hl => match ws, hl with | [_, _], _ => rfl) swap2_rel
    f28 := mkK id T.e28 (fun F => ok28 F nb F20 F27) (fun _ _ _ _ _ _ ws hl => match ws, hl with | [_, _, _], _ => rfl) fun r => r
    f29 := mkD T.e29 (fun F => ok29 F nb F20 F25 F27) fun _ _ _ _ _ _ us hl => match us, hl with | [_, _, _], _ => rfl
    f31 := mkK id T.e31 (fun F => ok31 F nb F13 F18 F25 F30) (fun _ _ _ _ _ _ ws hl => match ws, hl with | [_, _], _ => rfl) fun r => r
    f33 := mkK id T.e33 (fun F => ok33 F nb F20 F22 F26 F32) (fun _ _ _ _ _ _ ws hl => match ws, hl with | [_, _, _, _, _], _ => rfl) fun r => r
    f34 := mkK id T.e34 (fun F => ok34 F nb F8 F20 F25 F27) (fun _ _ _ _ _ _ ws hl => match ws, hl with | [_, _, _, _], _ => rfl) fun r => r
    f36 := mkD T.e36 (fun F => ok36 F nb) fun _ _ _ _ _ _ us hl => match us, hl with | [_, _], _ => rfl
    f37 := F37
    f38 := F38
    f39 := mkD T.e39 (fun F => ok39 F nb F37) fun _ _ _ _ _ _ us hl => match us, hl with | [_, _], _ => rfl
    f40 := mkD T.e40 (fun F => ok40 F nb F37 F38) fun _ _ _ _ _ _ us hl => match us, hl with | [_, _], _ => rfl
    f41 := mkD T.e41 (fun F => ok41 F nb) fun _ _ _ _ _ _ us hl => match us, hl with | [_, _, _], _ => rfl
    f42 := mkD T.e42 (fun F => ok42 F nb) fun _ _ _ _ _ _ us hl => match us, hl with | [_, _], _ => rfl }
/-- the law's call, from the top's table -/
theorem walk {l : PySem.W.OpenLaw} {q : Program} {loose : List Str} {XP : (Str → Option Value) → Heap → Prop} {YP : World → Heap → Prop} {d : DefRec} {K : Params → PySem.W.Frag} (hn : l.most = some 63) (hdf : d.params.defaults = []) (hd : d.name = "law") (hY : ∀ (w : World) (h : Heap), YP w h → (K w.params).In h)
    (F : ∀ (w : World) (mg : Str → Option Value) (h : Heap), (K w.params).In h → h.Ns mainGlobals mg → Top (K w.params) mg) : PySem.W.WalkO q loose XP YP l.row.toRowW d [] (fun f vs => PySem.call f vs) := by
  refine Att.attach_call hn hdf fun w s0 s1 mg mb fa o pm cd doc a vs ns G Y ho hdd hcd hmg hobj hints hlen gens => ?_
  have KX := hY w _ Y
  have T := F w mg _ KX G.T.g
  obtain ⟨f, fd, F43, m43⟩ := id T.e43
  rw [hd, m43] at hmg
  injection hmg with hmg
  injection hmg with hmg
  subst hmg
  refine end_call KX G.T.g G.T.b G.T.builtins G.T.nolimit gens hobj hints (Nat.le_trans hlen (by decide)) fun base H hK hN e0 hS => ?_
  have hr : Room 10 callerA := ⟨rfl, by decide, by decide⟩
  have hb : BindsTo s1 fd ⟨[.ref a], []⟩ [("script", .ref a)] := by
    obtain ⟨a1, a2, a3, a4, a5, a6, cdv, a8, a9, rfl, lk, hc⟩ := F43.ex
    exact .of_eq rfl
  refine run_one F43 sc43 (v := .ref a) hr e0 hb rfl rfl fun cdv => ?_
  have hr9 : Room 9 (callerA.deeper (envOfC "law" (defScope (top 43)) s1.heap.objs.size f cdv)) := hr.deeper _
  exact law_body T.defs hr9 rfl ⟨rfl, by have := hr9.un; show (callerA.deeper _).units + 100 < _; omega, T.nb, sc43.nd⟩ hS
end
end Who

open PySem PySem.W PyProof.Rows
set_option maxRecDepth 100000 in
set_option maxHeartbeats 0 in
theorem PySem.Challenge.cw_whoiswho_k91_whole_plain_rule_over_many_holds : PySem.Challenge.rw_whoiswho_k91_whole_plain_rule_over_many.Holds := by
  w_on; o_law; k_head; (case hw => w_witness2)
  k_fill
  refine Who.walk (l := PySem.Challenge.rw_whoiswho_k91_whole_plain_rule_over_many) rfl rfl rfl (fun w h Y => PySem.W.kIn_of Y) ?F
  case F =>
    intro w mg h KX G
    refine' Who.Top.mk (Who.nob_of (PySem.W.mg_none_of KX G ?z0) (PySem.W.mg_none_of KX G ?z1) (PySem.W.mg_none_of KX G ?z2) (PySem.W.mg_none_of KX G ?z3) (PySem.W.mg_none_of KX G ?z4) (PySem.W.mg_none_of KX G ?z5) (PySem.W.mg_none_of KX G ?z6) (PySem.W.mg_none_of KX G ?z7) (PySem.W.mg_none_of KX G ?z8) (PySem.W.mg_none_of KX G ?z9) (PySem.W.mg_none_of KX G ?z10) (PySem.W.mg_none_of KX G ?z11) (PySem.W.mg_none_of KX G ?z12) (PySem.W.mg_none_of KX G ?z13) (PySem.W.mg_none_of KX G ?z14) (PySem.W.mg_none_of KX G ?z15) (PySem.W.mg_none_of KX G ?z16) (PySem.W.mg_none_of KX G ?z17) (PySem.W.mg_none_of KX G ?z18) (PySem.W.mg_none_of KX G ?z19)) (Who.entry KX G ?a8 ?l8 ?c8 ?k8) (Who.entry KX G ?a9 ?l9 ?c9 ?k9) (Who.entry KX G ?a10 ?l10 ?c10 ?k10) (Who.entry KX G ?a12 ?l12 ?c12 ?k12) (Who.entry KX G ?a13 ?l13 ?c13 ?k13) (Who.entry KX G ?a14 ?l14 ?c14 ?k14) (Who.entry KX G ?a15 ?l15 ?c15 ?k15) (Who.entry KX G ?a16 ?l16 ?c16 ?k16) (Who.entry KX G ?a17 ?l17 ?c17 ?k17) (Who.entry KX G ?a18 ?l18 ?c18 ?k18) (Who.entry KX G ?a19 ?l19 ?c19 ?k19) (Who.entry KX G ?a20 ?l20 ?c20 ?k20) (Who.entry KX G ?a21 ?l21 ?c21 ?k21) (Who.entry KX G ?a22 ?l22 ?c22 ?k22) (Who.entry KX G ?a23 ?l23 ?c23 ?k23) (Who.entry KX G ?a24 ?l24 ?c24 ?k24) (Who.entry KX G ?a25 ?l25 ?c25 ?k25) (Who.entry KX G ?a26 ?l26 ?c26 ?k26) (Who.entry KX G ?a27 ?l27 ?c27 ?k27) (Who.entry KX G ?a28 ?l28 ?c28 ?k28) (Who.entry KX G ?a29 ?l29 ?c29 ?k29) (Who.entry KX G ?a30 ?l30 ?c30 ?k30) (Who.entry KX G ?a31 ?l31 ?c31 ?k31) (Who.entry KX G ?a32 ?l32 ?c32 ?k32) (Who.entry KX G ?a33 ?l33 ?c33 ?k33) (Who.entry KX G ?a34 ?l34 ?c34 ?k34) (Who.entry KX G ?a36 ?l36 ?c36 ?k36) (Who.entry KX G ?a37 ?l37 ?c37 ?k37) (Who.entry KX G ?a38 ?l38 ?c38 ?k38) (Who.entry KX G ?a39 ?l39 ?c39 ?k39) (Who.entry KX G ?a40 ?l40 ?c40 ?k40) (Who.entry KX G ?a41 ?l41 ?c41 ?k41) (Who.entry KX G ?a42 ?l42 ?c42 ?k42) (Who.entry KX G ?a43 ?l43 ?c43 ?k43)
    (case z0 => k_is)
    (case z1 => k_is)
    (case z2 => k_is)
    (case z3 => k_is)
    (case z4 => k_is)
    (case z5 => k_is)
    (case z6 => k_is)
    (case z7 => k_is)
    (case z8 => k_is)
    (case z9 => k_is)
    (case z10 => k_is)
    (case z11 => k_is)
    (case z12 => k_is)
    (case z13 => k_is)
    (case z14 => k_is)
    (case z15 => k_is)
    (case z16 => k_is)
    (case z17 => k_is)
    (case z18 => k_is)
    (case z19 => k_is)
    (case a8 => k_is); (case l8 => k_is); (case c8 => k_is); (case k8 => k_is)
    (case a9 => k_is); (case l9 => k_is); (case c9 => k_is); (case k9 => k_is)
    (case a10 => k_is); (case l10 => k_is); (case c10 => k_is); (case k10 => k_is)
    (case a12 => k_is); (case l12 => k_is); (case c12 => k_is); (case k12 => k_is)
    (case a13 => k_is); (case l13 => k_is); (case c13 => k_is); (case k13 => k_is)
    (case a14 => k_is); (case l14 => k_is); (case c14 => k_is); (case k14 => k_is)
    (case a15 => k_is); (case l15 => k_is); (case c15 => k_is); (case k15 => k_is)
    (case a16 => k_is); (case l16 => k_is); (case c16 => k_is); (case k16 => k_is)
    (case a17 => k_is); (case l17 => k_is); (case c17 => k_is); (case k17 => k_is)
    (case a18 => k_is); (case l18 => k_is); (case c18 => k_is); (case k18 => k_is)
    (case a19 => k_is); (case l19 => k_is); (case c19 => k_is); (case k19 => k_is)
    (case a20 => k_is); (case l20 => k_is); (case c20 => k_is); (case k20 => k_is)
    (case a21 => k_is); (case l21 => k_is); (case c21 => k_is); (case k21 => k_is)
    (case a22 => k_is); (case l22 => k_is); (case c22 => k_is); (case k22 => k_is)
    (case a23 => k_is); (case l23 => k_is); (case c23 => k_is); (case k23 => k_is)
    (case a24 => k_is); (case l24 => k_is); (case c24 => k_is); (case k24 => k_is)
    (case a25 => k_is); (case l25 => k_is); (case c25 => k_is); (case k25 => k_is)
    (case a26 => k_is); (case l26 => k_is); (case c26 => k_is); (case k26 => k_is)
    (case a27 => k_is); (case l27 => k_is); (case c27 => k_is); (case k27 => k_is)
    (case a28 => k_is); (case l28 => k_is); (case c28 => k_is); (case k28 => k_is)
    (case a29 => k_is); (case l29 => k_is); (case c29 => k_is); (case k29 => k_is)
    (case a30 => k_is); (case l30 => k_is); (case c30 => k_is); (case k30 => k_is)
    (case a31 => k_is); (case l31 => k_is); (case c31 => k_is); (case k31 => k_is)
    (case a32 => k_is); (case l32 => k_is); (case c32 => k_is); (case k32 => k_is)
    (case a33 => k_is); (case l33 => k_is); (case c33 => k_is); (case k33 => k_is)
    (case a34 => k_is); (case l34 => k_is); (case c34 => k_is); (case k34 => k_is)
    (case a36 => k_is); (case l36 => k_is); (case c36 => k_is); (case k36 => k_is)
    (case a37 => k_is); (case l37 => k_is); (case c37 => k_is); (case k37 => k_is)
    (case a38 => k_is); (case l38 => k_is); (case c38 => k_is); (case k38 => k_is)
    (case a39 => k_is); (case l39 => k_is); (case c39 => k_is); (case k39 => k_is)
    (case a40 => k_is); (case l40 => k_is); (case c40 => k_is); (case k40 => k_is)
    (case a41 => k_is); (case l41 => k_is); (case c41 => k_is); (case k41 => k_is)
    (case a42 => k_is); (case l42 => k_is); (case c42 => k_is); (case k42 => k_is)
    (case a43 => k_is); (case l43 => k_is); (case c43 => k_is); (case k43 => k_is)

