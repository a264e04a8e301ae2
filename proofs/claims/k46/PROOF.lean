import PyProof.Rows.All
import Wide.All
import OpenK.AllK
import Wide.FinOn
import HandS.ForMost
import HandS.Flow
import HandS.Style
import HandS.Finally
import HandS.NoneIn
import HandS.Conv
import HandS.More
import HandS.DictComp
import HandS.IsInst
import HandS.Wide
import HandS.StrMore
import HandS.Replace
import HandS.Zip
import HandS.Walk
import KE.KUnpackStar
import PySem.Challenge.RW_gromatic_k46_whole_least_cost_is_balance
set_option Elab.async false
set_option linter.all false
set_option maxRecDepth 100000
set_option maxHeartbeats 4000000
namespace Gm
open PySem L2

/-! ### what stays: between two abstract heaps -/
/-- the weak one: tuples, dicts to be read, instances stand -/
structure Wk (H H' : Hp) : Prop where
  tup : ∀ a xs, Rd H a (.tup xs) → Rd H' a (.tup xs)
  dic : ∀ a kvs, Rd H a (.dK kvs) → Rd H' a (.dK kvs)
  ins : ∀ a C dx fs, H a = some (.ins C dx fs) → H' a = some (.ins C dx fs)
theorem Wk.refl (H : Hp) : Wk H H := ⟨fun _ _ h => h, fun _ _ h => h, fun _ _ _ _ h => h⟩
theorem Wk.trans {A B C : Hp} (a : Wk A B) (b : Wk B C) : Wk A C :=
  ⟨fun x xs h => b.tup x xs (a.tup x xs h), fun x k h => b.dic x k (a.dic x k h), fun x C d f h => b.ins x C d f (a.ins x C d f h)⟩
theorem Wk.sqT {K : PySem.W.Frag} {H H' : Hp} {a : Addr} {xs : List V} (w : Wk H H') (h : SqT K H a xs) : SqT K H' a xs := by
  rcases h with h | h
  · exact .inl (w.tup _ _ h)
  · exact .inr h
/-- the strong ones: all that is known stands but the lists at bad -/
class PreE (E : Hp → Hp → Prop) where
  bad : Addr → Prop
  trans : ∀ {A B C : Hp}, E A B → E B C → E A C
  rl : ∀ {A B : Hp}, E A B → E A A
  rr : ∀ {A B : Hp}, E A B → E B B
  keep : ∀ {A B : Hp} {a : Addr} {o : HO}, E A B → ¬ bad a → A a = some o → B a = some o
  nb : ∀ {A B : Hp} {a : Addr} {o : HO}, E A B → A a = some o → (∀ xs, o ≠ .lst xs) → ¬ bad a
  new : ∀ {A : Hp} {p : Addr} {o : HO}, E A A → A p = none → E A (upd A p o)
  muts : ∀ {A B : Hp} {p : Addr} {o : HO}, E A B → A p = none → E A (upd B p o)
instance : PreE Same where
  bad := fun _ => False
  trans := fun a b => a.trans b
  rl := fun _ => Same.refl _
  rr := fun _ => Same.refl _
  keep := fun e _ h => e _ _ h
  nb := fun _ _ _ h => h
  new := fun {A p o} _ h b u e => by rw [upd_ne (ne_of_none e h)]; exact e
  muts := fun {A B p o} e h a u ha => by rw [upd_ne (ne_of_none ha h)]; exact e a u ha
section
variable {E : Hp → Hp → Prop} [PreE E] {A B : Hp}
theorem PreE.one {a : Addr} {o : HO} (e : E A B) (hn : ∀ xs, o ≠ .lst xs) (h : A a = some o) : B a = some o := PreE.keep e (PreE.nb e h hn) h
theorem PreE.rd {a : Addr} {o : HO} (e : E A B) (hn : ∀ xs, o ≠ .lst xs) (h : Rd A a o) : Rd B a o := by
  rcases h with h | ⟨u, h⟩
  · exact .inl (PreE.one e hn h)
  · exact .inr ⟨u, PreE.one e (fun _ z => nomatch z) h⟩
theorem PreE.wk (e : E A B) : Wk A B :=
  ⟨fun _ _ h => PreE.rd e (fun _ z => nomatch z) h, fun _ _ h => PreE.rd e (fun _ z => nomatch z) h, fun _ _ _ _ h => PreE.one e (fun _ z => nomatch z) h⟩
theorem PreE.free {p : Addr} (e : E A B) (h : B p = none) (nb : ¬ PreE.bad E p) : A p = none := by
  cases q : A p with
  | none => rfl
  | some o => rw [PreE.keep e nb q] at h; cases h
end
theorem _root_.L2.Same.wk {A B : Hp} (e : Same A B) : Wk A B := PreE.wk e
/-- a dict is locked -/
theorem Wk.lock {H : Hp} {d : Addr} {od : Obj} {kvs : List (Key × V)} (h : H d = some (.dK kvs)) : Wk H (upd H d (.frz od (.dK kvs))) := by
  refine ⟨fun a xs q => ?_, fun a k q => ?_, fun a C dx fs q => ?_⟩
  · rcases q with q | ⟨u, q⟩
    · exact .inl (by rw [upd_ne (ne_of q h (fun z => nomatch z))]; exact q)
    · exact .inr ⟨u, by rw [upd_ne (ne_of q h (fun z => nomatch z))]; exact q⟩
  · by_cases e : a = d
    · subst e
      rcases q with q | ⟨u, q⟩
      · rw [h] at q; cases q; exact .inr ⟨od, upd_same⟩
      · rw [h] at q; cases q
    · rcases q with q | ⟨u, q⟩
      · exact .inl (by rw [upd_ne e]; exact q)
      · exact .inr ⟨u, by rw [upd_ne e]; exact q⟩
  · rw [upd_ne (ne_of q h (fun z => nomatch z))]; exact q
/-- .. and let go -/
theorem _root_.L2.Same.lock {H H2 : Hp} {d : Addr} {od : Obj} {u : HO} (h : H d = some u) (e : Same (upd H d (.frz od u)) H2) : Same H (upd H2 d u) := fun a o q => by
  by_cases z : a = d
  · subst z; rw [h] at q; cases q; exact upd_same
  · rw [upd_ne z]; exact e a o (by rw [upd_ne z]; exact q)
/-- a new object that the old heap does not know is changed -/
theorem _root_.L2.Same.«mut» {H H' : Hp} {p : Addr} {o : HO} (e : Same H H') (h : H p = none) : Same H (upd H' p o) := fun a u ha => by
  rw [upd_ne (ne_of_none ha h)]; exact e a u ha
theorem _root_.L2.Same.new {H : Hp} {p : Addr} {o : HO} (h : H p = none) : Same H (upd H p o) := fun a u e => by rw [upd_ne (ne_of_none e h)]; exact e
/-- a list, a dict is written: what may be read of tuples, of other dicts .. -/
theorem Wk.putL {H : Hp} {p : Addr} {xs ys : List V} (h : H p = some (.lst xs)) : Wk H (upd H p (.lst ys)) := by
  refine ⟨fun a z q => ?_, fun a k q => ?_, fun a C dx fs q => ?_⟩
  · rcases q with q | ⟨u, q⟩
    · exact .inl (by rw [upd_ne (ne_of q h (fun z => nomatch z))]; exact q)
    · exact .inr ⟨u, by rw [upd_ne (ne_of q h (fun z => nomatch z))]; exact q⟩
  · rcases q with q | ⟨u, q⟩
    · exact .inl (by rw [upd_ne (ne_of q h (fun z => nomatch z))]; exact q)
    · exact .inr ⟨u, by rw [upd_ne (ne_of q h (fun z => nomatch z))]; exact q⟩
  · rw [upd_ne (ne_of q h (fun z => nomatch z))]; exact q

theorem Wk.unlock {H : Hp} {d : Addr} {od : Obj} {kvs : List (Key × V)} (h : H d = some (.frz od (.dK kvs))) : Wk H (upd H d (.dK kvs)) := by
  refine ⟨fun a xs q => ?_, fun a k q => ?_, fun a C dx fs q => ?_⟩
  · have ne : a ≠ d := fun e => by
      subst e
      rcases q with q | ⟨u, q⟩ <;> rw [h] at q <;> cases q
    rcases q with q | ⟨u, q⟩
    · exact .inl (by rw [upd_ne ne]; exact q)
    · exact .inr ⟨u, by rw [upd_ne ne]; exact q⟩
  · by_cases e : a = d
    · subst e
      rcases q with q | ⟨u, q⟩
      · rw [h] at q; cases q
      · rw [h] at q; cases q; exact .inl upd_same
    · rcases q with q | ⟨u, q⟩
      · exact .inl (by rw [upd_ne e]; exact q)
      · exact .inr ⟨u, by rw [upd_ne e]; exact q⟩
  · rw [upd_ne (ne_of q h (fun z => nomatch z))]; exact q
/-- the weak one, and the lists stand as they are -/
structure WkL (H H' : Hp) : Prop where
  wk : Wk H H'
  lst : ∀ a xs, H a = some (.lst xs) → H' a = some (.lst xs)
  dic : ∀ a kvs, H a = some (.dK kvs) → H' a = some (.dK kvs)
theorem _root_.L2.Same.wkL {A B : Hp} (e : Same A B) : WkL A B := ⟨e.wk, fun _ _ h => e _ _ h, fun _ _ h => e _ _ h⟩
theorem WkL.unlock {H : Hp} {d : Addr} {od : Obj} {kvs : List (Key × V)} (h : H d = some (.frz od (.dK kvs))) : WkL H (upd H d (.dK kvs)) :=
  ⟨Wk.unlock h, fun a xs q => by rw [upd_ne (ne_of q h (fun z => nomatch z))]; exact q, fun a xs q => by rw [upd_ne (ne_of q h (fun z => nomatch z))]; exact q⟩

/-! ### properties of a value that stay -/
class MonW (R : V → Hp → Prop) : Prop where
  mono : ∀ {v : V} {A B : Hp}, Wk A B → R v A → R v B
class MonL (R : V → Hp → Prop) : Prop where
  mono : ∀ {v : V} {A B : Hp}, WkL A B → R v A → R v B
class MonE (E : Hp → Hp → Prop) (R : V → Hp → Prop) : Prop where
  mono : ∀ {v : V} {A B : Hp}, E A B → R v A → R v B
instance (priority := low) {R : V → Hp → Prop} [MonW R] : MonL R := ⟨fun w h => MonW.mono w.wk h⟩
instance {R : V → Hp → Prop} [MonL R] : MonE Same R := ⟨fun w h => MonL.mono w.wkL h⟩
instance (priority := low) {E : Hp → Hp → Prop} [PreE E] {R : V → Hp → Prop} [MonW R] : MonE E R := ⟨fun w h => MonW.mono (PreE.wk w) h⟩
def Is (v : V) : V → Hp → Prop := fun x _ => x = v
instance {v : V} : MonW (Is v) := ⟨fun _ h => h⟩
/-- a tuple of xs -/
def TupV (K : PySem.W.Frag) (xs : List V) : V → Hp → Prop := fun v H => ∃ a, v = .ref a ∧ SqT K H a xs
instance {K : PySem.W.Frag} {xs : List V} : MonW (TupV K xs) := ⟨fun w ⟨a, e, h⟩ => ⟨a, e, w.sqT h⟩⟩
/-- a new list of xs -/
def LstV (xs : List V) : V → Hp → Prop := fun v H => ∃ a, v = .ref a ∧ H a = some (.lst xs)
instance {xs : List V} : MonL (LstV xs) := ⟨fun w ⟨a, e, h⟩ => ⟨a, e, w.lst _ _ h⟩⟩
/-- a ratio -/
def Rt (K : PySem.W.Frag) (q : Rat) : V → Hp → Prop := TupV K [.int q.num, .int (q.den : Int)]
instance {K : PySem.W.Frag} {q : Rat} : MonW (Rt K q) := inferInstanceAs (MonW (TupV K _))

/-! ### what evaluates to what -/
section
variable (E : Hp → Hp → Prop)
def Eva (te : TE) (σ : L2.St) (H : Hp) (R : V → Hp → Prop) : Prop := ∀ H1, E H H1 → ∀ Q : VK, (∀ v H2, E H1 H2 → R v H2 → Q v H2) → te σ H1 Q
def EvA (ta : TA) (σ : L2.St) (H : Hp) (R : List V → Hp → Prop) : Prop := ∀ H1, E H H1 → ∀ Q : List V → Hp → Prop, (∀ v H2, E H1 H2 → R v H2 → Q v H2) → ta σ H1 Q
def EvT (tt : TT) (σ : L2.St) (H : Hp) (b : Bool) : Prop := ∀ H1, E H H1 → ∀ Q : Bool → Hp → Prop, (∀ H2, E H1 H2 → Q b H2) → tt σ H1 Q
end
section
variable {E : Hp → Hp → Prop} [PreE E] {K : PySem.W.Frag} {σ : L2.St} {H H' : Hp} {ta tb te tx : TE} {t u : TT} {x y z v : V} {r : R2} {R S : V → Hp → Prop} {RA : List V → Hp → Prop}
theorem Eva.at (e : E H H') (h : Eva E te σ H R) : Eva E te σ H' R := fun H1 a Q q => h H1 (PreE.trans e a) Q q
theorem EvT.at {b : Bool} (e : E H H') (h : EvT E t σ H b) : EvT E t σ H' b := fun H1 a Q q => h H1 (PreE.trans e a) Q q
theorem Eva.imp (h : Eva E te σ H R) (i : ∀ v H1, E H H1 → R v H1 → S v H1) : Eva E te σ H S := fun H1 e Q q => h H1 e Q fun v H2 e2 r => q v H2 e2 (i v H2 (PreE.trans e e2) r)
theorem ev_var {i : Nat} (h : σ[i]? = some (some v)) : Eva E (tVar i) σ H (Is v) := fun H1 e _ q => ⟨v, h, q v H1 (PreE.rr e) rfl⟩
theorem ev_varR {i : Nat} [MonE E R] (h : σ[i]? = some (some v)) (hr : R v H) : Eva E (tVar i) σ H R := fun H1 e _ q => ⟨v, h, q v H1 (PreE.rr e) (MonE.mono e hr)⟩
theorem ev_c : Eva E (tC v) σ H (Is v) := fun H1 e _ q => q v H1 (PreE.rr e) rfl
theorem ev_cR [MonW R] (hr : R v H) : Eva E (tC v) σ H R := fun H1 e _ q => q v H1 (PreE.rr e) (MonW.mono (PreE.wk e) hr)
/-- a two-place operation by its values, that makes nothing -/
theorem ev_op {P : V → V → Prop} [MonE E R] (ha : Eva E ta σ H R) (hb : Eva E tb σ H S) (hr : ∀ x y H1, E H H1 → R x H1 → S y H1 → ∀ Q : VK, (∀ v, v = z → Q v H1) → r x y H1 Q) : Eva E (tOp r ta tb) σ H (Is z) := fun H1 e Q q =>
  ha H1 e _ fun x H2 e2 rx => hb H2 (PreE.trans e e2) _ fun y H3 e3 ry => hr x y H3 (PreE.trans (PreE.trans e e2) e3) (MonE.mono e3 rx) ry Q fun v hv => q v H3 (PreE.trans e2 e3) hv
theorem ev_I {C : Int → Int → Prop} {g : Int → Int → V} {i j : Int} (ha : Eva E ta σ H (Is (.int i))) (hb : Eva E tb σ H (Is (.int j))) (hc : C i j) : Eva E (tOp (rI C g) ta tb) σ H (Is (g i j)) := fun H1 e Q q =>
  ha H1 e _ fun x H2 e2 rx => hb H2 (PreE.trans e e2) _ fun y H3 e3 ry => ⟨i, j, rx, ry, hc, q _ H3 (PreE.trans e2 e3) rfl⟩
theorem ev_I0 {g : Int → Int → V} {i j : Int} (ha : Eva E ta σ H (Is (.int i))) (hb : Eva E tb σ H (Is (.int j))) : Eva E (tOp (rI0 g) ta tb) σ H (Is (g i j)) := fun H1 e Q q =>
  ha H1 e _ fun x H2 e2 rx => hb H2 (PreE.trans e e2) _ fun y H3 e3 ry => ⟨i, j, rx, ry, q _ H3 (PreE.trans e2 e3) rfl⟩
theorem ev_U {g : Int → V} {i : Int} (ha : Eva E ta σ H (Is (.int i))) : Eva E (tUn (rU g) ta) σ H (Is (g i)) := fun H1 e Q q =>
  ha H1 e _ fun x H2 e2 rx => ⟨i, rx, q _ H2 e2 rfl⟩
theorem ev_ixT {xs : List V} {i : Int} (ha : Eva E ta σ H (TupV K xs)) (hb : Eva E tb σ H (Is (.int i))) (hi : atI xs i = some v) : Eva E (tOp (rIxT K) ta tb) σ H (Is v) := fun H1 e Q q =>
  ha H1 e _ fun x H2 e2 rx => hb H2 (PreE.trans e e2) _ fun y H3 e3 ry => by
    obtain ⟨a, ea, ht⟩ := MonW.mono (PreE.wk e3) rx
    exact ⟨a, xs, i, v, ea, ry, ht, hi, q _ H3 (PreE.trans e2 e3) rfl⟩
theorem ev_eq (ha : Eva E ta σ H (Is x)) (hb : Eva E tb σ H (Is y)) (hs : scal x y = true) : Eva E (tOp rEq ta tb) σ H (Is (.bl (decide (x = y)))) := fun H1 e Q q =>
  ha H1 e _ fun x' H2 e2 rx => hb H2 (PreE.trans e e2) _ fun y' H3 e3 ry => by
    cases rx; cases ry
    exact ⟨hs, q _ H3 (PreE.trans e2 e3) rfl⟩
theorem ev_ne (ha : Eva E ta σ H (Is x)) (hb : Eva E tb σ H (Is y)) (hs : scal x y = true) : Eva E (tOp rNe ta tb) σ H (Is (.bl (!decide (x = y)))) := fun H1 e Q q =>
  ha H1 e _ fun x' H2 e2 rx => hb H2 (PreE.trans e e2) _ fun y' H3 e3 ry => by
    cases rx; cases ry
    exact ⟨hs, q _ H3 (PreE.trans e2 e3) rfl⟩
theorem ea_nil : EvA E tNil σ H (fun vs _ => vs = []) := fun H1 e _ q => q _ H1 (PreE.rr e) rfl
theorem ea_cons {tr : TA} [MonE E R] (h : Eva E te σ H R) (hr : EvA E tr σ H RA) : EvA E (tCons te tr) σ H (fun vs H1 => ∃ v r, vs = v :: r ∧ R v H1 ∧ RA r H1) := fun H1 e Q q =>
  h H1 e _ fun v H2 e2 rv => hr H2 (PreE.trans e e2) _ fun vs H3 e3 rs => q _ H3 (PreE.trans e2 e3) ⟨v, vs, rfl, MonE.mono e3 rv, rs⟩
/-- a built-in by values -/
theorem ev_cb {rc : List V → Hp → VK → Prop} {tl : TA} (h : EvA E tl σ H RA) (hr : ∀ vs H1, E H H1 → RA vs H1 → ∀ Q : VK, (∀ v H2, E H1 H2 → S v H2 → Q v H2) → rc vs H1 Q) : Eva E (tCB rc tl) σ H S := fun H1 e Q q =>
  h H1 e _ fun vs H2 e2 rs => hr vs H2 (PreE.trans e e2) rs Q fun v H3 e3 s => q v H3 (PreE.trans e2 e3) s
/-- a call -/
theorem ev_call {sp : Sp} {dvs : List V} {X : XK} {tl : TA} (h : EvA E tl σ H RA) (hr : ∀ vs H1, E H H1 → RA vs H1 → ∀ Q : VK, (∀ v H2, E H1 H2 → S v H2 → Q v H2) → sp (vs ++ dvs) H1 Q X) : Eva E (tCall sp dvs X tl) σ H S := fun H1 e Q q =>
  h H1 e _ fun vs H2 e2 rs => hr vs H2 (PreE.trans e e2) rs Q fun v H3 e3 s => q v H3 (PreE.trans e2 e3) s
theorem ev_tup {tl : TA} (h : EvA E tl σ H RA) (n : Nat) (hn : ∀ vs H1, RA vs H1 → vs.length ≤ 100000) :
    Eva E (tTup tl) σ H (fun v H1 => ∃ a vs H0, v = .ref a ∧ H1 a = some (.tup vs) ∧ RA vs H0 ∧ Wk H0 H1) := fun H1 e Q q =>
  h H1 e _ fun vs H2 e2 rs => ⟨Nat.le_trans (hn vs H2 rs) (by decide), fun p hp => q _ _ (PreE.trans e2 (PreE.new (PreE.rr e2) hp)) ⟨p, vs, H2, rfl, upd_same, rs, PreE.wk (PreE.new (PreE.rr e2) hp)⟩⟩
theorem ev_if {b : Bool} (h : EvT E t σ H b) (h1 : b = true → Eva E ta σ H R) (h2 : b = false → Eva E tb σ H R) : Eva E (tIf t ta tb) σ H R := fun H1 e Q q => h H1 e _ fun H2 e2 => by
  cases b with
  | true =>
    show ta σ H2 Q
    exact h1 rfl H2 (PreE.trans e e2) Q fun v H3 e3 => q v H3 (PreE.trans e2 e3)
  | false =>
    show tb σ H2 Q
    exact h2 rfl H2 (PreE.trans e e2) Q fun v H3 e3 => q v H3 (PreE.trans e2 e3)
theorem et_test {b : Bool} (h : Eva E te σ H (Is (.bl b))) : EvT E (tTest te) σ H b := fun H1 e _ q => h H1 e _ fun v H2 e2 r => ⟨b, r, q H2 e2⟩
theorem et_B {b : Bool} (h : Eva E te σ H (Is (.bl b))) : EvT E (tB te) σ H b := fun H1 e _ q => h H1 e _ fun v H2 e2 r => ⟨b, r, q H2 e2⟩
theorem et_and {a b : Bool} (h1 : EvT E t σ H a) (h2 : a = true → EvT E u σ H b) : EvT E (tAnd t u) σ H (a && b) := fun H1 e Q q => h1 H1 e _ fun H2 e2 => by
  cases a with
  | true =>
    show u σ H2 Q
    exact h2 rfl H2 (PreE.trans e e2) Q fun H3 e3 => q H3 (PreE.trans e2 e3)
  | false =>
    show Q false H2
    exact q H2 e2
theorem et_or {a b : Bool} (h1 : EvT E t σ H a) (h2 : a = false → EvT E u σ H b) : EvT E (tOr t u) σ H (a || b) := fun H1 e Q q => h1 H1 e _ fun H2 e2 => by
  cases a with
  | true =>
    show Q true H2
    exact q H2 e2
  | false =>
    show u σ H2 Q
    exact h2 rfl H2 (PreE.trans e e2) Q fun H3 e3 => q H3 (PreE.trans e2 e3)
theorem et_not {a : Bool} (h1 : EvT E t σ H a) : EvT E (tNot t) σ H (!a) := fun H1 e _ q => h1 H1 e _ fun H2 e2 => q H2 e2
theorem ev_andV {a b : Bool} (h1 : Eva E ta σ H (Is (.bl a))) (h2 : a = true → Eva E tb σ H (Is (.bl b))) : Eva E (tAndV ta tb) σ H (Is (.bl (a && b))) := fun H1 e Q q => h1 H1 e _ fun v H2 e2 r => ⟨a, r, by
  cases a with
  | true =>
    show tb σ H2 Q
    exact h2 rfl H2 (PreE.trans e e2) Q fun v H3 e3 => q v H3 (PreE.trans e2 e3)
  | false =>
    show Q (.bl false) H2
    exact q _ H2 e2 rfl⟩
theorem ev_orV {a b : Bool} (h1 : Eva E ta σ H (Is (.bl a))) (h2 : a = false → Eva E tb σ H (Is (.bl b))) : Eva E (tOrV ta tb) σ H (Is (.bl (a || b))) := fun H1 e Q q => h1 H1 e _ fun v H2 e2 r => ⟨a, r, by
  cases a with
  | true =>
    show Q (.bl true) H2
    exact q _ H2 e2 rfl
  | false =>
    show tb σ H2 Q
    exact h2 rfl H2 (PreE.trans e e2) Q fun v H3 e3 => q v H3 (PreE.trans e2 e3)⟩
theorem ev_notV {a : Bool} (h1 : Eva E ta σ H (Is (.bl a))) : Eva E (tNotV ta) σ H (Is (.bl (!a))) := fun H1 e _ q => h1 H1 e _ fun v H2 e2 r => ⟨a, r, q _ H2 e2 rfl⟩

/-! ### statements -/
variable {D : Ends} {t1 t2 ts : TS}
theorem st_seq (h : t1 { D with nx := t2 D } σ H) : tSeq t1 t2 D σ H := h
theorem st_set {i : Nat} (h : Eva E te σ H R) (e0 : E H H) (k : ∀ v H1, E H H1 → R v H1 → t2 D (σ.set i (some v)) H1) : tSeq (tAsg te (gName i)) t2 D σ H := h H e0 _ fun v H1 e r => k v H1 e r
theorem st_set1 {i : Nat} (h : Eva E te σ H R) (e0 : E H H) (k : ∀ v H1, E H H1 → R v H1 → D.nx (σ.set i (some v)) H1) : tAsg te (gName i) D σ H := h H e0 _ fun v H1 e r => k v H1 e r
theorem st_ret (h : Eva E te σ H R) (e0 : E H H) (k : ∀ v H1, E H H1 → R v H1 → D.rt v H1) : tRet te D σ H := h H e0 _ fun v H1 e r => k v H1 e r
theorem st_drop (h : Eva E te σ H R) (e0 : E H H) (k : ∀ v H1, E H H1 → R v H1 → D.nx σ H1) : tDrop te D σ H := h H e0 _ fun v H1 e r => k v H1 e r
theorem st_if {b : Bool} {c : TT} (h : EvT E c σ H b) (e0 : E H H) (k1 : b = true → ∀ H1, E H H1 → t1 D σ H1) (k2 : b = false → ∀ H1, E H H1 → t2 D σ H1) : tIfS c t1 t2 D σ H := h H e0 _ fun H1 e => by
  cases b with
  | true => show t1 D σ H1; exact k1 rfl H1 e
  | false => show t2 D σ H1; exact k2 rfl H1 e
theorem st_dropS (h : Eva E te σ H R) (e0 : E H H) (k : ∀ v H1, E H H1 → R v H1 → t2 D σ H1) : tSeq (tDrop te) t2 D σ H := h H e0 _ fun v H1 e r => k v H1 e r
theorem st_ifN {b : Bool} {c : TT} (h : EvT E c σ H b) (e0 : E H H) (k1 : b = true → ∀ H1, E H H1 → t1 { D with nx := t2 D } σ H1) (k2 : b = false → ∀ H1, E H H1 → t2 D σ H1) : tSeq (tIfS c t1 tNext) t2 D σ H := h H e0 _ fun H1 e => by
  cases b with
  | true => exact k1 rfl H1 e
  | false => exact k2 rfl H1 e
theorem st_skip {c : TT} (h : EvT E c σ H false) (e0 : E H H) (k : ∀ H1, E H H1 → t2 D σ H1) : tSeq (tIfS c t1 tNext) t2 D σ H := st_ifN h e0 (fun z => nomatch z) fun _ => k
theorem st_ifL {b : Bool} {c : TT} (h : EvT E c σ H b) (e0 : E H H) (k1 : b = true → ∀ H1, E H H1 → t1 D σ H1) (k2 : b = false → ∀ H1, E H H1 → D.nx σ H1) : tIfS c t1 tNext D σ H := h H e0 _ fun H1 e => by
  cases b with
  | true => exact k1 rfl H1 e
  | false => exact k2 rfl H1 e
theorem st_skipL {c : TT} (h : EvT E c σ H false) (e0 : E H H) (k : ∀ H1, E H H1 → D.nx σ H1) : tIfS c t1 tNext D σ H := st_ifL h e0 (fun z => nomatch z) fun _ => k
end
/-- a promise of the plain form: it leaves all that is known -/
def SpG {α : Type} (Pre : α → List V → Hp → Prop) (Post : α → V → Hp → Prop) : Sp := fun vs H Q _ => ∃ x, Pre x vs H ∧ ∀ v H', Same H H' → Post x v H' → Q v H'
theorem ev_G {α : Type} {Pre : α → List V → Hp → Prop} {Post : α → V → Hp → Prop} {σ : L2.St} {H : Hp} {X : XK} {tl : TA} {RA : List V → Hp → Prop} (x : α) (h : EvA Same tl σ H RA) (hr : ∀ vs H1, Same H H1 → RA vs H1 → Pre x vs H1) : Eva Same (tCall (SpG Pre Post) [] X tl) σ H (Post x) :=
  ev_call h fun vs H1 e ra Q q => ⟨x, by rw [List.append_nil]; exact hr vs H1 e ra, fun v H2 e2 p => q v H2 e2 p⟩
end Gm

set_option maxHeartbeats 4000000
namespace Gm
open PySem PySem.Spec PyProof.Rows L2
/-! ### the text by places -/
def top (i : Nat) : Stmt := PySem.Challenge.pw_gromatic_k46_whole_least_cost_is_balance.main.body.getD i (.Pass ⟨0, 0, 0, 0⟩)
abbrev s_common : Stmt := top 11
abbrev n_common : List Str := ["one", "other"]
theorem sc_common : FnScope n_common ["one", "other"] (defScope s_common) := ⟨rfl, rfl, rfl, by decide +kernel, rfl, by decide +kernel, by decide +kernel⟩
abbrev s_ratio : Stmt := top 12
abbrev n_ratio : List Str := ["over", "under", "part"]
theorem sc_ratio : FnScope n_ratio ["over", "under"] (defScope s_ratio) := ⟨rfl, rfl, rfl, by decide +kernel, rfl, by decide +kernel, by decide +kernel⟩
abbrev s_whole : Stmt := top 13
abbrev n_whole : List Str := ["number"]
theorem sc_whole : FnScope n_whole ["number"] (defScope s_whole) := ⟨rfl, rfl, rfl, by decide +kernel, rfl, by decide +kernel, by decide +kernel⟩
abbrev s_plus : Stmt := top 14
abbrev n_plus : List Str := ["one", "other"]
theorem sc_plus : FnScope n_plus ["one", "other"] (defScope s_plus) := ⟨rfl, rfl, rfl, by decide +kernel, rfl, by decide +kernel, by decide +kernel⟩
abbrev s_minus : Stmt := top 15
abbrev n_minus : List Str := ["one", "other"]
theorem sc_minus : FnScope n_minus ["one", "other"] (defScope s_minus) := ⟨rfl, rfl, rfl, by decide +kernel, rfl, by decide +kernel, by decide +kernel⟩
abbrev s_times : Stmt := top 16
abbrev n_times : List Str := ["one", "other"]
theorem sc_times : FnScope n_times ["one", "other"] (defScope s_times) := ⟨rfl, rfl, rfl, by decide +kernel, rfl, by decide +kernel, by decide +kernel⟩
abbrev s_divided : Stmt := top 17
abbrev n_divided : List Str := ["one", "other"]
theorem sc_divided : FnScope n_divided ["one", "other"] (defScope s_divided) := ⟨rfl, rfl, rfl, by decide +kernel, rfl, by decide +kernel, by decide +kernel⟩
abbrev s_total : Stmt := top 18
abbrev n_total : List Str := ["some", "found", "one"]
theorem sc_total : FnScope n_total ["some"] (defScope s_total) := ⟨rfl, rfl, rfl, by decide +kernel, rfl, by decide +kernel, by decide +kernel⟩
abbrev s_is_number : Stmt := top 23
abbrev n_is_number : List Str := ["thing"]
theorem sc_is_number : FnScope n_is_number ["thing"] (defScope s_is_number) := ⟨rfl, rfl, rfl, by decide +kernel, rfl, by decide +kernel, by decide +kernel⟩
abbrev s_need_name : Stmt := top 24
abbrev n_need_name : List Str := ["name", "sign"]
theorem sc_need_name : FnScope n_need_name ["name"] (defScope s_need_name) := ⟨rfl, rfl, rfl, by decide +kernel, rfl, by decide +kernel, by decide +kernel⟩
abbrev s_need_number : Stmt := top 25
abbrev n_need_number : List Str := ["number", "low", "high"]
theorem sc_need_number : FnScope n_need_number ["number", "low", "high"] (defScope s_need_number) := ⟨rfl, rfl, rfl, by decide +kernel, rfl, by decide +kernel, by decide +kernel⟩
abbrev s_need_at : Stmt := top 26
abbrev n_need_at : List Str := ["at", "number"]
theorem sc_need_at : FnScope n_need_at ["at"] (defScope s_need_at) := ⟨rfl, rfl, rfl, by decide +kernel, rfl, by decide +kernel, by decide +kernel⟩
abbrev s_need_reading : Stmt := top 27
abbrev n_need_reading : List Str := ["marks", "number", "reading", "one", "other", "across", "up", "weight", "name"]
theorem sc_need_reading : FnScope n_need_reading ["marks", "number", "reading"] (defScope s_need_reading) := ⟨rfl, rfl, rfl, by decide +kernel, rfl, by decide +kernel, by decide +kernel⟩
abbrev s_need_sizes : Stmt := top 28
abbrev n_need_sizes : List Str := ["across", "up", "weight"]
theorem sc_need_sizes : FnScope n_need_sizes ["across", "up", "weight"] (defScope s_need_sizes) := ⟨rfl, rfl, rfl, by decide +kernel, rfl, by decide +kernel, by decide +kernel⟩
abbrev s_tied : Stmt := top 29
abbrev n_tied : List Str := ["names", "pairs", "heads", "one", "other", "low", "high", "name", "head"]
theorem sc_tied : FnScope n_tied ["names", "pairs"] (defScope s_tied) := ⟨rfl, rfl, rfl, by decide +kernel, rfl, by decide +kernel, by decide +kernel⟩
abbrev s_Survey_init : Stmt := inClass (top 30) 0
abbrev n_Survey_init : List Str := ["self", "marks", "readings", "name", "number", "reading", "at"]
theorem sc_Survey_init : FnScope n_Survey_init ["self", "marks", "readings"] (defScope s_Survey_init) := ⟨rfl, rfl, rfl, by decide +kernel, rfl, by decide +kernel, by decide +kernel⟩
abbrev s_Survey_marks : Stmt := inClass (top 30) 4
abbrev n_Survey_marks : List Str := ["self"]
theorem sc_Survey_marks : FnScope n_Survey_marks ["self"] (defScope s_Survey_marks) := ⟨rfl, rfl, rfl, by decide +kernel, rfl, by decide +kernel, by decide +kernel⟩
abbrev s_Survey_readings : Stmt := inClass (top 30) 5
abbrev n_Survey_readings : List Str := ["self"]
theorem sc_Survey_readings : FnScope n_Survey_readings ["self"] (defScope s_Survey_readings) := ⟨rfl, rfl, rfl, by decide +kernel, rfl, by decide +kernel, by decide +kernel⟩
abbrev s_Survey_names : Stmt := inClass (top 30) 6
abbrev n_Survey_names : List Str := ["self"]
theorem sc_Survey_names : FnScope n_Survey_names ["self"] (defScope s_Survey_names) := ⟨rfl, rfl, rfl, by decide +kernel, rfl, by decide +kernel, by decide +kernel⟩
abbrev s_Survey_hangs : Stmt := inClass (top 30) 7
abbrev n_Survey_hangs : List Str := ["self", "name"]
theorem sc_Survey_hangs : FnScope n_Survey_hangs ["self", "name"] (defScope s_Survey_hangs) := ⟨rfl, rfl, rfl, by decide +kernel, rfl, by decide +kernel, by decide +kernel⟩
abbrev s_free_marks : Stmt := top 32
abbrev n_free_marks : List Str := ["survey", "marks", "name"]
theorem sc_free_marks : FnScope n_free_marks ["survey"] (defScope s_free_marks) := ⟨rfl, rfl, rfl, by decide +kernel, rfl, by decide +kernel, by decide +kernel⟩
abbrev s_sums_of : Stmt := top 33
abbrev n_sums_of : List Str := ["survey", "way", "fixed", "free", "places", "rows", "reading", "one", "other", "sizes", "weight", "heavy", "mark", "end", "sign", "row", "k", "name"]
theorem sc_sums_of : FnScope n_sums_of ["survey", "way", "fixed"] (defScope s_sums_of) := ⟨rfl, rfl, rfl, by decide +kernel, rfl, by decide +kernel, by decide +kernel⟩
abbrev s_taken_off : Stmt := top 34
abbrev n_taken_off : List Str := ["row", "other", "at", "share", "one", "two"]
theorem sc_taken_off : FnScope n_taken_off ["row", "other", "at"] (defScope s_taken_off) := ⟨rfl, rfl, rfl, by decide +kernel, rfl, by decide +kernel, by decide +kernel⟩
abbrev s_solved : Stmt := top 35
abbrev n_solved : List Str := ["rows", "at", "first", "k", "row"]
theorem sc_solved : FnScope n_solved ["rows"] (defScope s_solved) := ⟨rfl, rfl, rfl, by decide +kernel, rfl, by decide +kernel, by decide +kernel⟩
abbrev s_placed_way : Stmt := top 36
abbrev n_placed_way : List Str := ["survey", "way", "fixed", "found", "free", "name", "number", "at"]
theorem sc_placed_way : FnScope n_placed_way ["survey", "way"] (defScope s_placed_way) := ⟨rfl, rfl, rfl, by decide +kernel, rfl, by decide +kernel, by decide +kernel⟩
abbrev s_adjusted : Stmt := top 37
abbrev n_adjusted : List Str := ["survey", "across", "up", "name"]
theorem sc_adjusted : FnScope n_adjusted ["survey"] (defScope s_adjusted) := ⟨rfl, rfl, rfl, by decide +kernel, rfl, by decide +kernel, by decide +kernel⟩
abbrev s_rest_of : Stmt := top 38
abbrev n_rest_of : List Str := ["reading", "placing", "one", "other", "across", "up", "weight", "x", "y"]
theorem sc_rest_of : FnScope n_rest_of ["reading", "placing"] (defScope s_rest_of) := ⟨rfl, rfl, rfl, by decide +kernel, rfl, by decide +kernel, by decide +kernel⟩
abbrev s_rests : Stmt := top 39
abbrev n_rests : List Str := ["survey", "placing", "found", "number", "reading"]
theorem sc_rests : FnScope n_rests ["survey", "placing"] (defScope s_rests) := ⟨rfl, rfl, rfl, by decide +kernel, rfl, by decide +kernel, by decide +kernel⟩
abbrev s_cost : Stmt := top 40
abbrev n_cost : List Str := ["survey", "placing", "readings", "some", "number", "x", "y"]
theorem sc_cost : FnScope n_cost ["survey", "placing"] (defScope s_cost) := ⟨rfl, rfl, rfl, by decide +kernel, rfl, by decide +kernel, by decide +kernel⟩
abbrev s_uncancelled : Stmt := top 41
abbrev n_uncancelled : List Str := ["survey", "placing", "name", "found", "left", "number", "one", "other", "across", "up", "weight", "way", "part"]
theorem sc_uncancelled : FnScope n_uncancelled ["survey", "placing", "name"] (defScope s_uncancelled) := ⟨rfl, rfl, rfl, by decide +kernel, rfl, by decide +kernel, by decide +kernel⟩
abbrev s_balanced : Stmt := top 42
abbrev n_balanced : List Str := ["survey", "placing", "marks", "name"]
theorem sc_balanced : FnScope n_balanced ["survey", "placing"] (defScope s_balanced) := ⟨rfl, rfl, rfl, by decide +kernel, rfl, by decide +kernel, by decide +kernel⟩
abbrev s_l_open : Stmt := top 44
abbrev n_l_open : List Str := ["_law_script"]
theorem sc_l_open : FnScope n_l_open ["_law_script"] (defScope s_l_open) := ⟨rfl, rfl, rfl, by decide +kernel, rfl, by decide +kernel, by decide +kernel⟩
abbrev s_l_pull : Stmt := top 45
abbrev n_l_pull : List Str := ["_law_draw", "_law_top", "_law_cell", "_law_got"]
theorem sc_l_pull : FnScope n_l_pull ["_law_draw", "_law_top"] (defScope s_l_pull) := ⟨rfl, rfl, rfl, by decide +kernel, rfl, by decide +kernel, by decide +kernel⟩
abbrev s_l_any : Stmt := top 46
abbrev n_l_any : List Str := ["_law_draw", "_law_some"]
theorem sc_l_any : FnScope n_l_any ["_law_draw", "_law_some"] (defScope s_l_any) := ⟨rfl, rfl, rfl, by decide +kernel, rfl, by decide +kernel, by decide +kernel⟩
abbrev s_l_num : Stmt := top 47
abbrev n_l_num : List Str := ["_law_value"]
theorem sc_l_num : FnScope n_l_num ["_law_value"] (defScope s_l_num) := ⟨rfl, rfl, rfl, by decide +kernel, rfl, by decide +kernel, by decide +kernel⟩
abbrev s_l_like : Stmt := top 48
abbrev n_l_like : List Str := ["_law_found", "_law_due", "_law_name", "_law_a", "_law_b"]
theorem sc_l_like : FnScope n_l_like ["_law_found", "_law_due"] (defScope s_l_like) := ⟨rfl, rfl, rfl, by decide +kernel, rfl, by decide +kernel, by decide +kernel⟩
abbrev s_l_copy : Stmt := top 49
abbrev n_l_copy : List Str := ["_law_value", "_law_one", "_law_name"]
theorem sc_l_copy : FnScope n_l_copy ["_law_value"] (defScope s_l_copy) := ⟨rfl, rfl, rfl, by decide +kernel, rfl, by decide +kernel, by decide +kernel⟩
abbrev s_l_mixed : Stmt := top 50
abbrev n_l_mixed : List Str := ["_law_draw", "_law_some", "_law_left", "_law_found", "_law_k"]
theorem sc_l_mixed : FnScope n_l_mixed ["_law_draw", "_law_some"] (defScope s_l_mixed) := ⟨rfl, rfl, rfl, by decide +kernel, rfl, by decide +kernel, by decide +kernel⟩
abbrev s_l_low : Stmt := top 51
abbrev n_l_low : List Str := ["_law_over", "_law_under", "_law_one", "_law_two"]
theorem sc_l_low : FnScope n_l_low ["_law_over", "_law_under"] (defScope s_l_low) := ⟨rfl, rfl, rfl, by decide +kernel, rfl, by decide +kernel, by decide +kernel⟩
abbrev s_l_add : Stmt := top 52
abbrev n_l_add : List Str := ["_law_a", "_law_b"]
theorem sc_l_add : FnScope n_l_add ["_law_a", "_law_b"] (defScope s_l_add) := ⟨rfl, rfl, rfl, by decide +kernel, rfl, by decide +kernel, by decide +kernel⟩
abbrev s_l_sub : Stmt := top 53
abbrev n_l_sub : List Str := ["_law_a", "_law_b"]
theorem sc_l_sub : FnScope n_l_sub ["_law_a", "_law_b"] (defScope s_l_sub) := ⟨rfl, rfl, rfl, by decide +kernel, rfl, by decide +kernel, by decide +kernel⟩
abbrev s_l_mul : Stmt := top 54
abbrev n_l_mul : List Str := ["_law_a", "_law_b"]
theorem sc_l_mul : FnScope n_l_mul ["_law_a", "_law_b"] (defScope s_l_mul) := ⟨rfl, rfl, rfl, by decide +kernel, rfl, by decide +kernel, by decide +kernel⟩
abbrev s_l_names : Stmt := top 55
abbrev n_l_names : List Str := ["_law_draw", "_law_letters", "_law_shift", "_law_pool", "_law_word", "_law_sign"]
theorem sc_l_names : FnScope n_l_names ["_law_draw"] (defScope s_l_names) := ⟨rfl, rfl, rfl, by decide +kernel, rfl, by decide +kernel, by decide +kernel⟩
abbrev s_l_reading : Stmt := top 56
abbrev n_l_reading : List Str := ["_law_draw", "_law_one", "_law_other", "_law_across"]
theorem sc_l_reading : FnScope n_l_reading ["_law_draw", "_law_one", "_law_other"] (defScope s_l_reading) := ⟨rfl, rfl, rfl, by decide +kernel, rfl, by decide +kernel, by decide +kernel⟩
abbrev s_l_marks : Stmt := top 57
abbrev n_l_marks : List Str := ["_law_draw", "_law_mine", "_law_marks_here", "_law_k", "_law_at"]
theorem sc_l_marks : FnScope n_l_marks ["_law_draw", "_law_mine"] (defScope s_l_marks) := ⟨rfl, rfl, rfl, by decide +kernel, rfl, by decide +kernel, by decide +kernel⟩
abbrev s_l_readings : Stmt := top 58
abbrev n_l_readings : List Str := ["_law_draw", "_law_mine", "_law_found", "_law_number", "_law_many", "_law_k", "_law_one", "_law_other"]
theorem sc_l_readings : FnScope n_l_readings ["_law_draw", "_law_mine"] (defScope s_l_readings) := ⟨rfl, rfl, rfl, by decide +kernel, rfl, by decide +kernel, by decide +kernel⟩
abbrev s_l_ground : Stmt := top 59
abbrev n_l_ground : List Str := ["_law_draw", "_law_most", "_law_mine", "_law_marks_here"]
theorem sc_l_ground : FnScope n_l_ground ["_law_draw", "_law_most"] (defScope s_l_ground) := ⟨rfl, rfl, rfl, by decide +kernel, rfl, by decide +kernel, by decide +kernel⟩
abbrev s_l_survey : Stmt := top 60
abbrev n_l_survey : List Str := ["_law_w"]
theorem sc_l_survey : FnScope n_l_survey ["_law_w"] (defScope s_l_survey) := ⟨rfl, rfl, rfl, by decide +kernel, rfl, by decide +kernel, by decide +kernel⟩
abbrev s_l_hung : Stmt := top 61
abbrev n_l_hung : List Str := ["_law_w", "_law_found", "_law_turn", "_law_number", "_law_one", "_law_other", "_law_name"]
theorem sc_l_hung : FnScope n_l_hung ["_law_w"] (defScope s_l_hung) := ⟨rfl, rfl, rfl, by decide +kernel, rfl, by decide +kernel, by decide +kernel⟩
abbrev s_l_is_ratio : Stmt := top 62
abbrev n_l_is_ratio : List Str := ["_law_a"]
theorem sc_l_is_ratio : FnScope n_l_is_ratio ["_law_a"] (defScope s_l_is_ratio) := ⟨rfl, rfl, rfl, by decide +kernel, rfl, by decide +kernel, by decide +kernel⟩
abbrev s_l_is_spot : Stmt := top 63
abbrev n_l_is_spot : List Str := ["_law_spot"]
theorem sc_l_is_spot : FnScope n_l_is_spot ["_law_spot"] (defScope s_l_is_spot) := ⟨rfl, rfl, rfl, by decide +kernel, rfl, by decide +kernel, by decide +kernel⟩
abbrev s_l_rest : Stmt := top 64
abbrev n_l_rest : List Str := ["_law_placing", "_law_reading_here", "_law_one", "_law_other", "_law_across", "_law_up", "_law_weight", "_law_found", "_law_at", "_law_gap"]
theorem sc_l_rest : FnScope n_l_rest ["_law_placing", "_law_reading_here"] (defScope s_l_rest) := ⟨rfl, rfl, rfl, by decide +kernel, rfl, by decide +kernel, by decide +kernel⟩
abbrev s_l_rests : Stmt := top 65
abbrev n_l_rests : List Str := ["_law_placing", "_law_readings_here", "_law_found", "_law_number"]
theorem sc_l_rests : FnScope n_l_rests ["_law_placing", "_law_readings_here"] (defScope s_l_rests) := ⟨rfl, rfl, rfl, by decide +kernel, rfl, by decide +kernel, by decide +kernel⟩
abbrev s_l_cost : Stmt := top 66
abbrev n_l_cost : List Str := ["_law_placing", "_law_readings_here", "_law_told", "_law_amount", "_law_number", "_law_part"]
theorem sc_l_cost : FnScope n_l_cost ["_law_placing", "_law_readings_here"] (defScope s_l_cost) := ⟨rfl, rfl, rfl, by decide +kernel, rfl, by decide +kernel, by decide +kernel⟩
abbrev s_l_balanced : Stmt := top 67
abbrev n_l_balanced : List Str := ["_law_w", "_law_placing", "_law_sums", "_law_told", "_law_number", "_law_one", "_law_other", "_law_across", "_law_up", "_law_weight", "_law_at", "_law_part", "_law_name"]
theorem sc_l_balanced : FnScope n_l_balanced ["_law_w", "_law_placing"] (defScope s_l_balanced) := ⟨rfl, rfl, rfl, by decide +kernel, rfl, by decide +kernel, by decide +kernel⟩
abbrev s_l_share : Stmt := top 68
abbrev n_l_share : List Str := ["_law_draw"]
theorem sc_l_share : FnScope n_l_share ["_law_draw"] (defScope s_l_share) := ⟨rfl, rfl, rfl, by decide +kernel, rfl, by decide +kernel, by decide +kernel⟩
abbrev s_l_excess : Stmt := top 69
abbrev n_l_excess : List Str := ["_law_w", "_law_shifts", "_law_amount", "_law_number", "_law_one", "_law_other", "_law_across", "_law_up", "_law_weight", "_law_at", "_law_gap"]
theorem sc_l_excess : FnScope n_l_excess ["_law_w", "_law_shifts"] (defScope s_l_excess) := ⟨rfl, rfl, rfl, by decide +kernel, rfl, by decide +kernel, by decide +kernel⟩
abbrev s_l_bent : Stmt := top 70
abbrev n_l_bent : List Str := ["_law_draw", "_law_w", "_law_placing", "_law_shifts", "_law_name", "_law_other", "_law_at"]
theorem sc_l_bent : FnScope n_l_bent ["_law_draw", "_law_w", "_law_placing"] (defScope s_l_bent) := ⟨rfl, rfl, rfl, by decide +kernel, rfl, by decide +kernel, by decide +kernel⟩
abbrev s_l_told_right : Stmt := top 71
abbrev n_l_told_right : List Str := ["_law_w", "_law_survey_here", "_law_placing", "_law_due"]
theorem sc_l_told_right : FnScope n_l_told_right ["_law_w", "_law_survey_here", "_law_placing"] (defScope s_l_told_right) := ⟨rfl, rfl, rfl, by decide +kernel, rfl, by decide +kernel, by decide +kernel⟩
abbrev s_law : Stmt := top 72
abbrev n_law : List Str := ["_law_script", "_law_draw", "_law_w", "_law_survey_here", "_law_placing", "_law_lowest_now", "_law_turn", "_law_other", "_law_shifts", "_law_moved", "_law_due", "_law_name"]
theorem sc_law : FnScope n_law ["_law_script"] (defScope s_law) := ⟨rfl, rfl, rfl, by decide +kernel, rfl, by decide +kernel, by decide +kernel⟩

/-! ### what the top has left -/
structure Uni (K : PySem.W.Frag) (mg : Str → Option Value) (aN : Addr) (uM uW uL : Value) : Prop where
  abs : mg "abs" = none
  len : mg "len" = none
  range : mg "range" = none
  sorted : mg "sorted" = none
  list : mg "list" = none
  tuple : mg "tuple" = none
  dict : mg "dict" = none
  isinstance : mg "isinstance" = none
  int : mg "int" = none
  bool : mg "bool" = none
  str : mg "str" = none
  enumerate : mg "enumerate" = none
  zip : mg "zip" = none
  all : mg "all" = none
  any : mg "any" = none
  gNOUGHT : mg "NOUGHT" = some (.ref aN)
  rNOUGHT : RelV (.ref aN) (.ref aN)
  tN : ∀ H, SqT K H aN [.int 0, .int 1]
  gMOST : mg "MOST" = some uM
  rMOST : RelV (.int 999) uM
  gWEIGHTS : mg "WEIGHTS" = some uW
  rWEIGHTS : RelV (.int 9) uW
  gLETTERS : mg "LETTERS" = some uL
  rLETTERS : RelV (.str "abcdefghijklmnopqrstuvwxyz") uL
/-- a def that keeps a promise, to be called by its name -/
structure Cal (P : Program) (w : World) (K : PySem.W.Frag) (mg : Str → Option Value) (base : Heap) (k : Nat) (x : Str) (ps : List Str) (sp : Sp) : Prop where
  ex : ∃ (f : Addr) (fd : FuncData), FnOk P w K mg base CX0 k f fd ps sp ∧ mg x = some (.ref f) ∧ PySem.W.keepIn K (.ref f) = true ∧ Binds K fd ps []
theorem Cal.call {X : Cx} {k : Nat} {x : Str} {ps : List Str} {sp : Sp} {e : Expr} {es : List Expr} {p pos : Pos} {t : TA} (c : Cal X.prog X.w X.K X.mg X.base k x ps sp) (hr : Room k X.A) (hg : Gl X x) (ha : PA X (e :: es) t)
    (hdb : (x == ("__debug__" : Str)) = false := by decide) (he : starEach (e :: es) X.env = (false, eval e X.env) :: starEach es X.env := by rfl) (hpl : (backTo pos (starEach es X.env)).any (·.1) = false := by rfl) :
    PE X (.Call (.Name x p) (e :: es) [] pos) (tCall sp [] E0 t) := by
  obtain ⟨f, fd, F, hm, hk, hb⟩ := c.ex
  exact pe_call F hr hg hm hk hb .nil pass0 ha hdb he hpl
theorem Cal.imp {P : Program} {w : World} {K : PySem.W.Frag} {mg : Str → Option Value} {base : Heap} {k : Nat} {x : Str} {ps : List Str} {sp sp' : Sp} (c : Cal P w K mg base k x ps sp) (h : ∀ vs H Q E, sp' vs H Q E → sp vs H Q E) : Cal P w K mg base k x ps sp' := by
  obtain ⟨f, fd, F, hm, hk, hb⟩ := c.ex
  exact ⟨f, fd, F.imp h, hm, hk, hb⟩
theorem Cal.mono {P : Program} {w : World} {K : PySem.W.Frag} {mg : Str → Option Value} {base : Heap} {j k : Nat} {x : Str} {ps : List Str} {sp : Sp} (c : Cal P w K mg base j x ps sp) (h : j ≤ k) : Cal P w K mg base k x ps sp := by
  obtain ⟨f, fd, F, hm, hk, hb⟩ := c.ex
  exact ⟨f, fd, F.mono h, hm, hk, hb⟩
/-- a def of the text as it stands -/
def DefAt (K : PySem.W.Frag) (mg : Str → Option Value) (x : Str) (st : Stmt) : Prop := ∃ f fd, Fun K x x st f fd ∧ mg x = some (.ref f)
theorem DefAt.cal {P : Program} {w : World} {K : PySem.W.Frag} {mg : Str → Option Value} {base : Heap} {x : Str} {st : Stmt} {N ps : List Str} {sp : Sp} (k : Nat) (D : DefAt K mg x st) (S : FnScope N ps (defScope st))
    (hb : ∀ (kV doc pm : Value) (an : Option Addr) (cdv ct : Value) (us : List Value), us.length = ps.length → bindArgs (PySem.W.fnOf x x (defArgs st) (defBody st) (defScope st) .none kV doc pm an cdv ct) ⟨us, []⟩ = pure (ps.zip us))
    (len : ∀ vs H Q E, sp vs H Q E → vs.length = ps.length)
    (hbody : ∀ (f : Addr) (cdv : Value) (A : Around) (outer : List Env) (s : Shared) (H : Hp) (vs : List V) (Q : VK) (E : XK), Room k (A.deeper (envOfC x (defScope st) s.heap.objs.size f cdv)) → sp vs H Q E →
      ∃ t, PSs (cxOf CX0 P w K mg base N x (defScope st) f cdv A outer s H E).nox (defBody st) t ∧ t { nx := fun _ H' => Q .non H', rt := Q } (start N vs) H) : Cal P w K mg base (k + 1) x ps sp := by
  obtain ⟨f, fd, F, hm⟩ := D
  exact ⟨f, fd, F.ok S len fun cdv A outer s H vs Q E hr h => hbody f cdv A outer s H vs Q E hr h, hm, F.kp, F.binds hb⟩
end Gm

set_option maxHeartbeats 4000000
namespace Gm
open PySem PySem.Spec PyProof.Rows L2
/-! ### // by any divisor below 2 ^ 9000 -/
def CDivA (_ j : Int) : Prop := j ≠ 0 ∧ j.natAbs.log2 < 9000
theorem op_fdivA {X : Cx} : OpR X (binaryOp .FloorDiv) (rI CDivA fun i j => .int (i.fdiv j)) := opI fun i j _ _ _ _ _ hc q =>
  floordiv_int hc.1 q (.inl (PyProof.noPylong_of_log2 hc.2))
theorem log2_small {n b : Nat} (h : n < 2 ^ b) (hb : 0 < b) : n.log2 < b := PySem.Flt.log2_lt_of hb h
/-! ### the numbers of a ratio -/
/-- the signed common part -/
def part (o u : Int) : Int := if u < 0 then -((Int.gcd o u : Nat) : Int) else ((Int.gcd o u : Nat) : Int)
theorem part_ne {o u : Int} (hu : u ≠ 0) : part o u ≠ 0 := by
  have hg : 0 < Int.gcd o u := Int.gcd_pos_of_ne_zero_right _ hu
  unfold part
  split <;> omega
theorem part_small {o u : Int} {b : Nat} (hu : u ≠ 0) (h : u.natAbs < 2 ^ b) : (part o u).natAbs < 2 ^ b := by
  have h1 : Int.gcd o u ≤ u.natAbs := Nat.le_of_dvd (Int.natAbs_pos.mpr hu) (Int.gcd_dvd_natAbs_right o u)
  unfold part
  split <;> omega
theorem part_num {o u : Int} (hu : u ≠ 0) : o.fdiv (part o u) = (Rat.divInt o u).num := by
  rw [Rat.num_divInt, Int.gcd_comm u o]
  have hd : ((Int.gcd o u : Nat) : Int) ∣ o := Int.gcd_dvd_left o u
  unfold part
  split
  · rename_i h
    rw [Int.fdiv_eq_ediv_of_dvd (Int.neg_dvd.mpr hd), Int.sign_eq_neg_one_of_neg h, Int.ediv_neg, Int.neg_one_mul, Int.neg_ediv_of_dvd hd]
  · rename_i h
    rw [Int.fdiv_eq_ediv_of_dvd hd, Int.sign_eq_one_of_pos (by omega), Int.one_mul]
theorem part_den {o u : Int} (hu : u ≠ 0) : u.fdiv (part o u) = ((Rat.divInt o u).den : Int) := by
  rw [Rat.den_divInt, if_neg hu, Int.gcd_comm u o]
  have hd : ((Int.gcd o u : Nat) : Int) ∣ u := Int.gcd_dvd_right o u
  unfold part
  split
  · rename_i h
    rw [Int.fdiv_eq_ediv_of_dvd (Int.neg_dvd.mpr hd), Int.ediv_neg, ← Int.neg_ediv_of_dvd hd, Int.natCast_ediv]
    congr 1
    omega
  · rename_i h
    rw [Int.fdiv_eq_ediv_of_dvd hd, Int.natCast_ediv]
    congr 1
    omega
theorem st_nx {D : Ends} {σ : L2.St} {H : Hp} (q : D.nx σ H) : tNext D σ H := q
/-! ### common -/
def PreI2 (x : Int × Int) : List V → Hp → Prop := fun vs _ => vs = [.int x.1, .int x.2]
def spCommon : Sp := SpG (α := Int × Int) PreI2 (fun x v _ => v = .int ((Int.gcd x.1 x.2 : Nat) : Int))
section
variable {P : Program} {w : World} {K : PySem.W.Frag} {mg : Str → Option Value} {base : Heap} {aN : Addr} {uM uW uL : Value}
theorem abs_nat (i : Int) : (if i < 0 then -i else i) = ((i.natAbs : Nat) : Int) := by split <;> omega
theorem ok_common (D : DefAt K mg "common" s_common) (U : Uni K mg aN uM uW uL) : Cal P w K mg base 1 "common" ["one", "other"] spCommon := by
  refine D.cal 0 sc_common (fun _ _ _ _ _ _ us hl => match us, hl with | [_, _], _ => rfl) (fun vs H Q E h => ?_) (fun f cdv A outer s H vs Q E hr h => ?_)
  · obtain ⟨x, rfl, _⟩ := h; rfl
  · obtain ⟨⟨a, b⟩, rfl, k⟩ := h
    refine ⟨_, (pss_cons (ps_par (i := 0) (j := 1) (by rfl) sc_common.nd rfl rfl (by decide) rfl rfl (pa_cons (pe_callB call_abs (by rfl) U.abs (by decide +kernel) (pa_cons (pv 0) pa_nil)) (pa_cons (pe_callB call_abs (by rfl) U.abs (by decide +kernel) (pa_cons (pv 1) pa_nil)) pa_nil)) (by rfl))
      (pss_cons (ps_while PassesOwn.never (pt_cmpR op_gt (pv 1) pe_int (nomark _)) (pss_one (ps_par (i := 0) (j := 1) (by rfl) sc_common.nd rfl rfl (by decide) rfl rfl (pa_cons (pv 1) (pa_cons (pe_op op_mod (pv 0) (pv 1)) pa_nil)) (by rfl))))
      (pss_one (ps_ret (pv 0))))), ?_⟩
    refine ⟨_, rfl, a, rfl, _, rfl, b, rfl, _, _, rfl, ?_⟩
    refine while_by (fun σ H1 => H1 = H ∧ ∃ m n : Nat, σ = [some (.int (m : Int)), some (.int (n : Int))] ∧ Nat.gcd m n = Int.gcd a b) (fun σ _ => match σ with | [_, some (.int n)] => n.toNat | _ => 0)
      ⟨rfl, a.natAbs, b.natAbs, by rw [abs_nat, abs_nat]; rfl, rfl⟩ ?_ ?_
    · rintro σ H1 ⟨rfl, m, n, rfl, hg⟩
      refine ⟨_, rfl, _, _, rfl, rfl, _, rfl, ?_⟩
      by_cases hn : n = 0
      · subst hn
        refine iteF ?_
        refine ⟨_, rfl, ?_⟩
        exact k _ _ (Same.refl _) (by show V.int _ = V.int _; rw [← hg]; simp)
      · have hd : decide ((0 : Int) < (n : Int)) = true := decide_eq_true (by omega)
        show if decide ((0 : Int) < (n : Int)) = true then _ else _
        rw [hd]
        refine iteT ?_
        refine ⟨_, rfl, _, rfl, _, rfl, _, _, rfl, rfl, (by show (0 : Int) < n; omega), _, _, rfl, ⟨rfl, n, m % n, ?_, ?_⟩, ?_⟩
        · rfl
        · rw [← hg, Nat.gcd_comm m n, Nat.gcd_rec n m, Nat.gcd_comm]
        · have := Nat.mod_lt m (show 0 < n by omega)
          show ((m : Int) % (n : Int)).toNat < ((n : Nat) : Int).toNat
          omega
    · rintro σ H1 Q1 Q2 hq ⟨v, h1, i, j, h2, h3, kk, h4, h5⟩
      exact ⟨v, h1, i, j, h2, h3, kk, h4, hq _ _ h5⟩
/-! ### ratio -/
def spRatio (K : PySem.W.Frag) : Sp := SpG (α := Int × Int) (fun x vs H => PreI2 x vs H ∧ x.2 ≠ 0 ∧ x.2.natAbs < 2 ^ 9000) (fun x => Rt K (Rat.divInt x.1 x.2))
theorem ok_ratio (D : DefAt K mg "ratio" s_ratio) (c_common : Cal P w K mg base 1 "common" ["one", "other"] spCommon) : Cal P w K mg base 2 "ratio" ["over", "under"] (spRatio K) := by
  refine D.cal 1 sc_ratio (fun _ _ _ _ _ _ us hl => match us, hl with | [_, _], _ => rfl) (fun vs H Q E h => ?_) (fun f cdv A outer s H vs Q E hr h => ?_)
  · obtain ⟨x, ⟨rfl, _⟩, _⟩ := h; rfl
  · obtain ⟨⟨a, b⟩, ⟨rfl, hb, hz⟩, k⟩ := h
    have hb : b ≠ 0 := hb
    have hz : b.natAbs < 2 ^ 9000 := hz
    refine ⟨_, (pss_cons (ps_if (pt_cmpR op_eq (pv 1) pe_int (nomark _)) (pss_one ps_never) pss_nil)
      (pss_cons (ps_set (i := 2) sc_ratio.nd rfl (Or.inl rfl) (c_common.call (hr.mono (by decide)) (by rfl) (pa_cons (pv 0) (pa_cons (pv 1) pa_nil))))
      (pss_cons (ps_if (pt_cmpR op_lt (pv 1) pe_int (nomark _)) (pss_one (ps_set (i := 2) sc_ratio.nd rfl (Or.inl rfl) (pe_un un_neg (pv 2)))) pss_nil)
      (pss_one (ps_ret (pe_tup (pa_cons (pe_op op_fdivA (pv 0) (pv 2)) (pa_cons (pe_op op_fdivA (pv 1) (pv 2)) pa_nil)))))))), ?_⟩
    refine st_seq (st_if (E := Same) (et_test (ev_eq (ev_var rfl) ev_c rfl)) (Same.refl _) (fun z => ?_) (fun _ H1 e1 => ?_))
    · exact absurd (V.int.inj (of_decide_eq_true z)) hb
    refine st_set (E := Same) (ev_G (a, b) (ea_cons (ev_var rfl) (ea_cons (ev_var rfl) ea_nil)) ?_) (Same.refl _) fun v H2 e2 hv => ?_
    · rintro vs H' _ ⟨v, r, rfl, hv, v', r', rfl, hv', rfl⟩
      rw [hv, hv']; rfl
    have hv : v = .int ((Int.gcd a b : Nat) : Int) := hv
    subst hv
    have fin : ∀ (p : Int) (H3 : Hp), Same H H3 → p = part a b → tRet (tTup (tCons (tOp (rI CDivA fun i j => .int (i.fdiv j)) (tVar 0) (tVar 2)) (tCons (tOp (rI CDivA fun i j => .int (i.fdiv j)) (tVar 1) (tVar 2)) tNil)))
        { nx := fun _ H' => Q .non H', rt := Q } [some (.int a), some (.int b), some (.int p)] H3 := by
      rintro p H3 e3 rfl
      have hl : (part a b).natAbs.log2 < 9000 := log2_small (part_small hb hz) (by decide)
      refine ⟨_, rfl, _, rfl, _, _, rfl, rfl, ⟨part_ne hb, hl⟩, _, rfl, _, rfl, _, _, rfl, rfl, ⟨part_ne hb, hl⟩, (by show 2 ≤ sizeLine; decide), fun q hq => k _ _ (e3.trans (Same.new hq)) ⟨q, rfl, ?_⟩⟩
      show SqT K (upd H3 q (.tup [.int (a.fdiv (part a b)), .int (b.fdiv (part a b))])) q [.int (Rat.divInt a b).num, .int ((Rat.divInt a b).den : Int)]
      rw [part_num hb, part_den hb]
      exact SqT.of upd_same
    refine st_seq (st_if (E := Same) (b := decide (b < 0)) (et_test (ev_I0 (ev_var rfl) ev_c)) (Same.refl _) (fun z H3 e3 => ?_) (fun z H3 e3 => ?_))
    · refine st_set1 (E := Same) (ev_U (ev_var rfl)) (Same.refl _) fun v H4 e4 hv => ?_
      have hv : v = .int (-((Int.gcd a b : Nat) : Int)) := hv
      subst hv
      exact fin _ _ (((e1.trans e2).trans e3).trans e4) (by unfold part; rw [if_pos (of_decide_eq_true z)])
    · exact fin _ _ ((e1.trans e2).trans e3) (by unfold part; rw [if_neg (of_decide_eq_false z)])
/-! ### whole -/
def spWhole (K : PySem.W.Frag) : Sp := SpG (α := Int) (fun x vs _ => vs = [.int x]) (fun x => Rt K (x : Rat))
theorem ok_whole (D : DefAt K mg "whole" s_whole) : Cal P w K mg base 1 "whole" ["number"] (spWhole K) := by
  refine D.cal 0 sc_whole (fun _ _ _ _ _ _ us hl => match us, hl with | [_], _ => rfl) (fun vs H Q E h => ?_) (fun f cdv A outer s H vs Q E hr h => ?_)
  · obtain ⟨x, rfl, _⟩ := h; rfl
  · obtain ⟨a, rfl, k⟩ := h
    refine ⟨_, (pss_one (ps_ret (pe_tup (pa_cons (pv 0) (pa_cons pe_int pa_nil))))), ?_⟩
    exact ⟨_, rfl, (by show 2 ≤ sizeLine; decide), fun q hq => k _ _ (Same.new hq) ⟨q, rfl, SqT.of upd_same⟩⟩
/-! ### plus, minus, times, divided -/
/-- small enough to be reckoned with: the denominator below 2 ^ 4400, the numerator below 2 ^ 100000 -/
def Sm (q : Rat) : Prop := q.den < 2 ^ 4400 ∧ q.num.natAbs < 2 ^ 100000
/-- two ratios -/
def PreR2 (K : PySem.W.Frag) (x : Rat × Rat) : List V → Hp → Prop := fun vs H => (∃ u v, vs = [u, v] ∧ Rt K x.1 u H ∧ Rt K x.2 v H) ∧ Sm x.1 ∧ Sm x.2
def spR2 (K : PySem.W.Frag) (f : Rat → Rat → Rat) : Sp := SpG (α := Rat × Rat) (PreR2 K) (fun x => Rt K (f x.1 x.2))
abbrev spPlus (K : PySem.W.Frag) : Sp := spR2 K (· + ·)
abbrev spMinus (K : PySem.W.Frag) : Sp := spR2 K (· - ·)
abbrev spTimes (K : PySem.W.Frag) : Sp := spR2 K (· * ·)
theorem ev_R2 {f : Rat → Rat → Rat} {σ : L2.St} {H : Hp} {ta tb : TE} {x y : Rat} {X : XK} (ha : Eva Same ta σ H (Rt K x)) (hb : Eva Same tb σ H (Rt K y)) (sx : Sm x) (sy : Sm y) : Eva Same (tCall (spR2 K f) [] X (tCons ta (tCons tb tNil))) σ H (Rt K (f x y)) := by
  refine ev_G (α := Rat × Rat) (x, y) (ea_cons ha (ea_cons hb ea_nil)) ?_
  rintro vs H' _ ⟨v, r, rfl, hv, v', r', rfl, hv', rfl⟩
  exact ⟨⟨v, v', rfl, hv, hv'⟩, sx, sy⟩
theorem sm_den {x y : Rat} (sx : Sm x) (sy : Sm y) : ((x.den : Int) * (y.den : Int)).natAbs < 2 ^ 9000 := by
  refine Nat.lt_of_lt_of_le (wide_lt (a := 4400) (b := 4400) (by simpa using sx.1) (by simpa using sy.1)) (Nat.pow_le_pow_right (by decide) (by decide))
theorem sm_mul {i j : Int} (h1 : i.natAbs < 2 ^ 100000) (h2 : j.natAbs < 2 ^ 100000) : CMulW i j := wide_mul h1 h2 (by decide) (by decide) (by decide)
theorem sm_dn {x : Rat} (sx : Sm x) : ((x.den : Nat) : Int).natAbs < 2 ^ 100000 := Nat.lt_of_lt_of_le (by simpa using sx.1) (Nat.pow_le_pow_right (by decide) (by decide))
theorem den_ne (x : Rat) : ((x.den : Nat) : Int) ≠ 0 := by have := x.den_pos; omega
theorem den_mul_ne (x y : Rat) : ((x.den : Nat) : Int) * (y.den : Int) ≠ 0 := Int.mul_ne_zero (den_ne x) (den_ne y)
/-- the numbers of a ratio, read -/
theorem ev_num {σ : L2.St} {H : Hp} {ta : TE} {x : Rat} (ha : Eva Same ta σ H (Rt K x)) : Eva Same (tOp (rIxT K) ta (tC (.int 0))) σ H (Is (.int x.num)) := ev_ixT ha ev_c rfl
theorem ev_den {σ : L2.St} {H : Hp} {ta : TE} {x : Rat} (ha : Eva Same ta σ H (Rt K x)) : Eva Same (tOp (rIxT K) ta (tC (.int 1))) σ H (Is (.int (x.den : Int))) := ev_ixT ha ev_c rfl
theorem Eva.eq {te : TE} {σ : L2.St} {H : Hp} {v u : V} (h : Eva Same te σ H (Is v)) (e : v = u) : Eva Same te σ H (Is u) := e ▸ h
theorem len_R2 {f : Rat → Rat → Rat} (vs : List V) (H : Hp) (Q : VK) (E : XK) (h : spR2 K f vs H Q E) : vs.length = ["one", "other"].length := by
  obtain ⟨x, ⟨⟨_, _, rfl, _⟩, _⟩, _⟩ := h; rfl
theorem ev_ratio {σ : L2.St} {H : Hp} {ta tb : TE} {a b : Int} {X : XK} (ha : Eva Same ta σ H (Is (.int a))) (hb : Eva Same tb σ H (Is (.int b))) (h0 : b ≠ 0) (hz : b.natAbs < 2 ^ 9000) : Eva Same (tCall (spRatio K) [] X (tCons ta (tCons tb tNil))) σ H (Rt K (Rat.divInt a b)) := by
  refine ev_G (α := Int × Int) (a, b) (ea_cons ha (ea_cons hb ea_nil)) ?_
  rintro vs H' _ ⟨v, r, rfl, hv, v', r', rfl, hv', rfl⟩
  exact ⟨by rw [hv, hv']; rfl, h0, hz⟩
theorem divInt_add (x y : Rat) : Rat.divInt (x.num * (y.den : Int) + y.num * (x.den : Int)) ((x.den : Int) * (y.den : Int)) = x + y := by rw [Rat.add_def', ← Int.natCast_mul, Rat.divInt_ofNat]
theorem divInt_sub (x y : Rat) : Rat.divInt (x.num * (y.den : Int) - y.num * (x.den : Int)) ((x.den : Int) * (y.den : Int)) = x - y := by rw [Rat.sub_def', ← Int.natCast_mul, Rat.divInt_ofNat]
theorem divInt_mul (x y : Rat) : Rat.divInt (x.num * y.num) ((x.den : Int) * (y.den : Int)) = x * y := by rw [Rat.mul_def', ← Int.natCast_mul, Rat.divInt_ofNat]
theorem ok_plus (D : DefAt K mg "plus" s_plus) (c_ratio : Cal P w K mg base 2 "ratio" ["over", "under"] (spRatio K)) : Cal P w K mg base 3 "plus" ["one", "other"] (spPlus K) := by
  refine D.cal 2 sc_plus (fun _ _ _ _ _ _ us hl => match us, hl with | [_, _], _ => rfl) len_R2 (fun f cdv A outer s H vs Q E hr h => ?_)
  obtain ⟨⟨x, y⟩, ⟨⟨u, v, rfl, hu, hv⟩, sx, sy⟩, k⟩ := h
  refine ⟨_, (pss_one (ps_ret (c_ratio.call (hr.mono (by decide)) (by rfl) (pa_cons (pe_op op_add (pe_op op_mulW (pe_ix ix_tup (pv 0) pe_int (fun _ _ => rfl)) (pe_ix ix_tup (pv 1) pe_int (fun _ _ => rfl))) (pe_op op_mulW (pe_ix ix_tup (pv 1) pe_int (fun _ _ => rfl)) (pe_ix ix_tup (pv 0) pe_int (fun _ _ => rfl)))) (pa_cons (pe_op op_mulW (pe_ix ix_tup (pv 0) pe_int (fun _ _ => rfl)) (pe_ix ix_tup (pv 1) pe_int (fun _ _ => rfl))) pa_nil))))), ?_⟩
  have hu := ev_varR (E := Same) (σ := start n_plus [u, v]) (i := 0) rfl hu
  have hv := ev_varR (E := Same) (σ := start n_plus [u, v]) (i := 1) rfl hv
  refine st_ret (E := Same) (ev_ratio (ev_I0 (ev_I (ev_num hu) (ev_den hv) (sm_mul sx.2 (sm_dn sy))) (ev_I (ev_num hv) (ev_den hu) (sm_mul sy.2 (sm_dn sx)))) (ev_I (ev_den hu) (ev_den hv) (sm_mul (sm_dn sx) (sm_dn sy))) (den_mul_ne x y) (sm_den sx sy)) (Same.refl _) fun v H1 e r => k v H1 e ?_
  rw [divInt_add] at r; exact r
theorem ok_minus (D : DefAt K mg "minus" s_minus) (c_ratio : Cal P w K mg base 2 "ratio" ["over", "under"] (spRatio K)) : Cal P w K mg base 3 "minus" ["one", "other"] (spMinus K) := by
  refine D.cal 2 sc_minus (fun _ _ _ _ _ _ us hl => match us, hl with | [_, _], _ => rfl) len_R2 (fun f cdv A outer s H vs Q E hr h => ?_)
  obtain ⟨⟨x, y⟩, ⟨⟨u, v, rfl, hu, hv⟩, sx, sy⟩, k⟩ := h
  refine ⟨_, (pss_one (ps_ret (c_ratio.call (hr.mono (by decide)) (by rfl) (pa_cons (pe_op op_sub (pe_op op_mulW (pe_ix ix_tup (pv 0) pe_int (fun _ _ => rfl)) (pe_ix ix_tup (pv 1) pe_int (fun _ _ => rfl))) (pe_op op_mulW (pe_ix ix_tup (pv 1) pe_int (fun _ _ => rfl)) (pe_ix ix_tup (pv 0) pe_int (fun _ _ => rfl)))) (pa_cons (pe_op op_mulW (pe_ix ix_tup (pv 0) pe_int (fun _ _ => rfl)) (pe_ix ix_tup (pv 1) pe_int (fun _ _ => rfl))) pa_nil))))), ?_⟩
  have hu := ev_varR (E := Same) (σ := start n_minus [u, v]) (i := 0) rfl hu
  have hv := ev_varR (E := Same) (σ := start n_minus [u, v]) (i := 1) rfl hv
  refine st_ret (E := Same) (ev_ratio (ev_I0 (ev_I (ev_num hu) (ev_den hv) (sm_mul sx.2 (sm_dn sy))) (ev_I (ev_num hv) (ev_den hu) (sm_mul sy.2 (sm_dn sx)))) (ev_I (ev_den hu) (ev_den hv) (sm_mul (sm_dn sx) (sm_dn sy))) (den_mul_ne x y) (sm_den sx sy)) (Same.refl _) fun v H1 e r => k v H1 e ?_
  rw [divInt_sub] at r; exact r
theorem ok_times (D : DefAt K mg "times" s_times) (c_ratio : Cal P w K mg base 2 "ratio" ["over", "under"] (spRatio K)) : Cal P w K mg base 3 "times" ["one", "other"] (spTimes K) := by
  refine D.cal 2 sc_times (fun _ _ _ _ _ _ us hl => match us, hl with | [_, _], _ => rfl) len_R2 (fun f cdv A outer s H vs Q E hr h => ?_)
  obtain ⟨⟨x, y⟩, ⟨⟨u, v, rfl, hu, hv⟩, sx, sy⟩, k⟩ := h
  refine ⟨_, (pss_one (ps_ret (c_ratio.call (hr.mono (by decide)) (by rfl) (pa_cons (pe_op op_mulW (pe_ix ix_tup (pv 0) pe_int (fun _ _ => rfl)) (pe_ix ix_tup (pv 1) pe_int (fun _ _ => rfl))) (pa_cons (pe_op op_mulW (pe_ix ix_tup (pv 0) pe_int (fun _ _ => rfl)) (pe_ix ix_tup (pv 1) pe_int (fun _ _ => rfl))) pa_nil))))), ?_⟩
  have hu := ev_varR (E := Same) (σ := start n_times [u, v]) (i := 0) rfl hu
  have hv := ev_varR (E := Same) (σ := start n_times [u, v]) (i := 1) rfl hv
  refine st_ret (E := Same) (ev_ratio (ev_I (ev_num hu) (ev_num hv) (sm_mul sx.2 sy.2)) (ev_I (ev_den hu) (ev_den hv) (sm_mul (sm_dn sx) (sm_dn sy))) (den_mul_ne x y) (sm_den sx sy)) (Same.refl _) fun v H1 e r => k v H1 e ?_
  rw [divInt_mul] at r; exact r
def spDivided (K : PySem.W.Frag) : Sp := SpG (α := Rat × Rat) (fun x vs H => PreR2 K x vs H ∧ x.2 ≠ 0 ∧ x.2.num.natAbs < 2 ^ 4400) (fun x => Rt K (x.1 / x.2))
theorem ev_div {σ : L2.St} {H : Hp} {ta tb : TE} {x y : Rat} {X : XK} (ha : Eva Same ta σ H (Rt K x)) (hb : Eva Same tb σ H (Rt K y)) (sx : Sm x) (sy : Sm y) (h0 : y ≠ 0) (hz : y.num.natAbs < 2 ^ 4400) : Eva Same (tCall (spDivided K) [] X (tCons ta (tCons tb tNil))) σ H (Rt K (x / y)) := by
  refine ev_G (α := Rat × Rat) (x, y) (ea_cons ha (ea_cons hb ea_nil)) ?_
  rintro vs H' _ ⟨v, r, rfl, hv, v', r', rfl, hv', rfl⟩
  exact ⟨⟨⟨v, v', rfl, hv, hv'⟩, sx, sy⟩, h0, hz⟩
theorem divInt_div (x y : Rat) (h : y ≠ 0) : Rat.divInt (x.num * (y.den : Int)) ((x.den : Int) * y.num) = x / y := by
  have hx : x = Rat.divInt x.num x.den := (Rat.num_divInt_den x).symm
  have hy : y = Rat.divInt y.num y.den := (Rat.num_divInt_den y).symm
  rw [Rat.div_def, Rat.inv_def]
  conv => rhs; rw [hx]
  rw [Rat.divInt_mul_divInt]
theorem ok_divided (D : DefAt K mg "divided" s_divided) (c_ratio : Cal P w K mg base 2 "ratio" ["over", "under"] (spRatio K)) : Cal P w K mg base 3 "divided" ["one", "other"] (spDivided K) := by
  refine D.cal 2 sc_divided (fun _ _ _ _ _ _ us hl => match us, hl with | [_, _], _ => rfl) (fun vs H Q E h => ?_) (fun f cdv A outer s H vs Q E hr h => ?_)
  · obtain ⟨x, ⟨⟨⟨_, _, rfl, _⟩, _⟩, _⟩, _⟩ := h; rfl
  obtain ⟨⟨x, y⟩, ⟨⟨⟨u, v, rfl, hu, hv⟩, sx, sy⟩, h0, hz⟩, k⟩ := h
  have hn : y.num ≠ 0 := fun e => h0 (Rat.num_eq_zero.mp e)
  refine ⟨_, (pss_cons (ps_if (pt_cmpR op_eq (pe_ix ix_tup (pv 1) pe_int (fun _ _ => rfl)) pe_int (nomark _)) (pss_one ps_never) pss_nil)
      (pss_one (ps_ret (c_ratio.call (hr.mono (by decide)) (by rfl) (pa_cons (pe_op op_mulW (pe_ix ix_tup (pv 0) pe_int (fun _ _ => rfl)) (pe_ix ix_tup (pv 1) pe_int (fun _ _ => rfl))) (pa_cons (pe_op op_mulW (pe_ix ix_tup (pv 0) pe_int (fun _ _ => rfl)) (pe_ix ix_tup (pv 1) pe_int (fun _ _ => rfl))) pa_nil)))))), ?_⟩
  have hu := ev_varR (E := Same) (σ := start n_divided [u, v]) (i := 0) rfl hu
  have hv := ev_varR (E := Same) (σ := start n_divided [u, v]) (i := 1) rfl hv
  refine st_seq (st_if (E := Same) (et_test (ev_eq (ev_num hv) ev_c rfl)) (Same.refl _) (fun z => ?_) (fun _ H1 e1 => ?_))
  · exact absurd (V.int.inj (of_decide_eq_true z)) hn
  have hs : ((x.den : Int) * y.num).natAbs < 2 ^ 9000 := Nat.lt_of_lt_of_le (wide_lt (a := 4400) (b := 4400) (by simpa using sx.1) hz) (Nat.pow_le_pow_right (by decide) (by decide))
  refine st_nx ?_
  dsimp only
  refine st_ret (E := Same) (R := Rt K (x / y)) (Eva.at e1 ?hd) (Same.refl _) (fun v H2 e r => k v H2 (e1.trans e) r)
  rw [← divInt_div x y h0]
  exact ev_ratio (ev_I (ev_num hu) (ev_den hv) (sm_mul sx.2 (sm_dn sy))) (ev_I (ev_den hu) (ev_num hv) (sm_mul (sm_dn sx) sy.2)) (Int.mul_ne_zero (den_ne x) hn) hs
/-! ### by places -/
theorem pget {α β : Type} {F : α → β → Prop} : ∀ {l : List α} {m : List β}, Paired F l m → ∀ {i : Nat} {a : α}, l[i]? = some a → ∃ b, m[i]? = some b ∧ F a b
  | _, _, .nil, i, a, h => by simp at h
  | _, _, .cons r t, 0, a, h => by simp at h; subst h; exact ⟨_, rfl, r⟩
  | _, _, .cons r t, i + 1, a, h => by simpa using pget t (by simpa using h)
end
end Gm

set_option maxHeartbeats 4000000
namespace Gm
open PySem PySem.Spec PyProof.Rows L2
/-! ### lists of things -/
/-- the value is a list (to be read) of things that stand for xs -/
def Ls {α : Type} (K : PySem.W.Frag) (R : α → V → Hp → Prop) (xs : List α) : V → Hp → Prop := fun v H => ∃ a vs, v = .ref a ∧ SqL K H a vs ∧ Paired (fun u x => R x u H) vs xs
theorem pimp {α β : Type} {F G : α → β → Prop} (h : ∀ a b, F a b → G a b) : ∀ {l : List α} {m : List β}, Paired F l m → Paired G l m
  | _, _, .nil => .nil
  | _, _, .cons r t => .cons (h _ _ r) (pimp h t)
theorem pgetR {α β : Type} {F : α → β → Prop} : ∀ {l : List α} {m : List β}, Paired F l m → ∀ {i : Nat} {b : β}, m[i]? = some b → ∃ a, l[i]? = some a ∧ F a b
  | _, _, .nil, i, a, h => by simp at h
  | _, _, .cons r t, 0, a, h => by simp at h; subst h; exact ⟨_, rfl, r⟩
  | _, _, .cons r t, i + 1, a, h => by simpa using pgetR t (by simpa using h)
theorem pset {α β : Type} {F : α → β → Prop} {x : α} {y : β} (r : F x y) : ∀ {l : List α} {m : List β} (i : Nat), Paired F l m → Paired F (l.set i x) (m.set i y)
  | _, _, _, .nil => .nil
  | _, _, 0, .cons _ t => .cons r t
  | _, _, i + 1, .cons q t => .cons q (pset r i t)
theorem papp {α β : Type} {F : α → β → Prop} : ∀ {l l' : List α} {m m' : List β}, Paired F l m → Paired F l' m' → Paired F (l ++ l') (m ++ m')
  | _, _, _, _, .nil, s => s
  | _, _, _, _, .cons r t, s => .cons r (papp t s)
theorem paired_of {α β : Type} {F : α → β → Prop} : ∀ {l : List α} {m : List β}, l.length = m.length → (∀ (i : Nat) a b, l[i]? = some a → m[i]? = some b → F a b) → Paired F l m
  | [], [], _, _ => .nil
  | [], _ :: _, h, _ => by simp at h
  | _ :: _, [], h, _ => by simp at h
  | a :: l, b :: m, h, f => .cons (f 0 a b rfl rfl) (paired_of (by simpa using h) fun i a b ha hb => f (i + 1) a b (by simpa using ha) (by simpa using hb))
theorem paired_map {α β γ : Type} {F : α → β → Prop} {f : γ → α} {g : γ → β} (h : ∀ x, F (f x) (g x)) : ∀ (l : List γ), Paired F (l.map f) (l.map g)
  | [] => .nil
  | x :: l => .cons (h x) (paired_map h l)
/-! ### total -/
/-- the sum from the left -/
def tot (qs : List Rat) : Rat := qs.foldl (· + ·) 0
theorem tot_take {qs : List Rat} {i : Nat} {q : Rat} (h : qs[i]? = some q) : tot (qs.take (i + 1)) = tot (qs.take i) + q := by
  unfold tot
  rw [List.take_succ, h, List.foldl_append]
  rfl
/-- all sums on the way are small -/
def SmAll (qs : List Rat) : Prop := (∀ q ∈ qs, Sm q) ∧ ∀ i, Sm (tot (qs.take i))
def spTotal (K : PySem.W.Frag) : Sp := SpG (α := List Rat) (fun qs vs H => (∃ v, vs = [v] ∧ Ls K (Rt K) qs v H) ∧ SmAll qs) (fun qs => Rt K (tot qs))
section
variable {P : Program} {w : World} {K : PySem.W.Frag} {mg : Str → Option Value} {base : Heap} {aN : Addr} {uM uW uL : Value}
theorem rt0 (U : Uni K mg aN uM uW uL) (H : Hp) : Rt K 0 (.ref aN) H := ⟨aN, rfl, U.tN H⟩
theorem rt_up {q : Rat} {v : V} {H H' : Hp} (h : Rt K q v H) (e : Wk H H') : Rt K q v H' := MonW.mono e h
theorem ok_total (D : DefAt K mg "total" s_total) (U : Uni K mg aN uM uW uL) (c_plus : Cal P w K mg base 3 "plus" ["one", "other"] (spPlus K)) : Cal P w K mg base 4 "total" ["some"] (spTotal K) := by
  refine D.cal 3 sc_total (fun _ _ _ _ _ _ us hl => match us, hl with | [_], _ => rfl) (fun vs H Q E h => ?_) (fun f cdv A outer s H vs Q E hr h => ?_)
  · obtain ⟨x, ⟨⟨_, rfl, _⟩, _⟩, _⟩ := h; rfl
  obtain ⟨qs, ⟨⟨_, rfl, a, vs, rfl, hl, hp⟩, s1, s2⟩, k⟩ := h
  refine ⟨_, (pss_cons (ps_set (i := 1) sc_total.nd rfl (Or.inl rfl) (pe_glob (by rfl) U.gNOUGHT U.rNOUGHT))
      (pss_cons (ps_for PassesOwn.never rfl (pi_list (pv 0)) (pg_name (i := 2) sc_total.nd rfl (Or.inl rfl)) (pss_one (ps_set (i := 1) sc_total.nd rfl (Or.inl rfl) (c_plus.call (hr.mono (by decide)) (by rfl) (pa_cons (pv 1) (pa_cons (pv 2) pa_nil))))))
      (pss_one (ps_ret (pv 1))))), ?_⟩
  refine st_set (E := Same) (ev_cR (rt0 U H)) (Same.refl _) fun v H1 e1 hv => ?_
  refine st_seq ⟨_, rfl, a, rfl, ⟨_, e1.seq hl⟩, for_list (K := K) (a := a) (xs := vs) (fun i σ H2 => ∃ u o, σ = [some (.ref a), some u, o] ∧ Same H H2 ∧ Rt K (tot (qs.take i)) u H2) ⟨v, none, rfl, e1, hv⟩ (fun i σ H2 _ ⟨_, _, _, e, _⟩ => e.seq hl) ?_ ?_⟩
  · rintro i x σ H2 hx ⟨u, o, rfl, e2, hu⟩
    obtain ⟨q, hq, hr'⟩ := pget hp hx
    refine st_set1 (E := Same) (ev_R2 (ev_varR rfl hu) (ev_varR rfl (rt_up hr' e2.wk)) (s2 i) (s1 q (List.mem_of_getElem? hq))) (Same.refl _) fun v H3 e3 hv => ?_
    exact ⟨v, some x, rfl, e2.trans e3, by rw [tot_take hq]; exact hv⟩
  · rintro σ H2 ⟨u, o, rfl, e2, hu⟩
    refine st_ret (E := Same) (ev_varR rfl hu) (Same.refl _) fun v H3 e3 hv => k v H3 (e2.trans e3) ?_
    rw [List.take_of_length_le (by rw [hp.length]; exact Nat.le_refl _)] at hv
    exact hv
end
end Gm

set_option maxHeartbeats 4000000
namespace Gm
open PySem PySem.Spec PyProof.Rows L2
section
variable {E : Hp → Hp → Prop} [PreE E] {K : PySem.W.Frag} {σ : L2.St} {H H' : Hp} {ta tb te tx td ty : TE} {t u : TT} {x y z v : V} {R S : V → Hp → Prop} {RA : List V → Hp → Prop}
/-! ### reading dicts, fields, methods -/
theorem ev_dget {d : Addr} {kvs : List (Key × V)} {k : Key} (hd : Eva E td σ H (Is (.ref d))) (h : Rd H d (.dK kvs)) (hk : Eva E ty σ H (Is (kV k))) (hv : valV kvs k = some v) : Eva E (tDGet td ty) σ H (Is v) := fun H1 e Q q =>
  hd H1 e _ fun x H2 e2 rx => hk H2 (PreE.trans e e2) _ fun y H3 e3 ry => ⟨d, v, rx, .inl ⟨kvs, k, (PreE.wk (PreE.trans (PreE.trans e e2) e3)).dic _ _ h, ry, hv.symm⟩, q _ H3 (PreE.trans e2 e3) rfl⟩
theorem ev_din {d : Addr} {kvs : List (Key × V)} {k : Key} (hk : Eva E ty σ H (Is (kV k))) (hd : Eva E td σ H (Is (.ref d))) (h : Rd H d (.dK kvs)) : Eva E (tDIn ty td) σ H (Is (.bl (valV kvs k).isSome)) := fun H1 e Q q =>
  hk H1 e _ fun y H2 e2 ry => hd H2 (PreE.trans e e2) _ fun x H3 e3 rx => ⟨d, _, rx, .inl ⟨kvs, k, (PreE.wk (PreE.trans (PreE.trans e e2) e3)).dic _ _ h, ry, rfl⟩, q _ H3 (PreE.trans e2 e3) rfl⟩
theorem ev_dnotin {d : Addr} {kvs : List (Key × V)} {k : Key} (hk : Eva E ty σ H (Is (kV k))) (hd : Eva E td σ H (Is (.ref d))) (h : Rd H d (.dK kvs)) : Eva E (tDNotIn ty td) σ H (Is (.bl (!(valV kvs k).isSome))) := fun H1 e Q q =>
  hk H1 e _ fun y H2 e2 ry => hd H2 (PreE.trans e e2) _ fun x H3 e3 rx => ⟨d, _, rx, .inl ⟨kvs, k, (PreE.wk (PreE.trans (PreE.trans e e2) e3)).dic _ _ h, ry, rfl⟩, q _ H3 (PreE.trans e2 e3) rfl⟩
theorem ev_fld {a C dx : Addr} {fs : List (Str × V)} {f : Str} (ha : Eva E ta σ H (Is (.ref a))) (h : H a = some (.ins C dx fs)) (c : Cls K C) (n : NoAttr K C f) (hl : fs.lookup f = some v) : Eva E (tFld K ta f) σ H (Is v) := fun H1 e Q q =>
  ha H1 e _ fun x H2 e2 rx => ⟨a, C, dx, fs, v, rx, (PreE.wk (PreE.trans e e2)).ins _ _ _ _ h, c, n, hl, q _ H2 e2 rfl⟩
theorem ev_meth {a C dx : Addr} {fs : List (Str × V)} {m : Str} {sp : Sp} {X : XK} {tl : TA} (ha : Eva E ta σ H (Is (.ref a))) (h : H a = some (.ins C dx fs)) (hm : fs.lookup m = none) (hl : EvA E tl σ H RA)
    (hr : ∀ vs H1, E H H1 → RA vs H1 → ∀ Q : VK, (∀ v H2, E H1 H2 → S v H2 → Q v H2) → sp (.ref a :: vs) H1 Q X) : Eva E (tMeth C m sp [] X ta tl) σ H S := fun H1 e Q q =>
  ha H1 e _ fun x H2 e2 rx => ⟨a, dx, fs, rx, (PreE.wk (PreE.trans e e2)).ins _ _ _ _ h, hm, hl H2 (PreE.trans e e2) _ fun vs H3 e3 rs => by
    rw [show x = V.ref a from rx, List.append_nil]
    exact hr vs H3 (PreE.trans (PreE.trans e e2) e3) rs Q fun v H4 e4 s => q v H4 (PreE.trans (PreE.trans e2 e3) e4) s⟩
/-- list items -/
theorem ev_ixL {a : Addr} {xs : List V} {i : Int} (ha : Eva E ta σ H (Is (.ref a))) (hs : SqL K H a xs) (nb : ¬ PreE.bad E a) (hb : Eva E tb σ H (Is (.int i))) (hi : atI xs i = some v) : Eva E (tOp (rIxL K) ta tb) σ H (Is v) := fun H1 e Q q =>
  ha H1 e _ fun x H2 e2 rx => hb H2 (PreE.trans e e2) _ fun y H3 e3 ry => by
    refine ⟨a, xs, i, v, rx, ry, ?_, hi, q _ H3 (PreE.trans e2 e3) rfl⟩
    have e13 := PreE.trans (PreE.trans e e2) e3
    rcases hs with (hs | ⟨o, hs⟩) | hs
    · exact .inl (.inl (PreE.keep e13 nb hs))
    · exact .inl (.inr ⟨o, PreE.keep e13 nb hs⟩)
    · exact .inr hs
/-- is None -/
theorem ev_isN (ha : Eva E ta σ H (Is x)) : Eva E (tOp (fun x y H Q => y = .non ∧ Q (.bl (decide (x = .non))) H) ta (tC .non)) σ H (Is (.bl (decide (x = .non)))) := fun H1 e Q q =>
  ha H1 e _ fun x' H2 e2 rx => by cases rx; exact ⟨rfl, q _ H2 e2 rfl⟩
theorem ev_notN (ha : Eva E ta σ H (Is x)) : Eva E (tOp (fun x y H Q => y = .non ∧ Q (.bl (!decide (x = .non))) H) ta (tC .non)) σ H (Is (.bl (!decide (x = .non)))) := fun H1 e Q q =>
  ha H1 e _ fun x' H2 e2 rx => by cases rx; exact ⟨rfl, q _ H2 e2 rfl⟩
theorem Eva.is {u : V} (h : Eva E te σ H (Is v)) (e : v = u) : Eva E te σ H (Is u) := e ▸ h
theorem EvT.is {a b : Bool} (h : EvT E t σ H a) (e : a = b) : EvT E t σ H b := e ▸ h

/-! ### what is walked -/
variable (E) in
/-- n turns; turn i yields what Y i says -/
def Jok (J : It) (n : Nat) (Y : Nat → V → Hp → Prop) (H0 : Hp) : Prop := ∀ H, E H0 H → J.stop n H ∧ ∀ i, i < n → J.go i H ∧ ∀ x H', J.yld i H x H' → E H H' ∧ Y i x H'
variable (E) in
def EvI (wi : TI) (σ : L2.St) (H : Hp) (n : Nat) (Y : Nat → V → Hp → Prop) : Prop := ∀ H1, E H H1 → ∀ R : It → Hp → Prop, (∀ J H2, E H1 H2 → Jok E J n Y H2 → R J H2) → wi σ H1 R
theorem sqL_keep {A B : Hp} {a : Addr} {xs : List V} (e : E A B) (nb : ¬ PreE.bad E a) (hs : SqL K A a xs) : SqL K B a xs := by
  rcases hs with (hs | ⟨o, hs⟩) | hs
  · exact .inl (.inl (PreE.keep e nb hs))
  · exact .inl (.inr ⟨o, PreE.keep e nb hs⟩)
  · exact .inr hs
theorem get_lt {α : Type} {xs : List α} {i : Nat} (h : i < xs.length) : ∃ x, xs[i]? = some x := ⟨xs[i], List.getElem?_eq_getElem h⟩
/-- over a list; the list is what the expression gives -/
theorem ei_list {xs : List V} (h : Eva E te σ H (fun v H1 => ∃ a, v = .ref a ∧ SqL K H1 a xs ∧ ¬ PreE.bad E a)) : EvI E (iList K te) σ H xs.length (fun i x _ => xs[i]? = some x) := fun H1 e R r =>
  h H1 e _ fun v H2 e2 ⟨a, ea, hs, nb⟩ => ⟨a, ea, ⟨xs, hs⟩, r _ H2 e2 fun H3 e3 => ⟨⟨xs, sqL_keep e3 nb hs, Nat.le_refl _⟩, fun i hi => ⟨by
    obtain ⟨x, hx⟩ := get_lt hi
    exact ⟨xs, x, sqL_keep e3 nb hs, hx⟩, fun x H' y => by
      obtain ⟨e4, y⟩ := y
      subst e4
      exact ⟨PreE.rr e3, y xs (sqL_keep e3 nb hs)⟩⟩⟩⟩
theorem ei_tup {xs : List V} (h : Eva E te σ H (TupV K xs)) : EvI E (iTup K te) σ H xs.length (fun i x _ => xs[i]? = some x) := fun H1 e R r =>
  h H1 e _ fun v H2 e2 ⟨a, ea, hs⟩ => ⟨a, ea, ⟨xs, hs⟩, r _ H2 e2 fun H3 e3 => ⟨⟨xs, (PreE.wk e3).sqT hs, Nat.le_refl _⟩, fun i hi => ⟨by
    obtain ⟨x, hx⟩ := get_lt hi
    exact ⟨xs, x, (PreE.wk e3).sqT hs, hx⟩, fun x H' y => by
      obtain ⟨e4, y⟩ := y
      subst e4
      exact ⟨PreE.rr e3, y xs ((PreE.wk e3).sqT hs)⟩⟩⟩⟩
theorem ei_range1 {n : Nat} (h : Eva E te σ H (Is (.int (n : Int)))) (hn : n < 1000000) : EvI E (iRng1 (tCons te tNil)) σ H n (fun i x _ => x = .int (i : Int)) := fun H1 e R r =>
  h H1 e _ fun v H2 e2 rv => ⟨n, by rw [show v = _ from rv], by omega, by omega, r _ H2 e2 fun H3 e3 => ⟨by show _ ≤ _; omega, fun i hi => ⟨by show _ < _; omega, fun x H' y => by
    obtain ⟨e4, y⟩ := y
    subst e4
    exact ⟨PreE.rr e3, by rw [y]; simp⟩⟩⟩⟩
theorem ei_range2 {a n : Nat} (h : Eva E te σ H (Is (.int (a : Int)))) (h2 : Eva E ta σ H (Is (.int ((a + n : Nat) : Int)))) (hn : a + n < 1000000) : EvI E (iRng2 (tCons te (tCons ta tNil))) σ H n (fun i x _ => x = .int ((a + i : Nat) : Int)) := fun H1 e R r =>
  h H1 e _ fun v H2 e2 rv => h2 H2 (PreE.trans e e2) _ fun v' H3 e3 rv' => ⟨a, ((a + n : Nat) : Int), by rw [show v = _ from rv, show v' = _ from rv'], ⟨by omega, by omega, by omega, by omega⟩, by
    have en : (((a + n : Nat) : Int) - (a : Int)).toNat = n := by omega
    rw [en]
    exact r _ H3 (PreE.trans e2 e3) fun H4 e4 => ⟨by show _ ≤ _; omega, fun i hi => ⟨by show _ < _; omega, fun x H' y => by
      obtain ⟨e5, y⟩ := y
      subst e5
      exact ⟨PreE.rr e4, by rw [y]; simp⟩⟩⟩⟩
/-- a locked dict's keys, values, items -/
theorem ei_keys {d : Addr} {od : Obj} {kvs : List (Key × V)} (h : Eva E te σ H (Is (.ref d))) (hd : H d = some (.frz od (.dK kvs))) : EvI E (iKeys te) σ H kvs.length (fun i x _ => ∃ k v, kvs[i]? = some (k, v) ∧ x = kV k) := fun H1 e R r =>
  h H1 e _ fun v H2 e2 rv => ⟨d, od, rv, .inl ⟨kvs, PreE.one (PreE.trans e e2) (fun _ z => nomatch z) hd, r _ H2 e2 fun H3 e3 => by
    have h3 := PreE.one (o := .frz od (.dK kvs)) (PreE.trans (PreE.trans e e2) e3) (fun _ z => nomatch z) hd
    exact ⟨⟨h3, Nat.le_refl _⟩, fun i hi => ⟨⟨h3, hi⟩, fun x H' yy => by obtain ⟨e4, y⟩ := yy; subst e4; exact ⟨PreE.rr e3, y⟩⟩⟩⟩⟩
theorem ei_vals {d : Addr} {od : Obj} {kvs : List (Key × V)} (h : Eva E te σ H (Is (.ref d))) (hd : H d = some (.frz od (.dK kvs))) : EvI E (iVals te) σ H kvs.length (fun i x _ => ∃ k, kvs[i]? = some (k, x)) := fun H1 e R r =>
  h H1 e _ fun v H2 e2 rv => ⟨d, od, kvs, rv, PreE.one (PreE.trans e e2) (fun _ z => nomatch z) hd, r _ H2 e2 fun H3 e3 => by
    have h3 := PreE.one (o := .frz od (.dK kvs)) (PreE.trans (PreE.trans e e2) e3) (fun _ z => nomatch z) hd
    exact ⟨⟨h3, Nat.le_refl _⟩, fun i hi => ⟨⟨h3, hi⟩, fun x H' yy => by obtain ⟨e4, y⟩ := yy; subst e4; exact ⟨PreE.rr e3, y⟩⟩⟩⟩
theorem ei_items {d : Addr} {od : Obj} {kvs : List (Key × V)} (h : Eva E te σ H (Is (.ref d))) (hd : H d = some (.frz od (.dK kvs))) : EvI E (iItems te) σ H kvs.length (fun i x H' => ∃ k v, kvs[i]? = some (k, v) ∧ TupV K [kV k, v] x H') := fun H1 e R r =>
  h H1 e _ fun v H2 e2 rv => ⟨d, od, kvs, rv, PreE.one (PreE.trans e e2) (fun _ z => nomatch z) hd, r _ H2 e2 fun H3 e3 => by
    have h3 := PreE.one (o := .frz od (.dK kvs)) (PreE.trans (PreE.trans e e2) e3) (fun _ z => nomatch z) hd
    exact ⟨⟨h3, Nat.le_refl _⟩, fun i hi => ⟨⟨h3, hi⟩, fun x H' yy => by
      obtain ⟨T, k, v, hk, ex, hT, e4⟩ := yy
      subst e4
      exact ⟨PreE.new (PreE.rr e3) hT, k, v, hk, T, ex, SqT.of upd_same⟩⟩⟩⟩
theorem ei_enum {xs : List V} (h : Eva E te σ H (fun v H1 => ∃ a, v = .ref a ∧ SqL K H1 a xs ∧ ¬ PreE.bad E a)) : EvI E (iEnum K (tCons te tNil)) σ H xs.length (fun i x H' => ∃ v, xs[i]? = some v ∧ TupV K [.int (i : Nat), v] x H') := fun H1 e R r =>
  h H1 e _ fun v H2 e2 ⟨a, ea, hs, nb⟩ => ⟨a, xs, by rw [ea], hs, r _ H2 e2 fun H3 e3 => ⟨⟨xs, sqL_keep e3 nb hs, Nat.le_refl _⟩, fun i hi => ⟨by
    obtain ⟨x, hx⟩ := get_lt hi
    exact ⟨xs, x, sqL_keep e3 nb hs, hx⟩, fun x H' yy => by
      obtain ⟨T, y, ex, hT, e4, hy⟩ := yy
      subst e4
      exact ⟨PreE.new (PreE.rr e3) hT, y, hy xs (sqL_keep e3 nb hs), T, ex, SqT.of upd_same⟩⟩⟩⟩
theorem ei_zip {xs ys : List V} (h : EvA E tl σ H (fun vs H1 => ∃ a b, vs = [.ref a, .ref b] ∧ SqL K H1 a xs ∧ SqL K H1 b ys ∧ ¬ PreE.bad E a ∧ ¬ PreE.bad E b)) (hl : xs.length = ys.length) :
    EvI E (iZip K tl) σ H xs.length (fun i x H' => ∃ v u, xs[i]? = some v ∧ ys[i]? = some u ∧ TupV K [v, u] x H') := fun H1 e R r =>
  h H1 e _ fun v H2 e2 ⟨a, b, ea, hs, hs', nb, nb'⟩ => ⟨a, b, xs, ys, ea, hs, hs', r _ H2 e2 fun H3 e3 => ⟨⟨xs, ys, sqL_keep e3 nb hs, sqL_keep e3 nb' hs', .inl (Nat.le_refl _)⟩, fun i hi => ⟨by
    obtain ⟨x, hx⟩ := get_lt hi
    obtain ⟨y, hy⟩ := get_lt (xs := ys) (i := i) (by omega)
    exact ⟨xs, ys, x, y, sqL_keep e3 nb hs, sqL_keep e3 nb' hs', hx, hy⟩, fun x H' yy => by
      obtain ⟨T, y, z, ex, hT, e4, hy, hz⟩ := yy
      subst e4
      exact ⟨PreE.new (PreE.rr e3) hT, y, z, hy xs (sqL_keep e3 nb hs), hz ys (sqL_keep e3 nb' hs'), T, ex, SqT.of upd_same⟩⟩⟩⟩
theorem ei_imp {wi : TI} {n : Nat} {Y Z : Nat → V → Hp → Prop} (h : EvI E wi σ H n Y) (i : ∀ j x H1, j < n → Y j x H1 → Z j x H1) : EvI E wi σ H n Z := fun H1 e R r =>
  h H1 e R fun J H2 e2 jk => r J H2 e2 fun H3 e3 => ⟨(jk H3 e3).1, fun j hj => ⟨((jk H3 e3).2 j hj).1, fun x H' y => ⟨(((jk H3 e3).2 j hj).2 x H' y).1, i j x H' hj (((jk H3 e3).2 j hj).2 x H' y).2⟩⟩⟩

/-! ### comprehensions -/
/-- a target that takes x: the slots behind it -/
def TgOk (g : TG) (x : V) (σ : L2.St) (H : Hp) (σ2 : L2.St) : Prop := ∀ Q : L2.St → Hp → Prop, Q σ2 H → g x σ H Q
theorem tg_name {i : Nat} : TgOk (gName i) x σ H (σ.set i (some x)) := fun _ q => q
theorem tg_tup {n : Nat} {ts : TGs} {xs : List V} {σ2 : L2.St} (h : TupV K xs x H) (hn : xs.length = n) (hg : ∀ Q : L2.St → Hp → Prop, Q σ2 H → ts xs σ H Q) : TgOk (gTup K n ts) x σ H σ2 := fun Q q => by
  obtain ⟨a, ea, hs⟩ := h
  exact ⟨a, xs, ea, hs, hn, hg Q q⟩
theorem filter_snoc (b : Nat → Bool) (i : Nat) : (List.range (i + 1)).filter b = (List.range i).filter b ++ (if b i = true then [i] else []) := by
  rw [List.range_succ, List.filter_append]
  congr 1
  simp [List.filter_cons]
theorem ev_lc {wi : TI} {n : Nat} {Y : Nat → V → Hp → Prop} {g : TG} {tt : TT} {own : List Nat} (hI : EvI E wi σ H n Y) (hn : n ≤ 100000) (b : Nat → Bool) (R : Nat → V → Hp → Prop) [hR : ∀ i, MonW (R i)]
    (step : ∀ i x H', i < n → E H H' → Y i x H' → ∃ σ2, TgOk g x (wipe σ own) H' σ2 ∧ wipe σ2 own = wipe σ own ∧ EvT E tt σ2 H' (b i) ∧ (b i = true → Eva E te σ2 H' (R i))) :
    Eva E (tLc wi g tt te own) σ H (fun v H' => ∃ D ys, v = .ref D ∧ H' D = some (.lst ys) ∧ Paired (fun y i => R i y H') ys ((List.range n).filter b) ∧ ¬ PreE.bad E D) := fun H1 e Q q =>
  hI H1 e _ fun J H2 e2 jk D hD => by
    have e12 := PreE.trans e e2
    refine ⟨fun i m H' => m = n - i ∧ i ≤ n ∧ E H2 H' ∧ ∃ acc, H' D = some (.lst acc) ∧ Paired (fun y i => R i y H') acc ((List.range i).filter b), ⟨n, by simp, Nat.zero_le _, PreE.new (PreE.rr e2) hD, [], upd_same, .nil⟩, ?_⟩
    rintro i m H' ⟨rfl, hi, e3, acc, ha, hp⟩
    have nbD : ¬ PreE.bad E D := PreE.nb (a := D) (o := .tup []) (A := upd H2 D (.tup [])) (B := upd H2 D (.tup [])) (PreE.rr (PreE.new (PreE.rr e2) hD)) upd_same (fun _ z => nomatch z)
    by_cases hlt : i < n
    · refine .inr ⟨((jk H' e3).2 i hlt).1, fun H'' => i + 1 ≤ n ∧ E H2 H'' ∧ ∃ acc, H'' D = some (.lst acc) ∧ Paired (fun y i => R i y H'') acc ((List.range (i + 1)).filter b), fun H'' w => ⟨n - (i + 1), by omega, rfl, w⟩, fun x H4 y => ?_⟩
      obtain ⟨e4, yx⟩ := ((jk H' e3).2 i hlt).2 x H4 y
      have e24 := PreE.trans e3 e4
      obtain ⟨σ2, tg, hw, hb, hv⟩ := step i x H4 hlt (PreE.trans e12 e24) yx
      refine tg _ ⟨hw, hb H4 (PreE.rr e4) _ fun H5 e5 => ?_⟩
      have e25 := PreE.trans e24 e5
      have ha5 : H5 D = some (.lst acc) := PreE.keep (PreE.trans e4 e5) nbD ha
      have hp5 := pimp (fun y i (r : R i y H') => MonW.mono (PreE.wk (PreE.trans e4 e5)) r) hp
      have hlen : acc.length ≤ i := by
        rw [hp.length]
        exact Nat.le_trans (List.length_filter_le _ _) (by simp)
      cases hbi : b i with
      | false =>
        refine iteF ⟨hlt, e25, acc, ha5, ?_⟩
        rw [filter_snoc, hbi]
        simpa using hp5
      | true =>
        refine iteT (hv hbi H5 e5 _ fun y H6 e6 ry => ⟨acc, PreE.keep e6 nbD ha5, Nat.lt_of_le_of_lt (Nat.le_trans hlen (Nat.le_trans hi hn)) (by decide), hlt, PreE.muts (PreE.trans e25 e6) hD, acc ++ [y], upd_same, ?_⟩)
        rw [filter_snoc, hbi]
        have w6 : Wk H6 (upd H6 D (.lst (acc ++ [y]))) := Wk.putL (PreE.keep e6 nbD ha5)
        refine papp (pimp (fun y i (r : R i y H5) => MonW.mono ((PreE.wk e6).trans w6) r) hp5) (.cons (MonW.mono w6 ry) .nil)
    · have en : i = n := by omega
      subst en
      exact .inl ⟨(jk H' e3).1, q _ H' (PreE.trans e2 e3) ⟨D, acc, rfl, ha, hp, nbD⟩⟩
end
end Gm

set_option maxHeartbeats 4000000
namespace Gm
open PySem PySem.Spec PyProof.Rows L2
theorem Wk.putD {H : Hp} {p : Addr} {ks : List (Key × V)} {o : HO} (h : H p = some (.dK ks)) : (∀ a xs, Rd H a (.tup xs) → Rd (upd H p o) a (.tup xs)) := fun a z q => by
  rcases q with q | ⟨u, q⟩
  · exact .inl (by rw [upd_ne (ne_of q h (fun z => nomatch z))]; exact q)
  · exact .inr ⟨u, by rw [upd_ne (ne_of q h (fun z => nomatch z))]; exact q⟩
/-- a property that leans on tuples alone -/
class MonT (R : V → Hp → Prop) : Prop where
  mono : ∀ {v : V} {A B : Hp}, (∀ a xs, Rd A a (.tup xs) → Rd B a (.tup xs)) → R v A → R v B
instance (priority := low) {R : V → Hp → Prop} [MonT R] : MonW R := ⟨fun w h => MonT.mono w.tup h⟩
instance {v : V} : MonT (Is v) := ⟨fun _ h => h⟩
instance {K : PySem.W.Frag} {xs : List V} : MonT (TupV K xs) := ⟨fun w ⟨a, e, h⟩ => ⟨a, e, h.elim (fun h => .inl (w _ _ h)) .inr⟩⟩
instance {K : PySem.W.Frag} {q : Rat} : MonT (Rt K q) := inferInstanceAs (MonT (TupV K _))
/-! ### a new object -/
def EvaN (te : TE) (σ : L2.St) (H : Hp) (R : V → Hp → Prop) : Prop := ∀ H1, Same H H1 → ∀ Q : VK, (∀ d H2, Same H1 H2 → H1 d = none → R (.ref d) H2 → Q (.ref d) H2) → te σ H1 Q
theorem EvaN.eva {te : TE} {σ : L2.St} {H : Hp} {R : V → Hp → Prop} (h : EvaN te σ H R) : Eva Same te σ H R := fun H1 e Q q => h H1 e Q fun d H2 e2 _ r => q _ H2 e2 r
theorem EvaN.at {te : TE} {σ : L2.St} {H H' : Hp} {R : V → Hp → Prop} (e : Same H H') (h : EvaN te σ H R) : EvaN te σ H' R := fun H1 a Q q => h H1 (e.trans a) Q q
theorem EvaN.imp {te : TE} {σ : L2.St} {H : Hp} {R S : V → Hp → Prop} (h : EvaN te σ H R) (i : ∀ v H1, Same H H1 → R v H1 → S v H1) : EvaN te σ H S := fun H1 e Q q => h H1 e Q fun d H2 e2 n r => q d H2 e2 n (i _ H2 (e.trans e2) r)
theorem st_retN {te : TE} {σ : L2.St} {H : Hp} {R : V → Hp → Prop} {D : Ends} (h : EvaN te σ H R) (k : ∀ d H1, Same H H1 → H d = none → R (.ref d) H1 → D.rt (.ref d) H1) : tRet te D σ H := h H (Same.refl _) _ fun d H1 e n r => k d H1 e n r
theorem st_setN {te : TE} {σ : L2.St} {H : Hp} {R : V → Hp → Prop} {D : Ends} {i : Nat} {t2 : TS} (h : EvaN te σ H R) (k : ∀ d H1, Same H H1 → H d = none → R (.ref d) H1 → t2 D (σ.set i (some (.ref d))) H1) : tSeq (tAsg te (gName i)) t2 D σ H := h H (Same.refl _) _ fun d H1 e n r => k d H1 e n r
/-- a promise: a new object comes back -/
def SpN {α : Type} (Pre : α → List V → Hp → Prop) (Post : α → V → Hp → Prop) : Sp := fun vs H Q _ => ∃ x, Pre x vs H ∧ ∀ d H', Same H H' → H d = none → Post x (.ref d) H' → Q (.ref d) H'
theorem en_N {α : Type} {Pre : α → List V → Hp → Prop} {Post : α → V → Hp → Prop} {σ : L2.St} {H : Hp} {X : XK} {tl : TA} {RA : List V → Hp → Prop} (x : α) (h : EvA Same tl σ H RA) (hr : ∀ vs H1, Same H H1 → RA vs H1 → Pre x vs H1) : EvaN (tCall (SpN Pre Post) [] X tl) σ H (Post x) := fun H1 e Q q =>
  h H1 e _ fun vs H2 e2 ra => ⟨x, by rw [List.append_nil]; exact hr vs H2 (e.trans e2) ra, fun d H3 e3 n p => q d H3 (e2.trans e3) (e2.free n) p⟩
/-! ### a dict that an expression makes, walked: it is let go no more -/
def tFreeze (t : TE) : TE := fun σ H Q => t σ H fun x H1 => ∃ d kvs, x = .ref d ∧ H1 d = some (.dK kvs) ∧ ∀ od, Q x (upd H1 d (.frz od (.dK kvs)))
theorem pe_freeze {X : Cx} {e : Expr} {t : TE} (h : PE X e t) : PE X e (tFreeze t) := by
  refine ⟨fun pins s σ H Q I hw => ?_⟩
  refine thn (h.run pins s σ H _ I hw) fun u s1 ⟨x, H1, I1, rx, d, kvs, ex, hd, q⟩ => ?_
  obtain ⟨od, I2⟩ := I1.lock hd trivial
  exact ⟨x, _, I2, rx, q od⟩
theorem ev_freeze {σ : L2.St} {H : Hp} {te : TE} {R : V → Hp → Prop} {S : List (Key × V) → Hp → Prop} (h : EvaN te σ H R) (hR : ∀ d H1, R (.ref d) H1 → ∃ kvs, H1 d = some (.dK kvs) ∧ S kvs H1) :
    Eva Same (tFreeze te) σ H (fun v H1 => ∃ d kvs od H0, v = .ref d ∧ H1 d = some (.frz od (.dK kvs)) ∧ S kvs H0 ∧ Wk H0 H1) := fun H1 e Q q =>
  h H1 e _ fun d H2 e2 n r => by
    obtain ⟨kvs, hd, s⟩ := hR d H2 r
    exact ⟨d, kvs, rfl, hd, fun od => q _ _ (Same.mut e2 n) ⟨d, kvs, od, H2, rfl, upd_same, s, Wk.lock hd⟩⟩
/-! ### rules with the written part named (within comprehensions) -/
section
variable {X : Cx} {K : PySem.W.Frag}
theorem ix_tupK (h : X.K = K) : IxR X (rIxT K) := h ▸ ix_tup
theorem ix_listK (h : X.K = K) : IxR X (rIxL K) := h ▸ ix_list
theorem op_eqDK (hu : X.A.units + 64 < cLine) (h : X.K = K) : OpR X (compareOp .Eq) (rEqD K) := h ▸ op_eqD hu
theorem op_neDK (hu : X.A.units + 64 < cLine) (h : X.K = K) : OpR X (compareOp .NotEq) (rNeD K) := h ▸ op_neD hu
theorem op_in_seqK (h : X.K = K) : OpR X (compareOp .In) (rIn K false) := h ▸ op_in_seq
theorem op_notIn_seqK (h : X.K = K) : OpR X (compareOp .NotIn) (rIn K true) := h ▸ op_notIn_seq
theorem call_len_seqK (h : X.K = K) : CallR X (.builtin "len") (fun xs H Q => ∃ p ys, xs = [.ref p] ∧ (SqL K H p ys ∨ SqT K H p ys) ∧ Q (.int ys.length) H) := h ▸ call_len_seq
theorem call_list_ofK (h : X.K = K) : CallR X (.type "list") (fun xs H Q => ∃ p ys, xs = [.ref p] ∧ (SqL K H p ys ∨ SqT K H p ys) ∧ ∀ l, H l = none → Q (.ref l) (upd H l (.lst ys))) := h ▸ call_list_of
theorem call_tuple_ofK (h : X.K = K) : CallR X (.type "tuple") (fun xs H Q => ∃ p ys, xs = [.ref p] ∧ ((SqL K H p ys ∧ ∀ l, H l = none → Q (.ref l) (upd H l (.tup ys))) ∨ (SqT K H p ys ∧ Q (.ref p) H))) := h ▸ call_tuple_of
theorem call_isiK' (h : X.K = K) : CallR X (.builtin "isinstance") (rIsi K) := h ▸ call_isi
theorem cr_allK (hc : X.calm = true) (h : X.K = K) : CallR X (.builtin "all") (rAll K) := h ▸ cr_all hc
theorem cr_sortedSK (h : X.K = K) : CallR X (.builtin "sorted") (rSortedS K) := h ▸ cr_sortedS
theorem sl_tupK (h : X.K = K) : SlR X (rSlT K) := h ▸ sl_tup
theorem sl_listK (h : X.K = K) : SlR X (rSlL K) := h ▸ sl_list
theorem pe_fldK {e : Expr} {f : Str} {pos : Pos} {ta : TE} (ha : PE X e ta) (hb : attributeBase e f X.env (eval e X.env) = eval e X.env) (h : X.K = K) : PE X (.Attribute e f pos) (tFld K ta f) := h ▸ pe_fld ha hb
end
section
variable {E : Hp → Hp → Prop} [PreE E] {K : PySem.W.Frag} {σ : L2.St} {H H' : Hp} {ta tb te tk tv : TE} {t u : TT} {x y z v : V} {R S : V → Hp → Prop} {RA : List V → Hp → Prop}
/-- within a lock -/
theorem ev_lockE {t : TE} {d : Addr} {kvs : List (Key × V)} [MonL R] (h : H d = some (.dK kvs)) (ht : ∀ H1 od, Same H H1 → H1 d = some (.dK kvs) → Eva Same t σ (upd H1 d (.frz od (.dK kvs))) R) : Eva Same (tLockE t) σ H R := fun H1 e Q q =>
  ⟨d, _, e _ _ h, trivial, fun od => ht H1 od e (e _ _ h) _ (Same.refl _) _ fun v H2 e2 r => ⟨e2 _ _ upd_same, q _ _ (Same.lock (e _ _ h) e2) (MonL.mono (WkL.unlock (e2 _ _ upd_same)) r)⟩⟩
/-- tuples stand -/
def Tp (A B : Hp) : Prop := ∀ a xs, Rd A a (.tup xs) → Rd B a (.tup xs)
theorem Tp.refl (A : Hp) : Tp A A := fun _ _ h => h
theorem Tp.trans {A B C : Hp} (a : Tp A B) (b : Tp B C) : Tp A C := fun x xs h => b x xs (a x xs h)
theorem Tp.putD {H : Hp} {p : Addr} {ks : List (Key × V)} {o : HO} (h : H p = some (.dK ks)) : Tp H (upd H p o) := Wk.putD h
theorem Tp.putL {H : Hp} {p : Addr} {xs ys : List V} (h : H p = some (.lst xs)) : Tp H (upd H p (.lst ys)) := (Wk.putL h).tup
theorem _root_.L2.Same.tp {A B : Hp} (e : Same A B) : Tp A B := e.wk.tup
/-- d[k] = v, d a local -/
theorem st_dput [MonE Same R] {p : Addr} {kvs : List (Key × V)} {k : Key} {i : Nat} {D : Ends} (hv : Eva Same tv σ H R) (hi : σ[i]? = some (some (.ref p))) (hk : Eva Same tk σ H (Is (kV k))) (hp : H p = some (.dK kvs)) (hl : kvs.length < sizeLine)
    (q : ∀ v H1, Same H H1 → R v H1 → D.nx σ (upd H1 p (.dK (putK kvs k v)))) : sDPut (tVar i) tk tv D σ H :=
  hv H (Same.refl _) _ fun v H1 e1 r => ⟨_, hi, hk H1 e1 _ fun y H2 e2 ry => ⟨p, _, rfl, by
    rw [show y = kV k from ry]
    exact DPut.k ((e1.trans e2) _ _ hp) hl, q v H2 (e1.trans e2) (MonE.mono e2 r)⟩⟩
/-- a for over the items of a dict that an expression makes -/
theorem st_forI {S : List (Key × V) → Hp → Prop} {g : TG} {tb t2 : TS} {D : Ends} (h : Eva Same te σ H (fun v H1 => ∃ d kvs od H0, v = .ref d ∧ H1 d = some (.frz od (.dK kvs)) ∧ S kvs H0 ∧ Wk H0 H1))
    (k : ∀ d kvs od H0 H1, Same H H1 → H1 d = some (.frz od (.dK kvs)) → S kvs H0 → Wk H0 H1 → ∃ Pv : Nat → L2.St → Hp → Prop, Pv 0 σ H1 ∧ (∀ i σ' H', Pv i σ' H' → H' d = some (.frz od (.dK kvs))) ∧
      (∀ i x kk vv σ' H' H2, kvs[i]? = some (kk, vv) → Pv i σ' H' → Same H' H2 → TupV K [kV kk, vv] x H2 → g x σ' H2 fun σ2 H3 => tb { D with nx := Pv (i + 1), ct := Pv (i + 1), bk := t2 D } σ2 H3) ∧ (∀ σ' H', Pv kvs.length σ' H' → t2 D σ' H')) :
    tSeq (tFor (iItems te) g tb) t2 D σ H :=
  h H (Same.refl _) _ fun v H1 e1 ⟨d, kvs, od, H0, ev, hd, s, w⟩ => by
    obtain ⟨Pv, h0, hl, hst, hdn⟩ := k d kvs od H0 H1 e1 hd s w
    refine ⟨d, od, kvs, ev, hd, for_it walk_items (D := { D with nx := t2 D }) Pv h0 (fun i σ' H' _ p => hl i σ' H' p) ?_ hdn⟩
    rintro i x σ' H' H2 hi p ⟨T, y, z, rfl, hT, rfl, hy, hz⟩
    obtain ⟨⟨kk, vv⟩, hkv, rfl⟩ := Option.map_eq_some_iff.mp hy
    have hz : Option.map Prod.snd kvs[i]? = some z := hz
    rw [hkv] at hz
    cases hz
    exact hst i _ kk vv σ' H' _ hkv p (Same.new hT) ⟨T, rfl, SqT.of upd_same⟩
/-- an attribute of a local is stored -/
theorem st_fldS {p C dx : Addr} {fs : List (Str × V)} {i : Nat} {f : Str} {t2 : TS} {D : Ends} (h : Eva Same tv σ H R) (hi : σ[i]? = some (some (.ref p))) (hp : H p = some (.ins C dx fs)) (c : Cls K C) (n : NoAttr K C f) (hl : fs.length < 1000)
    (k : ∀ v H1, Same H H1 → R v H1 → t2 D σ (upd H1 p (.ins C dx (putF f v fs)))) : tSeq (sFld K (tVar i) tv f) t2 D σ H :=
  h H (Same.refl _) _ fun v H1 e1 r => ⟨_, hi, p, C, dx, fs, rfl, e1 _ _ hp, c, n, hl, k v H1 e1 r⟩
theorem st_fldL {p C dx : Addr} {fs : List (Str × V)} {i : Nat} {f : Str} {D : Ends} (h : Eva Same tv σ H R) (hi : σ[i]? = some (some (.ref p))) (hp : H p = some (.ins C dx fs)) (c : Cls K C) (n : NoAttr K C f) (hl : fs.length < 1000)
    (k : ∀ v H1, Same H H1 → R v H1 → D.nx σ (upd H1 p (.ins C dx (putF f v fs)))) : sFld K (tVar i) tv f D σ H :=
  h H (Same.refl _) _ fun v H1 e1 r => ⟨_, hi, p, C, dx, fs, rfl, e1 _ _ hp, c, n, hl, k v H1 e1 r⟩
/-- a for over a list that an expression gives, something behind it -/
theorem st_forL {xs : List V} {g : TG} {tb t2 : TS} {D : Ends} (h : Eva E te σ H R) (e0 : E H H)
    (k : ∀ v H1, E H H1 → R v H1 → ∃ a, v = .ref a ∧ SqL K H1 a xs ∧ ∃ Pv : Nat → L2.St → Hp → Prop, Pv 0 σ H1 ∧ (∀ i σ H, i ≤ xs.length → Pv i σ H → SqL K H a xs) ∧
      (∀ i x σ H, xs[i]? = some x → Pv i σ H → g x σ H fun σ2 H2 => tb { D with nx := Pv (i + 1), ct := Pv (i + 1), bk := t2 D } σ2 H2) ∧ (∀ σ H, Pv xs.length σ H → t2 D σ H)) : tSeq (tFor (iList K te) g tb) t2 D σ H :=
  h H e0 _ fun v H1 e1 r => by
    obtain ⟨a, ea, hs, Pv, h0, hl, hst, hd⟩ := k v H1 e1 r
    exact ⟨a, ea, ⟨xs, hs⟩, for_list (K := K) (a := a) (xs := xs) (D := { D with nx := t2 D }) Pv h0 hl hst hd⟩
theorem valV_none {κ : Type} [DecidableEq κ] {kvs : List (κ × V)} {k : κ} (h : ∀ p ∈ kvs, p.1 ≠ k) : valV kvs k = none := by
  unfold valV
  rw [List.find?_eq_none.mpr fun p hp => by simpa using h p hp]
  rfl
theorem paired_mem {α β : Type} {F : α → β → Prop} : ∀ {l : List α} {m : List β}, Paired F l m → ∀ {a : α}, a ∈ l → ∃ b ∈ m, F a b
  | _, _, .nil, a, h => by simp at h
  | _, _, .cons r t, a, h => by
    rcases List.mem_cons.mp h with rfl | h
    · exact ⟨_, List.mem_cons_self, r⟩
    · obtain ⟨b, hb, f⟩ := paired_mem t h
      exact ⟨b, List.mem_cons_of_mem _ hb, f⟩
theorem ev_dc {wi : TI} {n : Nat} {Y : Nat → V → Hp → Prop} {g : TG} {tt : TT} {own : List Nat} (hI : EvI E wi σ H n Y) (hn : n ≤ 100000) (b : Nat → Bool) (kk : Nat → Key) (R : Nat → V → Hp → Prop) [hR : ∀ i, MonT (R i)]
    (dis : ∀ i j, i < n → j < n → b i = true → b j = true → kk i = kk j → i = j)
    (step : ∀ i x H', i < n → E H H' → Y i x H' → ∃ σ2, TgOk g x (wipe σ own) H' σ2 ∧ wipe σ2 own = wipe σ own ∧ EvT E tt σ2 H' (b i) ∧ (b i = true → Eva E tk σ2 H' (Is (kV (kk i))) ∧ Eva E tv σ2 H' (R i))) :
    Eva E (tDc wi g tt tk tv own) σ H (fun v H' => ∃ D ys, v = .ref D ∧ H' D = some (.dK ys) ∧ Paired (fun y i => y.1 = kk i ∧ R i y.2 H') ys ((List.range n).filter b) ∧ ¬ PreE.bad E D) := fun H1 e Q q =>
  hI H1 e _ fun J H2 e2 jk D hD => by
    have e12 := PreE.trans e e2
    refine ⟨fun i m H' => m = n - i ∧ i ≤ n ∧ E H2 H' ∧ ∃ acc, H' D = some (.dK acc) ∧ Paired (fun y i => y.1 = kk i ∧ R i y.2 H') acc ((List.range i).filter b), ⟨n, by simp, Nat.zero_le _, PreE.new (PreE.rr e2) hD, [], upd_same, .nil⟩, ?_⟩
    rintro i m H' ⟨rfl, hi, e3, acc, ha, hp⟩
    have nbD : ¬ PreE.bad E D := PreE.nb (a := D) (o := .tup []) (A := upd H2 D (.tup [])) (B := upd H2 D (.tup [])) (PreE.rr (PreE.new (PreE.rr e2) hD)) upd_same (fun _ z => nomatch z)
    by_cases hlt : i < n
    · refine .inr ⟨((jk H' e3).2 i hlt).1, fun H'' => i + 1 ≤ n ∧ E H2 H'' ∧ ∃ acc, H'' D = some (.dK acc) ∧ Paired (fun y i => y.1 = kk i ∧ R i y.2 H'') acc ((List.range (i + 1)).filter b), fun H'' w => ⟨n - (i + 1), by omega, rfl, w⟩, fun x H4 y => ?_⟩
      obtain ⟨e4, yx⟩ := ((jk H' e3).2 i hlt).2 x H4 y
      have e24 := PreE.trans e3 e4
      obtain ⟨σ2, tg, hw, hb, hv⟩ := step i x H4 hlt (PreE.trans e12 e24) yx
      refine tg _ ⟨hw, hb H4 (PreE.rr e4) _ fun H5 e5 => ?_⟩
      have e25 := PreE.trans e24 e5
      have ha5 : H5 D = some (.dK acc) := PreE.keep (PreE.trans e4 e5) nbD ha
      have hp5 := pimp (fun (y : Key × V) i (r : y.1 = kk i ∧ R i y.2 H') => (⟨r.1, MonT.mono (PreE.wk (PreE.trans e4 e5)).tup r.2⟩ : y.1 = kk i ∧ R i y.2 H5)) hp
      have hlen : acc.length ≤ i := by
        rw [hp.length]
        exact Nat.le_trans (List.length_filter_le _ _) (by simp)
      cases hbi : b i with
      | false =>
        refine iteF ⟨hlt, e25, acc, ha5, ?_⟩
        rw [filter_snoc, hbi]
        simpa using hp5
      | true =>
        obtain ⟨hk, hv⟩ := hv hbi
        refine iteT (hk H5 e5 _ fun y6 H6 e6 ry => hv H6 (PreE.trans e5 e6) _ fun y H7 e7 rv => ?_)
        have e57 := PreE.trans e6 e7
        have ha7 : H7 D = some (.dK acc) := PreE.keep e57 nbD ha5
        refine ⟨acc, kk i, ry, ha7, Nat.lt_of_le_of_lt (Nat.le_trans hlen (Nat.le_trans hi hn)) (by decide), hlt, PreE.muts (PreE.trans e25 e57) hD, putK acc (kk i) y, upd_same, ?_⟩
        have hnew : valV acc (kk i) = none := valV_none fun p hpm => by
          obtain ⟨j, hj, ej, _⟩ := paired_mem hp5 hpm
          rw [ej]
          intro z
          obtain ⟨hj1, hj2⟩ := List.mem_filter.mp hj
          have hj1 := List.mem_range.mp hj1
          have := dis j i (by omega) hlt hj2 hbi z
          omega
        rw [putK_new y hnew, filter_snoc, hbi]
        have w7 := Wk.putD (o := .dK (acc ++ [(kk i, y)])) ha7
        refine papp (pimp (fun (y : Key × V) i (r : y.1 = kk i ∧ R i y.2 H5) => ⟨r.1, MonT.mono (fun a xs h => w7 _ _ ((PreE.wk e57).tup _ _ h)) r.2⟩) hp5) (.cons ⟨rfl, MonT.mono w7 rv⟩ .nil)
    · have en : i = n := by omega
      subst en
      exact .inl ⟨(jk H' e3).1, q _ H' (PreE.trans e2 e3) ⟨D, acc, rfl, ha, hp, nbD⟩⟩
theorem ev_dcV {wi : TI} {n : Nat} {Y : Nat → V → Hp → Prop} {g : TG} {tt : TT} {own : List Nat} (hI : EvI E wi σ H n Y) (hn : n ≤ 100000) (b : Nat → Bool) (kk : Nat → Key) (vv : Nat → V)
    (step : ∀ i x H', i < n → E H H' → Y i x H' → ∃ σ2, TgOk g x (wipe σ own) H' σ2 ∧ wipe σ2 own = wipe σ own ∧ EvT E tt σ2 H' (b i) ∧ (b i = true → Eva E tk σ2 H' (Is (kV (kk i))) ∧ Eva E tv σ2 H' (Is (vv i)))) :
    Eva E (tDc wi g tt tk tv own) σ H (fun v H' => ∃ D, v = .ref D ∧ H' D = some (.dK (((List.range n).filter b).foldl (fun acc i => putK acc (kk i) (vv i)) [])) ∧ ¬ PreE.bad E D) := fun H1 e Q q =>
  hI H1 e _ fun J H2 e2 jk D hD => by
    have e12 := PreE.trans e e2
    have len : ∀ i, (((List.range i).filter b).foldl (fun acc i => putK acc (kk i) (vv i)) []).length ≤ i := fun i => by
      have aux : ∀ (l : List Nat) (acc : List (Key × V)), (l.foldl (fun acc i => putK acc (kk i) (vv i)) acc).length ≤ acc.length + l.length := by
        intro l
        induction l with
        | nil => intro acc; simp
        | cons a l ih =>
          intro acc
          have h1 := ih (putK acc (kk a) (vv a))
          have h2 := length_putK acc (kk a) (vv a)
          simp only [List.foldl_cons, List.length_cons]
          omega
      refine Nat.le_trans (aux _ _) ?_
      have := List.length_filter_le b (List.range i)
      simpa using this
    refine ⟨fun i m H' => m = n - i ∧ i ≤ n ∧ E H2 H' ∧ H' D = some (.dK (((List.range i).filter b).foldl (fun acc i => putK acc (kk i) (vv i)) [])), ⟨n, by simp, Nat.zero_le _, PreE.new (PreE.rr e2) hD, upd_same⟩, ?_⟩
    rintro i m H' ⟨rfl, hi, e3, ha⟩
    have nbD : ¬ PreE.bad E D := PreE.nb (a := D) (o := .tup []) (A := upd H2 D (.tup [])) (B := upd H2 D (.tup [])) (PreE.rr (PreE.new (PreE.rr e2) hD)) upd_same (fun _ z => nomatch z)
    by_cases hlt : i < n
    · refine .inr ⟨((jk H' e3).2 i hlt).1, fun H'' => i + 1 ≤ n ∧ E H2 H'' ∧ H'' D = some (.dK (((List.range (i + 1)).filter b).foldl (fun acc i => putK acc (kk i) (vv i)) [])), fun H'' w => ⟨n - (i + 1), by omega, rfl, w⟩, fun x H4 y => ?_⟩
      obtain ⟨e4, yx⟩ := ((jk H' e3).2 i hlt).2 x H4 y
      have e24 := PreE.trans e3 e4
      obtain ⟨σ2, tg, hw, hb, hv⟩ := step i x H4 hlt (PreE.trans e12 e24) yx
      refine tg _ ⟨hw, hb H4 (PreE.rr e4) _ fun H5 e5 => ?_⟩
      have e25 := PreE.trans e24 e5
      have ha5 := PreE.keep (PreE.trans e4 e5) nbD ha
      cases hbi : b i with
      | false =>
        refine iteF ⟨hlt, e25, ?_⟩
        rw [filter_snoc, hbi]
        simpa using ha5
      | true =>
        obtain ⟨hk, hv⟩ := hv hbi
        refine iteT (hk H5 e5 _ fun y6 H6 e6 ry => hv H6 (PreE.trans e5 e6) _ fun y H7 e7 rv => ?_)
        have e57 := PreE.trans e6 e7
        cases rv
        refine ⟨_, kk i, ry, PreE.keep e57 nbD ha5, Nat.lt_of_le_of_lt (Nat.le_trans (len i) (Nat.le_trans hi hn)) (by decide), hlt, PreE.muts (PreE.trans e25 e57) hD, ?_⟩
        rw [filter_snoc, hbi, List.foldl_append]
        exact upd_same
    · have en : i = n := by omega
      subst en
      exact .inl ⟨(jk H' e3).1, q _ H' (PreE.trans e2 e3) ⟨D, rfl, ha, nbD⟩⟩
end
end Gm

set_option maxHeartbeats 4000000
namespace Gm
open PySem PySem.Spec PyProof.Rows L2
/-! ### texts in order -/
theorem lt_irr : ∀ a : List Nat, ltCps a a = false
  | [] => rfl
  | a :: r => by simp [ltCps, lt_irr r]
theorem lt_tr : ∀ a b c : List Nat, ltCps a b = true → ltCps b c = true → ltCps a c = true
  | [], [], _, h, _ => by simp [ltCps] at h
  | [], _ :: _, [], _, h => by simp [ltCps] at h
  | [], _ :: _, _ :: _, _, _ => rfl
  | _ :: _, [], _, h, _ => by simp [ltCps] at h
  | _ :: _, _ :: _, [], _, h => by simp [ltCps] at h
  | a :: r, b :: s, c :: t, h1, h2 => by
    simp only [ltCps, Bool.or_eq_true, decide_eq_true_eq, Bool.and_eq_true, beq_iff_eq] at h1 h2 ⊢
    rcases h1 with h1 | ⟨h1, h1'⟩ <;> rcases h2 with h2 | ⟨h2, h2'⟩
    · left; omega
    · left; omega
    · left; omega
    · right; exact ⟨by omega, lt_tr r s t h1' h2'⟩
theorem lt_tot : ∀ a b : List Nat, ltCps a b = false → ltCps b a = false → a = b
  | [], [], _, _ => rfl
  | [], _ :: _, h, _ => by simp [ltCps] at h
  | _ :: _, [], _, h => by simp [ltCps] at h
  | a :: r, b :: s, h1, h2 => by
    simp only [ltCps, Bool.or_eq_false_iff, decide_eq_false_iff_not, Bool.and_eq_false_iff, beq_eq_false_iff_ne] at h1 h2
    have e : a = b := by omega
    subst e
    rw [lt_tot r s (by rcases h1.2 with h | h; exact absurd rfl h; exact h) (by rcases h2.2 with h | h; exact absurd rfl h; exact h)]
/-- not above -/
def leS (a b : Str) : Bool := !ltCps b.cps.toList a.cps.toList
theorem leS_tr (a b c : Str) (h1 : leS a b = true) (h2 : leS b c = true) : leS a c = true := by
  unfold leS at *
  simp only [Bool.not_eq_true'] at *
  cases h : ltCps c.cps.toList a.cps.toList with
  | false => rfl
  | true =>
    by_cases e : ltCps b.cps.toList c.cps.toList = true
    · rw [lt_tr _ _ _ e h] at h1; cases h1
    · have e : ltCps b.cps.toList c.cps.toList = false := by simpa using e
      have := lt_tot _ _ e h2
      rw [this, h] at h1; cases h1
theorem leS_tot (a b : Str) : (leS a b || leS b a) = true := by
  unfold leS
  cases h : ltCps b.cps.toList a.cps.toList with
  | false => simp
  | true =>
    cases h' : ltCps a.cps.toList b.cps.toList with
    | false => simp
    | true =>
      have := lt_tr _ _ _ h h'
      rw [lt_irr] at this; cases this
theorem leS_anti (a b : Str) (h1 : leS a b = true) (h2 : leS b a = true) : a = b := by
  unfold leS at *
  simp only [Bool.not_eq_true'] at *
  have e := lt_tot _ _ h2 h1
  cases a; cases b
  simp only [Str.mk.injEq]
  exact Array.toList_inj.mp e
theorem rising_pw : ∀ (p : Str) (l : List Str), risingS p l = true → (p :: l).Pairwise (fun a b => leS a b = true)
  | p, [], _ => by simp
  | p, x :: r, h => by
    have h : (!ltCps x.cps.toList p.cps.toList && risingS x r) = true := h
    rw [Bool.and_eq_true] at h
    have ih := rising_pw x r h.2
    have hpx : leS p x = true := h.1
    refine List.pairwise_cons.mpr ⟨fun b hb => ?_, ih⟩
    rcases List.mem_cons.mp hb with rfl | hb
    · exact hpx
    · exact leS_tr _ _ _ hpx ((List.pairwise_cons.mp ih).1 b hb)
theorem sorted_pw (l : List Str) (h : sortedS l = true) : l.Pairwise (fun a b => leS a b = true) := by
  cases l with
  | nil => simp
  | cons p r => exact rising_pw p r h
/-- the rising list -/
def srt (l : List Str) : List Str := l.mergeSort leS
theorem srt_perm (l : List Str) : (srt l).Perm l := List.mergeSort_perm l leS
theorem srt_pw (l : List Str) : (srt l).Pairwise (fun a b => leS a b = true) := List.pairwise_mergeSort leS_tr leS_tot l
theorem srt_uniq {ys xs : List Str} (hp : ys.Perm xs) (h : ys.Pairwise (fun a b => leS a b = true)) : ys = srt xs :=
  List.Perm.eq_of_pairwise (fun a b _ _ => leS_anti a b) h (srt_pw xs) (hp.trans (srt_perm xs).symm)
theorem srt_of {ys xs : List Str} (hp : ys.Perm xs) (h : sortedS ys = true) : ys = srt xs := srt_uniq hp (sorted_pw ys h)
theorem srt_congr {xs ys : List Str} (h : xs.Perm ys) : srt xs = srt ys := srt_uniq ((srt_perm xs).trans h) (srt_pw xs)
theorem srt_len (l : List Str) : (srt l).length = l.length := (srt_perm l).length_eq
theorem srt_mem {l : List Str} {x : Str} : x ∈ srt l ↔ x ∈ l := (srt_perm l).mem_iff
theorem srt_nodup {l : List Str} (h : l.Nodup) : (srt l).Nodup := (srt_perm l).nodup_iff.mpr h
theorem srt_filter (l : List Str) (p : Str → Bool) : (srt l).filter p = srt (l.filter p) := srt_uniq ((srt_perm l).filter p) ((srt_pw l).filter p)

/-! ### what is surveyed -/
structure Rdg where
  one : Str
  other : Str
  ac : Int
  up : Int
  wt : Int
/-- the size of a reading one way: 0 across, 1 up -/
def Rdg.sz (r : Rdg) (way : Nat) : Int := if way = 0 then r.ac else r.up
structure Wd where
  mks : List (Str × Option (Int × Int))
  rds : List (Int × Rdg)
namespace Wd
def names (W : Wd) : List Str := W.mks.map (·.1)
/-- the fixed place of a mark -/
def fx (W : Wd) (m : Str) : Option (Int × Int) := (W.mks.find? fun p => decide (p.1 = m)).bind (·.2)
structure Ok (W : Wd) : Prop where
  nd : W.names.Nodup
  len : W.mks.length ≤ 8
  nm : ∀ m ∈ W.names, 1 ≤ m.length ∧ m.length ≤ 6 ∧ (∀ c ∈ m.cps.toList, c ∈ ("abcdefghijklmnopqrstuvwxyz" : Str).cps.toList) ∧ m ≠ "zzzzzz"
  at_ : ∀ m x y, (m, some (x, y)) ∈ W.mks → -20 ≤ x ∧ x ≤ 20 ∧ -20 ≤ y ∧ y ≤ 20
  rlen : W.rds.length ≤ 22
  rnum : (W.rds.map (·.1)).Pairwise (· < ·)
  rd : ∀ n r, (n, r) ∈ W.rds → r.one ∈ W.names ∧ r.other ∈ W.names ∧ r.one ≠ r.other ∧ -12 ≤ r.ac ∧ r.ac ≤ 12 ∧ -12 ≤ r.up ∧ r.up ≤ 12 ∧ 1 ≤ r.wt ∧ r.wt ≤ 9
/-- a mark that hangs together with a fixed one -/
inductive Hang (W : Wd) : Str → Prop
  | fix {m : Str} {p : Int × Int} : (m, some p) ∈ W.mks → Hang W m
  | fwd {n : Int} {r : Rdg} : (n, r) ∈ W.rds → Hang W r.one → Hang W r.other
  | bwd {n : Int} {r : Rdg} : (n, r) ∈ W.rds → Hang W r.other → Hang W r.one
noncomputable def hg (W : Wd) (m : Str) : Bool := @decide (W.Hang m) (Classical.propDecidable _)
theorem hg_iff {W : Wd} {m : Str} : W.hg m = true ↔ W.Hang m := by
  unfold hg
  exact @decide_eq_true_iff _ (Classical.propDecidable _)
/-- the marks that hang, rising; the free ones of them -/
noncomputable def hung (W : Wd) : List Str := srt (W.names.filter W.hg)
noncomputable def free (W : Wd) : List Str := W.hung.filter fun m => (W.fx m).isNone
end Wd
end Gm

set_option maxHeartbeats 4000000
namespace Gm
open PySem PySem.Spec PyProof.Rows L2
/-! ### the data as it stands -/
def AtV (K : PySem.W.Frag) : Option (Int × Int) → V → Hp → Prop
  | none => Is .non
  | some p => TupV K [.int p.1, .int p.2]
instance {K : PySem.W.Frag} {o : Option (Int × Int)} : MonT (AtV K o) := match o with
  | none => inferInstanceAs (MonT (Is _))
  | some _ => inferInstanceAs (MonT (TupV K _))
def RdV (K : PySem.W.Frag) (r : Rdg) : V → Hp → Prop := TupV K [.str r.one, .str r.other, .int r.ac, .int r.up, .int r.wt]
instance {K : PySem.W.Frag} {r : Rdg} : MonT (RdV K r) := inferInstanceAs (MonT (TupV K _))
/-- a spot -/
def SpV (K : PySem.W.Frag) (s : Rat × Rat) : V → Hp → Prop := fun v H => ∃ u w, TupV K [u, w] v H ∧ Rt K s.1 u H ∧ Rt K s.2 w H
instance {K : PySem.W.Frag} {s : Rat × Rat} : MonT (SpV K s) := ⟨fun w ⟨a, b, h1, h2, h3⟩ => ⟨a, b, MonT.mono w h1, MonT.mono w h2, MonT.mono w h3⟩⟩
/-- a dict's pairs stand for xs -/
def Dc {κ α : Type} (key : κ → Key) (R : α → V → Hp → Prop) (xs : List (κ × α)) (kvs : List (Key × V)) (H : Hp) : Prop := Paired (fun kv x => kv.1 = key x.1 ∧ R x.2 kv.2 H) kvs xs
theorem Dc.mono {κ α : Type} {key : κ → Key} {R : α → V → Hp → Prop} [∀ a, MonT (R a)] {xs : List (κ × α)} {kvs : List (Key × V)} {A B : Hp} (h : Dc key R xs kvs A) (w : ∀ a xs, Rd A a (.tup xs) → Rd B a (.tup xs)) : Dc key R xs kvs B :=
  pimp (fun _ _ r => ⟨r.1, MonT.mono w r.2⟩) h
theorem Dc.keys {κ α : Type} {key : κ → Key} {R : α → V → Hp → Prop} : ∀ {xs : List (κ × α)} {kvs : List (Key × V)} {H : Hp}, Dc key R xs kvs H → kvs.map (·.1) = xs.map fun x => key x.1
  | _, _, _, .nil => rfl
  | _, _, _, .cons r t => by rw [List.map_cons, List.map_cons, r.1, Dc.keys t]
/-- looked up -/
theorem Dc.val {κ α : Type} [DecidableEq κ] {key : κ → Key} (inj : ∀ a b, key a = key b → a = b) {R : α → V → Hp → Prop} : ∀ {xs : List (κ × α)} {kvs : List (Key × V)} {H : Hp}, Dc key R xs kvs H → ∀ k : κ,
    (match xs.find? fun x => decide (x.1 = k) with
      | none => valV kvs (key k) = none
      | some x => ∃ v, valV kvs (key k) = some v ∧ R x.2 v H)
  | _, _, _, .nil, k => rfl
  | x :: xs, kv :: kvs, H, .cons r t, k => by
    by_cases e : x.1 = k
    · rw [List.find?_cons_of_pos (by simpa using e)]
      exact ⟨kv.2, valV_pos (by rw [r.1, e]), r.2⟩
    · rw [List.find?_cons_of_neg (by simpa using e), valV_neg (fun z => e (inj _ _ (r.1.symm.trans z)))]
      exact Dc.val inj t k
theorem inr_inj : ∀ a b : Str, (Sum.inr a : Key) = Sum.inr b → a = b := fun _ _ h => Sum.inr.inj h
theorem inl_inj : ∀ a b : Int, (Sum.inl a : Key) = Sum.inl b → a = b := fun _ _ h => Sum.inl.inj h
/-- a dict to be read, a dict of one's own -/
def DcV {κ α : Type} (key : κ → Key) (R : α → V → Hp → Prop) (xs : List (κ × α)) : V → Hp → Prop := fun v H => ∃ d kvs, v = .ref d ∧ Rd H d (.dK kvs) ∧ Dc key R xs kvs H
def DcX {κ α : Type} (key : κ → Key) (R : α → V → Hp → Prop) (xs : List (κ × α)) : V → Hp → Prop := fun v H => ∃ d kvs, v = .ref d ∧ H d = some (.dK kvs) ∧ Dc key R xs kvs H
instance {κ α : Type} {key : κ → Key} {R : α → V → Hp → Prop} [∀ a, MonT (R a)] {xs : List (κ × α)} : MonW (DcV key R xs) := ⟨fun w ⟨d, kvs, e, h, p⟩ => ⟨d, kvs, e, w.dic _ _ h, p.mono w.tup⟩⟩
instance {κ α : Type} {key : κ → Key} {R : α → V → Hp → Prop} [∀ a, MonT (R a)] {xs : List (κ × α)} {E : Hp → Hp → Prop} [PreE E] : MonE E (DcX key R xs) := ⟨fun w ⟨d, kvs, e, h, p⟩ => ⟨d, kvs, e, PreE.one w (fun _ z => nomatch z) h, p.mono (PreE.wk w).tup⟩⟩
instance {κ α : Type} {key : κ → Key} {R : α → V → Hp → Prop} [∀ a, MonT (R a)] {xs : List (κ × α)} : MonL (DcX key R xs) := ⟨fun w ⟨d, kvs, e, h, p⟩ => ⟨d, kvs, e, w.dic _ _ h, p.mono w.wk.tup⟩⟩
/-- a dict of just these pairs -/
def DcIs (kvs : List (Key × V)) : V → Hp → Prop := fun v H => ∃ d, v = .ref d ∧ H d = some (.dK kvs)
instance {kvs : List (Key × V)} : MonL (DcIs kvs) := ⟨fun w ⟨d, e, h⟩ => ⟨d, e, w.dic _ _ h⟩⟩
abbrev kS : Str → Key := Sum.inr
abbrev kI : Int → Key := Sum.inl
/-- a survey stands at a -/
def flds (dP dB dH dG : Addr) : List (Str × V) := [("points", .ref dP), ("book", .ref dB), ("heads", .ref dH), ("ground", .ref dG)]
structure SurA (K : PySem.W.Frag) (C : Addr) (W : Wd) (H : Hp) (a dP dB dH dG : Addr) (kP kB kH kG : List (Key × V)) : Prop where
  ob : ∃ dx, H a = some (.ins C dx (flds dP dB dH dG))
  p : Rd H dP (.dK kP)
  p' : Dc kS (AtV K) W.mks kP H
  b : Rd H dB (.dK kB)
  b' : Dc kI (RdV K) W.rds kB H
  h : Rd H dH (.dK kH)
  g : Rd H dG (.dK kG)
  hg : ∀ m ∈ W.names, ∃ x, valV kH (kS m) = some (.str x) ∧ ((valV kG (kS x)).isSome = W.hg m)
def SurV (K : PySem.W.Frag) (C : Addr) (W : Wd) : V → Hp → Prop := fun v H => ∃ a dP dB dH dG kP kB kH kG, v = .ref a ∧ SurA K C W H a dP dB dH dG kP kB kH kG
instance {K : PySem.W.Frag} {C : Addr} {W : Wd} : MonW (SurV K C W) := ⟨fun w ⟨a, dP, dB, dH, dG, kP, kB, kH, kG, e, s⟩ =>
  ⟨a, dP, dB, dH, dG, kP, kB, kH, kG, e, s.ob.elim fun dx h => ⟨dx, w.ins _ _ _ _ h⟩, w.dic _ _ s.p, s.p'.mono w.tup, w.dic _ _ s.b, s.b'.mono w.tup, w.dic _ _ s.h, w.dic _ _ s.g, s.hg⟩⟩
theorem mk_keys {W : Wd} {K : PySem.W.Frag} {kP : List (Key × V)} {H : Hp} (h : Dc kS (AtV K) W.mks kP H) : kP.map (·.1) = W.names.map Sum.inr := by
  rw [h.keys]; unfold Wd.names; rw [List.map_map]; rfl
/-- the class as the top has left it -/
structure SurM (K : PySem.W.Frag) (mg : Str → Option Value) (C fI fM fR fN fH : Addr) : Prop where
  cl : Cls K C
  n_points : NoAttr K C "points"
  n_book : NoAttr K C "book"
  n_heads : NoAttr K C "heads"
  n_ground : NoAttr K C "ground"
  mkk : Mk K C fI
  mg : mg "Survey" = some (.ref C)
  marks : Meth K C "marks" fM
  readings : Meth K C "readings" fR
  names : Meth K C "names" fN
  hangs : Meth K C "hangs" fH
/-- a method that keeps a promise -/
structure MFn (P : Program) (w : World) (K : PySem.W.Frag) (mg : Str → Option Value) (base : Heap) (k : Nat) (f : Addr) (fd : FuncData) (ps : List Str) (sp : Sp) : Prop where
  F : FnOk P w K mg base CX0 k f fd ps sp
  b : Binds K fd ps []
section
variable {E : Hp → Hp → Prop} [PreE E] {K : PySem.W.Frag} {σ : L2.St} {H H' : Hp} {te : TE}
theorem ev_dictD {a : Addr} {kvs : List (Key × V)} (h : Eva Same te σ H (Is (.ref a))) (hd : Rd H a (.dK kvs)) :
    EvaN (tCB (fun xs H Q => ∃ (a : Addr) (kvs : List (Key × V)), xs = [.ref a] ∧ Rd H a (.dK kvs) ∧ ∀ p, H p = none → Q (.ref p) (upd H p (.dK kvs))) (tCons te tNil)) σ H (DcIs kvs) := fun H1 e Q q =>
  h H1 e _ fun v H2 e2 rv => ⟨a, kvs, by rw [show v = _ from rv], (e.trans e2).wk.dic _ _ hd, fun p hp => q _ _ (e2.trans (Same.new hp)) (e2.free hp) ⟨p, rfl, upd_same⟩⟩
theorem ev_sortedD {a : Addr} {kvs : List (Key × V)} {ks : List Str} (h : Eva E te σ H (Is (.ref a))) (hd : Rd H a (.dK kvs)) (hk : kvs.map (·.1) = ks.map Sum.inr) (hl : ks.length < 64) :
    Eva E (tCB (fun xs H Q => ∃ (a : Addr) (kvs : List (Key × V)) (ks : List Str), xs = [.ref a] ∧ Rd H a (.dK kvs) ∧ kvs.map (·.1) = ks.map Sum.inr ∧ ks.length < 64 ∧ ∀ ys p, ys.Perm ks → sortedS ys = true → H p = none → Q (.ref p) (upd H p (.lst (ys.map V.str)))) (tCons te tNil)) σ H
      (fun v H1 => ∃ d, v = .ref d ∧ H1 d = some (.lst ((srt ks).map V.str)) ∧ ¬ PreE.bad E d) := fun H1 e Q q =>
  h H1 e _ fun v H2 e2 rv => ⟨a, kvs, ks, by rw [show v = _ from rv], (PreE.wk (PreE.trans e e2)).dic _ _ hd, hk, hl, fun ys p hp hs hn => by
    rw [srt_of hp hs]
    exact q _ _ (PreE.trans e2 (PreE.new (PreE.rr e2) hn)) ⟨p, rfl, upd_same, PreE.nb (a := p) (o := .tup []) (A := upd H2 p (.tup [])) (B := upd H2 p (.tup [])) (PreE.rr (PreE.new (PreE.rr e2) hn)) upd_same (fun _ z => nomatch z)⟩⟩
end
section
variable {P : Program} {w : World} {K : PySem.W.Frag} {mg : Str → Option Value} {base : Heap} {aN : Addr} {uM uW uL : Value} {C fI fM fR fN fH : Addr} {fd : FuncData}
def spMarks (K : PySem.W.Frag) (C : Addr) : Sp := SpN (α := Wd) (fun W vs H => ∃ v, vs = [v] ∧ SurV K C W v H) (fun W => DcX kS (AtV K) W.mks)
def spReadings (K : PySem.W.Frag) (C : Addr) : Sp := SpN (α := Wd) (fun W vs H => ∃ v, vs = [v] ∧ SurV K C W v H) (fun W => DcX kI (RdV K) W.rds)
def spNames (K : PySem.W.Frag) (C : Addr) : Sp := SpG (α := Wd) (fun W vs H => (∃ v, vs = [v] ∧ SurV K C W v H) ∧ W.Ok) (fun W v H => ∃ d, v = .ref d ∧ H d = some (.lst ((srt W.names).map V.str)))
def spHangs (K : PySem.W.Frag) (C : Addr) : Sp := SpG (α := Wd × Str) (fun x vs H => (∃ v, vs = [v, .str x.2] ∧ SurV K C x.1 v H) ∧ x.2 ∈ x.1.names) (fun x v _ => v = .bl (x.1.hg x.2))
theorem Fun.mfn {x qual : Str} {st : Stmt} {f : Addr} {N ps : List Str} {sp : Sp} (k : Nat) (D : Fun K x qual st f fd) (S : FnScope N ps (defScope st))
    (hb : ∀ (kV doc pm : Value) (an : Option Addr) (cdv ct : Value) (us : List Value), us.length = ps.length → bindArgs (PySem.W.fnOf x qual (defArgs st) (defBody st) (defScope st) .none kV doc pm an cdv ct) ⟨us, []⟩ = pure (ps.zip us))
    (len : ∀ vs H Q E, sp vs H Q E → vs.length = ps.length)
    (hbody : ∀ (f : Addr) (cdv : Value) (A : Around) (outer : List Env) (s : Shared) (H : Hp) (vs : List V) (Q : VK) (E : XK), Room k (A.deeper (envOfC qual (defScope st) s.heap.objs.size f cdv)) → sp vs H Q E →
      ∃ t, PSs (cxOf CX0 P w K mg base N qual (defScope st) f cdv A outer s H E).nox (defBody st) t ∧ t { nx := fun _ H' => Q .non H', rt := Q } (start N vs) H) : MFn P w K mg base (k + 1) f fd ps sp :=
  ⟨D.ok S len fun cdv A outer s H vs Q E hr h => hbody f cdv A outer s H vs Q E hr h, D.binds hb⟩
theorem ok_marks (D : Fun K "marks" "Survey.marks" s_Survey_marks fM fd) (U : Uni K mg aN uM uW uL) (M : SurM K mg C fI fM fR fN fH) : MFn P w K mg base 1 fM fd ["self"] (spMarks K C) := by
  refine Fun.mfn 0 D sc_Survey_marks (fun _ _ _ _ _ _ us hl => match us, hl with | [_], _ => rfl) (fun vs H Q E h => ?_) (fun f cdv A outer s H vs Q E hr h => ?_)
  · obtain ⟨x, ⟨_, rfl, _⟩, _⟩ := h; rfl
  obtain ⟨W, ⟨v, rfl, a, dP, dB, dH, dG, kP, kB, kH, kG, rfl, s⟩, k⟩ := h
  obtain ⟨dx, ho⟩ := s.ob
  refine ⟨_, (pss_one (ps_ret (pe_callTy call_dictD (by rfl) U.dict (by decide +kernel) (pa_cons (pe_fld (pv 0) rfl) pa_nil)))), ?_⟩
  refine st_retN (ev_dictD (ev_fld (ev_var rfl) ho M.cl M.n_points rfl) s.p) fun d' H1 e n ⟨d, ed, hd⟩ => k d' H1 e n ⟨d, kP, ed, hd, s.p'.mono e.wk.tup⟩
theorem ok_readings (D : Fun K "readings" "Survey.readings" s_Survey_readings fR fd) (U : Uni K mg aN uM uW uL) (M : SurM K mg C fI fM fR fN fH) : MFn P w K mg base 1 fR fd ["self"] (spReadings K C) := by
  refine Fun.mfn 0 D sc_Survey_readings (fun _ _ _ _ _ _ us hl => match us, hl with | [_], _ => rfl) (fun vs H Q E h => ?_) (fun f cdv A outer s H vs Q E hr h => ?_)
  · obtain ⟨x, ⟨_, rfl, _⟩, _⟩ := h; rfl
  obtain ⟨W, ⟨v, rfl, a, dP, dB, dH, dG, kP, kB, kH, kG, rfl, s⟩, k⟩ := h
  obtain ⟨dx, ho⟩ := s.ob
  refine ⟨_, (pss_one (ps_ret (pe_callTy call_dictD (by rfl) U.dict (by decide +kernel) (pa_cons (pe_fld (pv 0) rfl) pa_nil)))), ?_⟩
  refine st_retN (ev_dictD (ev_fld (ev_var rfl) ho M.cl M.n_book rfl) s.b) fun d' H1 e n ⟨d, ed, hd⟩ => k d' H1 e n ⟨d, kB, ed, hd, s.b'.mono e.wk.tup⟩
theorem ok_names (D : Fun K "names" "Survey.names" s_Survey_names fN fd) (U : Uni K mg aN uM uW uL) (M : SurM K mg C fI fM fR fN fH) : MFn P w K mg base 1 fN fd ["self"] (spNames K C) := by
  refine Fun.mfn 0 D sc_Survey_names (fun _ _ _ _ _ _ us hl => match us, hl with | [_], _ => rfl) (fun vs H Q E h => ?_) (fun f cdv A outer s H vs Q E hr h => ?_)
  · obtain ⟨x, ⟨⟨_, rfl, _⟩, _⟩, _⟩ := h; rfl
  obtain ⟨W, ⟨⟨v, rfl, a, dP, dB, dH, dG, kP, kB, kH, kG, rfl, s⟩, ok⟩, k⟩ := h
  obtain ⟨dx, ho⟩ := s.ob
  refine ⟨_, (pss_one (ps_ret (pe_callB (call_sortedD rfl) (by rfl) U.sorted (by decide +kernel) (pa_cons (pe_fld (pv 0) rfl) pa_nil)))), ?_⟩
  refine st_ret (E := Same) (ev_sortedD (ev_fld (ev_var rfl) ho M.cl M.n_points rfl) s.p (mk_keys s.p') (by have := ok.len; unfold Wd.names; rw [List.length_map]; omega)) (Same.refl _) fun v H1 e ⟨d, ed, hd, _⟩ => k v H1 e ⟨d, ed, hd⟩
theorem find_mem {κ α : Type} [DecidableEq κ] {xs : List (κ × α)} {k : κ} (h : k ∈ xs.map (·.1)) : ∃ x, xs.find? (fun x => decide (x.1 = k)) = some x ∧ x.1 = k ∧ x ∈ xs := by
  obtain ⟨x, hx, e⟩ := List.mem_map.mp h
  cases q : xs.find? (fun x => decide (x.1 = k)) with
  | none => exact absurd (List.find?_eq_none.mp q x hx) (by simpa using e)
  | some y => exact ⟨y, rfl, by simpa using List.find?_some q, List.mem_of_find?_eq_some q⟩
theorem Dc.has {κ α : Type} [DecidableEq κ] {key : κ → Key} (inj : ∀ a b, key a = key b → a = b) {R : α → V → Hp → Prop} {xs : List (κ × α)} {kvs : List (Key × V)} {H : Hp} (h : Dc key R xs kvs H) {k : κ} (hk : k ∈ xs.map (·.1)) :
    ∃ x v, x ∈ xs ∧ x.1 = k ∧ valV kvs (key k) = some v ∧ R x.2 v H ∧ xs.find? (fun x => decide (x.1 = k)) = some x := by
  obtain ⟨x, q, e, hx⟩ := find_mem hk
  have := h.val inj k
  rw [q] at this
  obtain ⟨v, h1, h2⟩ := this
  exact ⟨x, v, hx, e, h1, h2, q⟩
theorem ok_hangs (D : Fun K "hangs" "Survey.hangs" s_Survey_hangs fH fd) (M : SurM K mg C fI fM fR fN fH) : MFn P w K mg base 1 fH fd ["self", "name"] (spHangs K C) := by
  refine Fun.mfn 0 D sc_Survey_hangs (fun _ _ _ _ _ _ us hl => match us, hl with | [_, _], _ => rfl) (fun vs H Q E h => ?_) (fun f cdv A outer s H vs Q E hr h => ?_)
  · obtain ⟨x, ⟨⟨_, rfl, _⟩, _⟩, _⟩ := h; rfl
  obtain ⟨⟨W, m⟩, ⟨⟨v, rfl, a, dP, dB, dH, dG, kP, kB, kH, kG, rfl, s⟩, hm⟩, k⟩ := h
  have hm : m ∈ W.names := hm
  obtain ⟨dx, ho⟩ := s.ob
  obtain ⟨x, hx, hb⟩ := s.hg m hm
  obtain ⟨z, vz, _, _, hvz, _, _⟩ := s.p'.has inr_inj hm
  have hvz : valV kP (kS m) = some vz := hvz
  have nb : ¬ PreE.bad Same dP := fun z => z
  refine ⟨_, (pss_cons (ps_if (pt_cmp (pc_dnotin (hu_of hr) (pv 1) (pe_fld (pv 0) rfl))) (pss_one ps_never) pss_nil)
      (pss_one (ps_ret (pe_cmp (pc_din (hu_of hr) (pe_dget (hu_of hr) (pe_fld (pv 0) rfl) (pv 1) (fun _ _ => rfl)) (pe_fld (pv 0) rfl)))))), ?_⟩
  refine st_seq (st_if (E := Same) (b := false) (et_B (Eva.is (ev_dnotin (k := kS m) (ev_var rfl) (ev_fld (ev_var rfl) ho M.cl M.n_points rfl) s.p) (by rw [hvz]; rfl))) (Same.refl _) (fun z => nomatch z) (fun _ H1 e1 => ?_))
  refine st_nx ?_
  dsimp only
  refine st_ret (E := Same) (Eva.at e1 (ev_din (k := kS x) (ev_dget (k := kS m) (ev_fld (ev_var rfl) ho M.cl M.n_heads rfl) s.h (ev_var rfl) hx) (ev_fld (ev_var rfl) ho M.cl M.n_ground rfl) s.g)) (Same.refl _) fun v H2 e2 r => k v H2 (e1.trans e2) ?_
  rw [hb] at r
  exact r
end
end Gm

set_option maxHeartbeats 4000000
namespace Gm
open PySem PySem.Spec PyProof.Rows L2
section
variable {E : Hp → Hp → Prop} [PreE E] {K : PySem.W.Frag} {σ : L2.St} {H H' : Hp} {ta tb tc te : TE} {t u : TT} {x y z v : V} {R S : V → Hp → Prop} {RA : List V → Hp → Prop}
/-! ### isinstance, chains -/
theorem tyT {a : Addr} {xs : List V} (h : SqT K H a xs) : TyX K H (.ref a) (.type "tuple") := by
  rcases h with (h | ⟨o, h⟩) | ⟨o, _, _, h1, h2, _⟩
  · exact .base (.tup h)
  · exact .fTuple h
  · exact .kTuple h1 h2
theorem ev_isi {a c : String} {b : Bool} (h : Eva E ta σ H R) (ht : ∀ v H1, R v H1 → TyX K H1 v (.type a)) (hk : kitB a c = some b) : Eva E (tCB (rIsi K) (tCons ta (tCons (tC (.ty c)) tNil))) σ H (Is (.bl b)) := fun H1 e Q q =>
  h H1 e _ fun v H2 e2 r => ⟨v, .ty c, _, _, b, rfl, .ty c, ht v H2 r, kit_ty hk, q _ H2 e2 rfl⟩
theorem et_chain {g g' : Int → Int → V} {i j k : Int} {b b' : Bool} (ha : Eva E ta σ H (Is (.int i))) (hb : Eva E tb σ H (Is (.int j))) (hc : Eva E tc σ H (Is (.int k))) (h1 : g i j = .bl b) (h2 : g' j k = .bl b') :
    EvT E (tTest (tChain (rI0 g) (rI0 g') ta tb tc)) σ H (b && b') := fun H1 e Q q =>
  ha H1 e _ fun x H2 e2 rx => hb H2 (PreE.trans e e2) _ fun y H3 e3 ry => by
    cases rx; cases ry
    have e13 := PreE.trans (PreE.trans e e2) e3
    refine ⟨i, j, rfl, rfl, b, h1, ?_⟩
    cases b with
    | true =>
      refine iteT (hc H3 e13 _ fun w H4 e4 rw' => ?_)
      cases rw'
      exact ⟨j, k, rfl, rfl, b', h2, q H4 (PreE.trans (PreE.trans e2 e3) e4)⟩
    | false => exact iteF ⟨false, rfl, q H3 (PreE.trans e2 e3)⟩
end
section
variable {P : Program} {w : World} {K : PySem.W.Frag} {mg : Str → Option Value} {base : Heap} {aN : Addr} {uM uW uL : Value} {C fI fM fR fN fH : Addr} {fd : FuncData}
/-! ### the refusals that do not come -/
def spIsNum : Sp := SpG (α := Int) (fun n vs _ => vs = [.int n]) (fun _ v _ => v = .bl true)
theorem ev_isnum {σ : L2.St} {H : Hp} {te : TE} {X : XK} {n : Int} (h : Eva Same te σ H (Is (.int n))) : Eva Same (tCall spIsNum [] X (tCons te tNil)) σ H (Is (.bl true)) := by
  refine ev_G (α := Int) n (ea_cons h ea_nil) ?_
  rintro vs H' _ ⟨v, r, rfl, hv, rfl⟩
  rw [show v = _ from hv]
theorem ok_is_number (D : DefAt K mg "is_number" s_is_number) (U : Uni K mg aN uM uW uL) : Cal P w K mg base 1 "is_number" ["thing"] spIsNum := by
  refine D.cal 0 sc_is_number (fun _ _ _ _ _ _ us hl => match us, hl with | [_], _ => rfl) (fun vs H Q E h => ?_) (fun f cdv A outer s H vs Q E hr h => ?_)
  · obtain ⟨x, rfl, _⟩ := h; rfl
  obtain ⟨n, rfl, k⟩ := h
  refine ⟨_, (pss_one (ps_ret (pe_and (pe_callB call_isi (by rfl) U.isinstance (by decide +kernel) (pa_cons (pv 0) (pa_cons (pe_bltn (by rfl) U.int (by decide +kernel) (show RelV (.ty "int") _ from rfl)) pa_nil))) (pe_one (pe_not (pe_callB call_isi (by rfl) U.isinstance (by decide +kernel) (pa_cons (pv 0) (pa_cons (pe_bltn (by rfl) U.bool (by decide +kernel) (show RelV (.ty "bool") _ from rfl)) pa_nil)))))))), ?_⟩
  have h1 : ∀ v H1, Is (.int n) v H1 → TyX K H1 v (.type "int") := fun v H1 r => by rw [show v = _ from r]; exact .base (.int n)
  exact st_ret (E := Same) (ev_andV (ev_isi (a := "int") (b := true) (ev_var rfl) h1 (by decide +kernel)) fun _ => ev_notV (ev_isi (a := "int") (b := false) (ev_var rfl) h1 (by decide +kernel))) (Same.refl _) fun v H1 e r => k v H1 e r
theorem ok_l_num (D : DefAt K mg "_law_num" s_l_num) (U : Uni K mg aN uM uW uL) : Cal P w K mg base 1 "_law_num" ["_law_value"] spIsNum := by
  refine D.cal 0 sc_l_num (fun _ _ _ _ _ _ us hl => match us, hl with | [_], _ => rfl) (fun vs H Q E h => ?_) (fun f cdv A outer s H vs Q E hr h => ?_)
  · obtain ⟨x, rfl, _⟩ := h; rfl
  obtain ⟨n, rfl, k⟩ := h
  refine ⟨_, (pss_one (ps_ret (pe_and (pe_callB call_isi (by rfl) U.isinstance (by decide +kernel) (pa_cons (pv 0) (pa_cons (pe_bltn (by rfl) U.int (by decide +kernel) (show RelV (.ty "int") _ from rfl)) pa_nil))) (pe_one (pe_not (pe_callB call_isi (by rfl) U.isinstance (by decide +kernel) (pa_cons (pv 0) (pa_cons (pe_bltn (by rfl) U.bool (by decide +kernel) (show RelV (.ty "bool") _ from rfl)) pa_nil)))))))), ?_⟩
  have h1 : ∀ v H1, Is (.int n) v H1 → TyX K H1 v (.type "int") := fun v H1 r => by rw [show v = _ from r]; exact .base (.int n)
  exact st_ret (E := Same) (ev_andV (ev_isi (a := "int") (b := true) (ev_var rfl) h1 (by decide +kernel)) fun _ => ev_notV (ev_isi (a := "int") (b := false) (ev_var rfl) h1 (by decide +kernel))) (Same.refl _) fun v H1 e r => k v H1 e r
def spNeedNum : Sp := SpG (α := Int × Int × Int) (fun x vs _ => vs = [.int x.1, .int x.2.1, .int x.2.2] ∧ x.2.1 ≤ x.1 ∧ x.1 ≤ x.2.2) (fun _ v _ => v = .non)
theorem ev_neednum {σ : L2.St} {H : Hp} {ta tb tc : TE} {X : XK} {n lo hi : Int} (h : Eva Same ta σ H (Is (.int n))) (h2 : Eva Same tb σ H (Is (.int lo))) (h3 : Eva Same tc σ H (Is (.int hi))) (hl : lo ≤ n) (hh : n ≤ hi) : Eva Same (tCall spNeedNum [] X (tCons ta (tCons tb (tCons tc tNil)))) σ H (Is .non) := by
  refine ev_G (α := Int × Int × Int) (n, lo, hi) (ea_cons h (ea_cons h2 (ea_cons h3 ea_nil))) ?_
  rintro vs H' _ ⟨v, r, rfl, hv, v', r', rfl, hv', v2, r2, rfl, hv2, rfl⟩
  exact ⟨by rw [show v = _ from hv, show v' = _ from hv', show v2 = _ from hv2], hl, hh⟩
theorem ok_need_number (D : DefAt K mg "need_number" s_need_number) (c_is_number : Cal P w K mg base 1 "is_number" ["thing"] spIsNum) : Cal P w K mg base 2 "need_number" ["number", "low", "high"] spNeedNum := by
  refine D.cal 1 sc_need_number (fun _ _ _ _ _ _ us hl => match us, hl with | [_, _, _], _ => rfl) (fun vs H Q E h => ?_) (fun f cdv A outer s H vs Q E hr h => ?_)
  · obtain ⟨x, ⟨rfl, _⟩, _⟩ := h; rfl
  obtain ⟨⟨n, lo, hi⟩, ⟨rfl, h1, h2⟩, k⟩ := h
  have h1 : lo ≤ n := h1
  have h2 : n ≤ hi := h2
  refine ⟨_, (pss_one (ps_if (PW.pt (pw_or (pt_not (pt_val (c_is_number.call (hr.mono (by decide)) (by rfl) (pa_cons (pv 0) pa_nil)))) (pw_or1 (pt_not (pt_chain op_le op_le (pv 1) (pv 0) (pv 2)))))) (pss_one ps_never) pss_nil)), ?_⟩
  refine st_if (E := Same) (b := false) (EvT.is (et_or (et_not (et_B (ev_isnum (ev_var rfl)))) fun _ => et_not (et_chain (b := decide (lo ≤ n)) (b' := decide (n ≤ hi)) (ev_var rfl) (ev_var rfl) (ev_var rfl) rfl rfl)) ?_) (Same.refl _) (fun z => nomatch z) (fun _ H1 e1 => ?_)
  · rw [decide_eq_true h1, decide_eq_true h2]; rfl
  · refine st_nx ?_
    exact k _ _ e1 rfl
def spNeedName : Sp := SpG (α := Str) (fun m vs _ => vs = [.str m] ∧ 1 ≤ m.length ∧ m.length ≤ 6 ∧ (∀ c ∈ m.cps.toList, c ∈ ("abcdefghijklmnopqrstuvwxyz" : Str).cps.toList)) (fun _ v _ => v = .non)
theorem ev_lenS {E : Hp → Hp → Prop} [PreE E] {σ : L2.St} {H : Hp} {te : TE} {m : Str} (h : Eva E te σ H (Is (.str m))) (hl : m.length ≤ sizeLine) :
    Eva E (tCB (fun xs H Q => ∃ z : Str, xs = [.str z] ∧ z.length ≤ sizeLine ∧ Q (.int z.length) H) (tCons te tNil)) σ H (Is (.int m.length)) := fun H1 e Q q =>
  h H1 e _ fun v H2 e2 r => ⟨m, by rw [show v = _ from r], hl, q _ H2 e2 rfl⟩
theorem ok_need_name (D : DefAt K mg "need_name" s_need_name) (U : Uni K mg aN uM uW uL) : Cal P w K mg base 1 "need_name" ["name"] spNeedName := by
  refine D.cal 0 sc_need_name (fun _ _ _ _ _ _ us hl => match us, hl with | [_], _ => rfl) (fun vs H Q E h => ?_) (fun f cdv A outer s H vs Q E hr h => ?_)
  · obtain ⟨x, ⟨rfl, _⟩, _⟩ := h; rfl
  obtain ⟨m, ⟨rfl, h1, h2, h3⟩, k⟩ := h
  refine ⟨_, (pss_cons (ps_if (pt_not (pt_chain op_le op_le pe_int (pe_callB call_len_str (by rfl) U.len PySem.boot_len (pa_cons (pv 0) pa_nil)) pe_int)) (pss_one ps_never) pss_nil)
      (pss_one (ps_for PassesOwn.never rfl (pi_str (pv 0)) (pg_name (i := 1) sc_need_name.nd rfl (Or.inl rfl)) (pss_one (ps_if (pt_cmpR op_notIn_sign (pv 1) (pe_glob (by rfl) U.gLETTERS U.rLETTERS) (by rfl)) (pss_one ps_never) pss_nil))))), ?_⟩
  refine st_seq (st_if (E := Same) (b := false) (EvT.is (et_not (et_chain (b := decide ((1 : Int) ≤ m.length)) (b' := decide ((m.length : Int) ≤ 6)) ev_c (ev_lenS (ev_var rfl) (Nat.le_trans h2 (by decide))) ev_c rfl rfl)) ?_) (Same.refl _) (fun z => nomatch z) (fun _ H1 e1 => ?_))
  · rw [decide_eq_true (by omega), decide_eq_true (by omega)]; rfl
  refine st_nx ?_
  refine ⟨_, rfl, m, rfl, for_it walk_str (fun i σ H2 => (∃ o, σ = [some (.str m), o]) ∧ Same H H2) ⟨⟨none, rfl⟩, e1⟩ (fun _ _ _ _ _ => trivial) ?_ ?_⟩
  · rintro i x σ H2 H3 hi ⟨⟨o, rfl⟩, e2⟩ ⟨rfl, c, hc, rfl⟩
    refine st_if (E := Same) (b := false) (et_test fun H4 e4 Q q => ?_) (Same.refl _) (fun z => nomatch z) (fun _ H4 e4 => ?_)
    · refine ⟨_, rfl, c, _, rfl, rfl, q _ H4 (Same.refl _) ?_⟩
      have : c ∈ m.cps.toList := by
        have := Array.mem_of_getElem? hc
        exact Array.mem_toList_iff.mpr this
      show V.bl _ = V.bl _
      rw [decide_eq_true (h3 c this)]; rfl
    · exact ⟨⟨_, rfl⟩, e2.trans e4⟩
  · rintro σ H2 ⟨_, e2⟩
    exact k _ _ e2 rfl
def spNeedAt (K : PySem.W.Frag) : Sp := SpG (α := Option (Int × Int)) (fun o vs H => (∃ v, vs = [v] ∧ AtV K o v H) ∧ ∀ x y, o = some (x, y) → -999 ≤ x ∧ x ≤ 999 ∧ -999 ≤ y ∧ y ≤ 999) (fun _ v _ => v = .non)
theorem ok_need_at (D : DefAt K mg "need_at" s_need_at) (U : Uni K mg aN uM uW uL) (c_need_number : Cal P w K mg base 2 "need_number" ["number", "low", "high"] spNeedNum) : Cal P w K mg base 3 "need_at" ["at"] (spNeedAt K) := by
  refine D.cal 2 sc_need_at (fun _ _ _ _ _ _ us hl => match us, hl with | [_], _ => rfl) (fun vs H Q E h => ?_) (fun f cdv A outer s H vs Q E hr h => ?_)
  · obtain ⟨x, ⟨⟨_, rfl, _⟩, _⟩, _⟩ := h; rfl
  obtain ⟨o, ⟨⟨v, rfl, hv⟩, hb⟩, k⟩ := h
  refine ⟨_, (pss_one (ps_if (pt_cmpR op_notN (pv 0) pe_non (nomark _)) (pss_one (ps_for PassesOwn.never rfl (pi_tup (pv 0)) (pg_name (i := 1) sc_need_at.nd rfl (Or.inl rfl)) (pss_one (ps_expr (c_need_number.call (hr.mono (by decide)) (by rfl) (pa_cons (pv 1) (pa_cons (pe_un un_neg (pe_glob (by rfl) U.gMOST U.rMOST)) (pa_cons (pe_glob (by rfl) U.gMOST U.rMOST) pa_nil)))))))) pss_nil)), ?_⟩
  cases o with
  | none =>
    cases (show v = .non from hv)
    refine st_skipL (E := Same) (EvT.is (et_test (ev_notN (ev_var rfl))) rfl) (Same.refl _) (fun H1 e1 => ?_)
    exact k _ _ e1 rfl
  | some p =>
    obtain ⟨x, y⟩ := p
    obtain ⟨b1, b2, b3, b4⟩ := hb x y rfl
    obtain ⟨a, rfl, ha⟩ := (show TupV K [.int x, .int y] v H from hv)
    refine st_if (E := Same) (b := true) (EvT.is (et_test (ev_notN (ev_var rfl))) rfl) (Same.refl _) (fun _ H1 e1 => ?_) (fun z => nomatch z)
    refine ⟨_, rfl, a, rfl, ⟨_, e1.wk.sqT ha⟩, for_tup (K := K) (a := a) (xs := [.int x, .int y]) (fun i σ H2 => (∃ o, σ = [some (.ref a), o]) ∧ Same H H2) ⟨⟨none, rfl⟩, e1⟩ (fun i σ H2 _ ⟨_, e⟩ => e.wk.sqT ha) ?_ ?_⟩
    · rintro i x' σ H2 hx ⟨⟨o, rfl⟩, e2⟩
      have hz : ∃ z : Int, x' = .int z ∧ -999 ≤ z ∧ z ≤ 999 := by
        match i, hx with
        | 0, hx => exact ⟨x, by simpa using hx.symm, b1, b2⟩
        | 1, hx => exact ⟨y, by simpa using hx.symm, b3, b4⟩
        | i + 2, hx => simp at hx
      obtain ⟨z, rfl, z1, z2⟩ := hz
      refine st_drop (E := Same) (ev_neednum (ev_var rfl) (ev_U ev_c) ev_c z1 z2) (Same.refl _) fun v H3 e3 _ => ⟨⟨_, rfl⟩, e2.trans e3⟩
    · rintro σ H2 ⟨_, e2⟩
      exact k _ _ e2 rfl
def spNeedSizes : Sp := SpG (α := Int × Int × Int) (fun x vs _ => vs = [.int x.1, .int x.2.1, .int x.2.2] ∧ -999 ≤ x.1 ∧ x.1 ≤ 999 ∧ -999 ≤ x.2.1 ∧ x.2.1 ≤ 999 ∧ 1 ≤ x.2.2 ∧ x.2.2 ≤ 9) (fun _ v _ => v = .non)
theorem ok_need_sizes (D : DefAt K mg "need_sizes" s_need_sizes) (U : Uni K mg aN uM uW uL) (c_need_number : Cal P w K mg base 2 "need_number" ["number", "low", "high"] spNeedNum) : Cal P w K mg base 3 "need_sizes" ["across", "up", "weight"] spNeedSizes := by
  refine D.cal 2 sc_need_sizes (fun _ _ _ _ _ _ us hl => match us, hl with | [_, _, _], _ => rfl) (fun vs H Q E h => ?_) (fun f cdv A outer s H vs Q E hr h => ?_)
  · obtain ⟨x, ⟨rfl, _⟩, _⟩ := h; rfl
  obtain ⟨⟨a, b, c⟩, ⟨rfl, b1, b2, b3, b4, b5, b6⟩, k⟩ := h
  refine ⟨_, (pss_cons (ps_expr (c_need_number.call (hr.mono (by decide)) (by rfl) (pa_cons (pv 0) (pa_cons (pe_un un_neg (pe_glob (by rfl) U.gMOST U.rMOST)) (pa_cons (pe_glob (by rfl) U.gMOST U.rMOST) pa_nil)))))
      (pss_cons (ps_expr (c_need_number.call (hr.mono (by decide)) (by rfl) (pa_cons (pv 1) (pa_cons (pe_un un_neg (pe_glob (by rfl) U.gMOST U.rMOST)) (pa_cons (pe_glob (by rfl) U.gMOST U.rMOST) pa_nil)))))
      (pss_one (ps_expr (c_need_number.call (hr.mono (by decide)) (by rfl) (pa_cons (pv 2) (pa_cons pe_int (pa_cons (pe_glob (by rfl) U.gWEIGHTS U.rWEIGHTS) pa_nil)))))))), ?_⟩
  refine st_dropS (E := Same) (ev_neednum (ev_var rfl) (ev_U ev_c) ev_c b1 b2) (Same.refl _) fun v H1 e1 _ => ?_
  refine st_dropS (E := Same) (ev_neednum (ev_var rfl) (ev_U ev_c) ev_c b3 b4) (Same.refl _) fun v H2 e2 _ => ?_
  exact st_drop (E := Same) (ev_neednum (ev_var rfl) ev_c ev_c b5 b6) (Same.refl _) fun v H3 e3 _ => k _ _ ((e1.trans e2).trans e3) rfl
/-- a reading within its bounds, between marks -/
structure RdOk (r : Rdg) : Prop where
  ne : r.one ≠ r.other
  a : -999 ≤ r.ac ∧ r.ac ≤ 999
  u : -999 ≤ r.up ∧ r.up ≤ 999
  w : 1 ≤ r.wt ∧ r.wt ≤ 9
def spNeedReading (K : PySem.W.Frag) : Sp := SpG (α := Rdg × List (Key × V)) (fun x vs H => (∃ d n v, vs = [.ref d, n, v] ∧ Rd H d (.dK x.2) ∧ RdV K x.1 v H) ∧ RdOk x.1 ∧ (valV x.2 (kS x.1.one)).isSome = true ∧ (valV x.2 (kS x.1.other)).isSome = true) (fun _ v _ => v = .non)
theorem ok_need_reading (D : DefAt K mg "need_reading" s_need_reading) (c_need_sizes : Cal P w K mg base 3 "need_sizes" ["across", "up", "weight"] spNeedSizes) : Cal P w K mg base 4 "need_reading" ["marks", "number", "reading"] (spNeedReading K) := by
  refine D.cal 3 sc_need_reading (fun _ _ _ _ _ _ us hl => match us, hl with | [_, _, _], _ => rfl) (fun vs H Q E h => ?_) (fun f cdv A outer s H vs Q E hr h => ?_)
  · obtain ⟨x, ⟨⟨_, _, _, rfl, _⟩, _⟩, _⟩ := h; rfl
  obtain ⟨⟨r, kP⟩, ⟨⟨d, n, v, rfl, hd, a, rfl, ha⟩, ok, g1, g2⟩, k⟩ := h
  have hd : Rd H d (.dK kP) := hd
  have g1 : (valV kP (kS r.one)).isSome = true := g1
  have g2 : (valV kP (kS r.other)).isSome = true := g2
  refine ⟨_, (pss_cons (ps_asg (pv 2) (pg_tup rfl (pgs_cons (pg_name (i := 3) sc_need_reading.nd rfl (Or.inl rfl)) (pgs_cons (pg_name (i := 4) sc_need_reading.nd rfl (Or.inl rfl)) (pgs_cons (pg_name (i := 5) sc_need_reading.nd rfl (Or.inl rfl)) (pgs_cons (pg_name (i := 6) sc_need_reading.nd rfl (Or.inl rfl)) (pgs_cons (pg_name (i := 7) sc_need_reading.nd rfl (Or.inl rfl)) pgs_nil)))))))
      (pss_cons (ps_for PassesOwn.never rfl (pi_tup (pe_tup (pa_cons (pv 3) (pa_cons (pv 4) pa_nil)))) (pg_name (i := 8) sc_need_reading.nd rfl (Or.inl rfl)) (pss_one (ps_if (pt_cmp (pc_dnotin (hu_of hr) (pv 8) (pv 0))) (pss_one ps_never) pss_nil)))
      (pss_cons (ps_if (pt_cmpR op_eq (pv 3) (pv 4) (nomark _)) (pss_one ps_never) pss_nil)
      (pss_one (ps_expr (c_need_sizes.call (hr.mono (by decide)) (by rfl) (pa_cons (pv 5) (pa_cons (pv 6) (pa_cons (pv 7) pa_nil))))))))), ?_⟩
  refine ⟨_, rfl, a, _, rfl, ha, rfl, _, _, rfl, _, _, rfl, _, _, rfl, _, _, rfl, _, _, rfl, rfl, ?_⟩
  refine ⟨_, rfl, _, rfl, (by show 2 ≤ sizeLine; decide), fun p hp => ?_⟩
  refine ⟨p, rfl, ⟨_, SqT.of upd_same⟩, for_tup (K := K) (a := p) (xs := [.str r.one, .str r.other]) (fun i σ H2 => (∃ o, σ = [some (.ref d), some n, some (.ref a), some (.str r.one), some (.str r.other), some (.int r.ac), some (.int r.up), some (.int r.wt), o]) ∧ Same (upd H p (.tup [.str r.one, .str r.other])) H2)
    ⟨⟨none, rfl⟩, Same.refl _⟩ (fun i σ H2 _ ⟨_, e⟩ => e.wk.sqT (SqT.of upd_same)) ?_ ?_⟩
  · rintro i x σ H2 hx ⟨⟨o, rfl⟩, e2⟩
    have hz : ∃ z : Str, x = .str z ∧ (valV kP (kS z)).isSome = true := by
      match i, hx with
      | 0, hx => exact ⟨r.one, by simpa using hx.symm, g1⟩
      | 1, hx => exact ⟨r.other, by simpa using hx.symm, g2⟩
      | i + 2, hx => simp at hx
    obtain ⟨z, rfl, hz⟩ := hz
    refine st_if (E := Same) (b := false) (et_B (Eva.is (ev_dnotin (k := kS z) (ev_var rfl) (ev_var rfl) (((Same.new hp).trans e2).wk.dic _ _ hd)) (by rw [hz]; rfl))) (Same.refl _) (fun z => nomatch z) (fun _ H3 e3 => ?_)
    exact ⟨⟨_, rfl⟩, e2.trans e3⟩
  · rintro σ H2 ⟨⟨o, rfl⟩, e2⟩
    refine st_seq (st_if (E := Same) (b := false) (et_test (Eva.is (ev_eq (x := .str r.one) (y := .str r.other) (ev_var rfl) (ev_var rfl) rfl) (by rw [decide_eq_false (fun z => ok.ne (V.str.inj z))]))) (Same.refl _) (fun z => nomatch z) (fun _ H3 e3 => ?_))
    refine st_nx ?_
    dsimp only
    refine st_drop (E := Same) (ev_G (α := Int × Int × Int) (r.ac, r.up, r.wt) (ea_cons (ev_var rfl) (ea_cons (ev_var rfl) (ea_cons (ev_var rfl) ea_nil))) ?_) (Same.refl _) fun v H4 e4 _ => k _ _ (((Same.new hp).trans e2).trans (e3.trans e4)) rfl
    rintro vs H' _ ⟨v, r', rfl, hv, v', r', rfl, hv', v2, r2, rfl, hv2, rfl⟩
    exact ⟨by rw [show v = _ from hv, show v' = _ from hv', show v2 = _ from hv2], ok.a.1, ok.a.2, ok.u.1, ok.u.2, ok.w.1, ok.w.2⟩
end
end Gm

set_option maxHeartbeats 4000000
namespace Gm
open PySem PySem.Spec PyProof.Rows L2
/-! ### name = {..} on one line, the name a local -/
section
variable {X : Cx}
theorem ps_setDc {i : Nat} {y : Str} {py : Pos} {kx vx tg iter : Expr} {ifs : List Expr} {scope : Scope} {own : List (Str × Nat)} {pos spos : Pos} {wi : TI} {g : TG} {tt : TT} {tk tv : TE} (hc : X.calm = true) (hN : X.N.Nodup) (hy : X.N[i]? = some y) (hyl : X.env.scope.names.lookup y = some .local)
    (hsw : swapsWith (.DictComp kx vx [⟨tg, iter, ifs, 0⟩] scope pos) (some (.Name y py)) spos.line X.env = pure true) (hi : PI X tg iter wi) (ok : BlkOk X.N X.env.scope scope own)
    (hg : ∀ (s : Shared) (H : Hp) (C : Addr) (cl : List (Str × Addr)) (fp : List Addr), PG (X.blk s H scope (compEnvC scope cl C X.env) fp) tg g) (ht : ∀ (s : Shared) (H : Hp) (C : Addr) (cl : List (Str × Addr)) (fp : List Addr), PTs (X.blk s H scope (compEnvC scope cl C X.env) fp) ifs tt)
    (hk : ∀ (s : Shared) (H : Hp) (C : Addr) (cl : List (Str × Addr)) (fp : List Addr), PE (X.blk s H scope (compEnvC scope cl C X.env) fp) kx tk)
    (he : ∀ (s : Shared) (H : Hp) (C : Addr) (cl : List (Str × Addr)) (fp : List Addr), PE (X.blk s H scope (compEnvC scope cl C X.env) fp) vx tv) (hs : ∀ x, foldedSetIterable iter X.env x = pure x := by intro _; rfl) :
    PS X (.Assign [.Name y py] (.DictComp kx vx [⟨tg, iter, ifs, 0⟩] scope pos) spos) (tAsg (tDc wi g tt tk tv (own.map (·.2))) (gName i)) := by
  refine ⟨fun pins s σ H D I h => ?_⟩
  rw [exec_Assign_Name_used _ _ _ _ hsw]
  refine wpAny_bind (wpAny_standAt (wpAny_bind ?_))
  show wpAny _ X.A (do let _ ← comprehension (.DictComp kx vx [⟨tg, iter, ifs, 0⟩] scope pos) scope X.env (firstIterPos [⟨tg, iter, ifs, 0⟩] pos) newDict false (eval iter X.env) (some (assign (.Name y py) X.env))) _ _ s
  have h : tDc wi g tt tk tv (own.map (·.2)) σ H (fun x H1 => gName i x σ H1 D.nx) := h
  refine wpAny_bind (thn (dc_core (Qf := fun _ s' => SP X pins D .next s') hc hN I hi ok hg ht hk he hs h fun L C s' m H' I' q hn f => ?_) fun _ s' hq => wpAny_pure (wpAny_pure hq))
  show wpAny _ _ (assign (.Name y py) X.env (.ref L)) _ _ _
  refine wpAny_assign_Name (store_ok2 (v := V.ref L) I' hN hy (.inl hyl) rfl (fun s2 I2 ⟨a, sb, ha⟩ => ?_) (.inr hyl))
  obtain ⟨f0, f1, f2, f3, f4, f5⟩ := f
  have haC : C ≠ a := by
    rcases ha with z | z
    · rw [z]; exact f1
    · exact fun e => f4 y a z e.symm
  refine ⟨m, hn.sameBut sb haC, fun h3 sb3 => ?_⟩
  exact ⟨_, H', I2.turned (t' := s2.toks) (fun b o hb e => (sb3.2 b hb).trans e) f0 f1 f3 f4 f5, q⟩
theorem swd_true {kx vx : Expr} {gs : List Comprehension} {scope : Scope} {pos py : Pos} {y : Str} {l : Nat} {env : Env} (hk : env.scope.kind = .function) (hy : env.scope.names.lookup y = some .local) (hl : (py.line == pos.line) = true)
    (ha : (scope.names.any fun (n, k) => n == y && (k == .local || k == .cell)) = false) : swapsWith (.DictComp kx vx gs scope pos) (some (.Name y py)) l env = pure true := by
  have ky : env.kindOf y = some .local := hy
  have hb : env.blockKind = .function := by unfold Env.blockKind; rw [hk]; rfl
  unfold swapsWith
  simp only [hb, ky, ha, Expr.pos, hl]
  rfl
end
/-- a dict locked for one statement that stores into a name -/
theorem st_lock {D : Ends} {σ : L2.St} {H : Hp} {d : Addr} {kvs : List (Key × V)} {t : TS} (h : H d = some (.dK kvs))
    (ht : ∀ od, t ⟨fun σ' H' => H' d = some (.frz od (.dK kvs)) ∧ D.nx σ' (upd H' d (.dK kvs)), fun v H' => H' d = some (.frz od (.dK kvs)) ∧ D.rt v (upd H' d (.dK kvs)), fun σ' H' => H' d = some (.frz od (.dK kvs)) ∧ D.bk σ' (upd H' d (.dK kvs)), fun σ' H' => H' d = some (.frz od (.dK kvs)) ∧ D.ct σ' (upd H' d (.dK kvs))⟩ σ (upd H d (.frz od (.dK kvs)))) : tLock t D σ H := ⟨d, _, h, trivial, ht⟩
/-- .. by what evaluates within it -/
theorem st_lockSet {D : Ends} {σ : L2.St} {H : Hp} {d : Addr} {kvs : List (Key × V)} {te : TE} {i : Nat} {R : V → Hp → Prop} [MonL R] (h : H d = some (.dK kvs)) (ht : ∀ od, Eva Same te σ (upd H d (.frz od (.dK kvs))) R) (k : ∀ v H1, Same H H1 → R v H1 → D.nx (σ.set i (some v)) H1) : tLock (tAsg te (gName i)) D σ H :=
  st_lock h fun od => ht od _ (Same.refl _) _ fun v H2 e2 r => ⟨e2 _ _ upd_same, k v _ (Same.lock h e2) (MonL.mono (WkL.unlock (e2 _ _ upd_same)) r)⟩
/-! ### what hangs together -/
inductive Conn (ps : List (Str × Str)) : Str → Str → Prop
  | refl (a : Str) : Conn ps a a
  | sym {a b : Str} : Conn ps a b → Conn ps b a
  | tr {a b c : Str} : Conn ps a b → Conn ps b c → Conn ps a c
  | one {a b : Str} : (a, b) ∈ ps → Conn ps a b
theorem Conn.more {ps qs : List (Str × Str)} (h : ∀ p ∈ ps, p ∈ qs) {a b : Str} (c : Conn ps a b) : Conn qs a b := by
  induction c with
  | refl a => exact .refl a
  | sym _ ih => exact .sym ih
  | tr _ _ i1 i2 => exact .tr i1 i2
  | one m => exact .one (h _ m)
theorem conn_snoc {ps : List (Str × Str)} {x y a b : Str} : Conn (ps ++ [(x, y)]) a b ↔ Conn ps a b ∨ (Conn ps a x ∧ Conn ps y b) ∨ (Conn ps a y ∧ Conn ps x b) := by
  constructor
  · intro c
    induction c with
    | refl a => exact .inl (.refl a)
    | sym _ ih =>
      rcases ih with h | ⟨h1, h2⟩ | ⟨h1, h2⟩
      · exact .inl h.sym
      · exact .inr (.inr ⟨h2.sym, h1.sym⟩)
      · exact .inr (.inl ⟨h2.sym, h1.sym⟩)
    | tr _ _ i1 i2 =>
      rcases i1 with h | ⟨h1, h2⟩ | ⟨h1, h2⟩ <;> rcases i2 with g | ⟨g1, g2⟩ | ⟨g1, g2⟩
      · exact .inl (h.tr g)
      · exact .inr (.inl ⟨h.tr g1, g2⟩)
      · exact .inr (.inr ⟨h.tr g1, g2⟩)
      · exact .inr (.inl ⟨h1, h2.tr g⟩)
      · exact .inr (.inl ⟨h1, g2⟩)
      · exact .inl (h1.tr g2)
      · exact .inr (.inr ⟨h1, h2.tr g⟩)
      · exact .inl (h1.tr g2)
      · exact .inr (.inr ⟨h1, g2⟩)
    | one m =>
      rcases List.mem_append.mp m with m | m
      · exact .inl (.one m)
      · have e := List.mem_singleton.mp m
        cases e
        exact .inr (.inl ⟨.refl _, .refl _⟩)
  · have up : ∀ {a b}, Conn ps a b → Conn (ps ++ [(x, y)]) a b := fun c => c.more fun p hp => List.mem_append_left _ hp
    have xy : Conn (ps ++ [(x, y)]) x y := .one (List.mem_append_right _ (List.mem_singleton.mpr rfl))
    rintro (h | ⟨h1, h2⟩ | ⟨h1, h2⟩)
    · exact up h
    · exact ((up h1).tr xy).tr (up h2)
    · exact ((up h1).tr xy.sym).tr (up h2)
/-- heads tell what hangs together -/
def HdOk (names : List Str) (ps : List (Str × Str)) (hd : Str → Str) : Prop := ∀ a ∈ names, ∀ b ∈ names, (hd a = hd b ↔ Conn ps a b)
theorem conn_nil {a b : Str} (c : Conn [] a b) : a = b := by
  induction c with
  | refl a => rfl
  | sym _ ih => exact ih.symm
  | tr _ _ i1 i2 => exact i1.trans i2
  | one m => exact nomatch m
theorem HdOk.step {names : List Str} {ps : List (Str × Str)} {hd : Str → Str} {x y lo hi : Str} (h : HdOk names ps hd) (hx : x ∈ names) (hy : y ∈ names) (e : (lo = hd x ∧ hi = hd y) ∨ (lo = hd y ∧ hi = hd x)) :
    HdOk names (ps ++ [(x, y)]) (fun n => if hd n = hi then lo else hd n) := fun a ha b hb => by
  rw [conn_snoc, ← h a ha b hb, ← h a ha x hx, ← h y hy b hb, ← h a ha y hy, ← h x hx b hb]
  rcases e with ⟨rfl, rfl⟩ | ⟨rfl, rfl⟩
  · by_cases h1 : hd a = hd y <;> by_cases h2 : hd b = hd y
    · simp [h1, h2]
    · simp only [h1, h2, if_true, if_false, true_and]
      grind
    · simp only [h1, h2, if_true, if_false, true_and]
      grind
    · simp only [h1, h2, if_false]
      grind
  · by_cases h1 : hd a = hd x <;> by_cases h2 : hd b = hd x
    · simp [h1, h2]
    · simp only [h1, h2, if_true, if_false, true_and]
      grind
    · simp only [h1, h2, if_true, if_false, true_and]
      grind
    · simp only [h1, h2, if_false]
      grind
theorem HdOk.same {names : List Str} {ps : List (Str × Str)} {hd : Str → Str} {x y : Str} (h : HdOk names ps hd) (hx : x ∈ names) (hy : y ∈ names) (e : hd x = hd y) : HdOk names (ps ++ [(x, y)]) hd := fun a ha b hb => by
  rw [conn_snoc, ← h a ha b hb, ← h a ha x hx, ← h y hy b hb, ← h a ha y hy, ← h x hx b hb]
  grind
/-! ### values that are told -/
theorem range_map_getD {α β : Type} [Inhabited α] (f : α → β) (xs : List α) : (List.range xs.length).map (fun i => f (xs.getD i default)) = xs.map f := by
  apply List.ext_getElem (by simp)
  intro i h1 h2
  simp at h1
  simp [h1]
theorem range_yes (n : Nat) : (List.range n).filter (fun _ => true) = List.range n := List.filter_eq_self.mpr fun _ _ => rfl
theorem paired_vals {kk : Nat → Key} {vv : Nat → V} {H : Hp} : ∀ {ys : List (Key × V)} {l : List Nat}, Paired (fun y i => y.1 = kk i ∧ Is (vv i) y.2 H) ys l → ys = l.map fun i => (kk i, vv i)
  | _, _, .nil => rfl
  | (a, b) :: ys, i :: l, .cons r t => by
    have h1 : a = kk i := r.1
    have h2 : b = vv i := r.2
    rw [List.map_cons, ← paired_vals t, h1, h2]
theorem et_yes {E : Hp → Hp → Prop} [PreE E] {σ : L2.St} {H : Hp} : EvT E tYes σ H true := fun H1 e _ q => q H1 (PreE.rr e)
theorem valV_map_str {names : List Str} {f : Str → V} {m : Str} (h : m ∈ names) : valV (names.map fun n => (kS n, f n)) (kS m) = some (f m) := by
  induction names with
  | nil => exact nomatch h
  | cons a r ih =>
    by_cases e : a = m
    · subst e; exact valV_pos rfl
    · rw [List.map_cons, valV_neg (fun z => e (Sum.inr.inj z))]
      exact ih ((List.mem_cons.mp h).resolve_left fun z => e z.symm)
theorem getD_of {α : Type} [Inhabited α] {xs : List α} {i : Nat} {x : α} (h : xs[i]? = some x) : xs.getD i default = x := by simp [h]
theorem nodup_getD {xs : List Str} (h : xs.Nodup) {i j : Nat} (hi : i < xs.length) (hj : j < xs.length) (e : xs.getD i default = xs.getD j default) : i = j := by
  have e1 : xs[i]? = some (xs.getD i default) := by simp [hi]
  have e2 : xs[j]? = some (xs.getD j default) := by simp [hj]
  rw [e] at e1
  exact nd_ix h e1 e2
section
variable {P : Program} {w : World} {K : PySem.W.Frag} {mg : Str → Option Value} {base : Heap} {aN : Addr} {uM uW uL : Value} {C fI fM fR fN fH : Addr} {fd : FuncData}
def spTied (K : PySem.W.Frag) : Sp := SpG (α := List Str × List (Str × Str)) (fun x vs H => (∃ a b pvs, vs = [.ref a, .ref b] ∧ SqL K H a (x.1.map V.str) ∧ SqL K H b pvs ∧ Paired (fun v p => TupV K [.str p.1, .str p.2] v H) pvs x.2) ∧
    x.1.Nodup ∧ (∀ p ∈ x.2, p.1 ∈ x.1 ∧ p.2 ∈ x.1) ∧ x.1.length ≤ 1000)
  (fun x v H => ∃ d hd, v = .ref d ∧ H d = some (.dK (x.1.map fun n => (kS n, .str (hd n)))) ∧ HdOk x.1 x.2 hd)
theorem ok_tied (D : DefAt K mg "tied" s_tied) (U : Uni K mg aN uM uW uL) : Cal P w K mg base 1 "tied" ["names", "pairs"] (spTied K) := by
  refine D.cal 0 sc_tied (fun _ _ _ _ _ _ us hl => match us, hl with | [_, _], _ => rfl) (fun vs H Q E h => ?_) (fun f cdv A outer s H vs Q E hr h => ?_)
  · obtain ⟨x, ⟨⟨_, _, _, rfl, _⟩, _⟩, _⟩ := h; rfl
  obtain ⟨⟨names, ps⟩, ⟨⟨a, b, pvs, rfl, ha, hb, hp⟩, nd, hps, hlen⟩, k⟩ := h
  have ha : SqL K H a (names.map V.str) := ha
  have nd : names.Nodup := nd
  have hlen : names.length ≤ 1000 := hlen
  have hps : ∀ p ∈ ps, p.1 ∈ names ∧ p.2 ∈ names := hps
  refine ⟨_, (pss_cons (ps_setDc (i := 2) (own := [("name", 7)]) (g := (gName 7)) rfl sc_tied.nd rfl rfl (swd_true rfl rfl rfl (by decide +kernel)) (pi_list (pv 0)) (blkOk_by (N := n_tied) (sc := defScope s_tied) (own := [("name", 7)]) (by decide +kernel)) (fun _ _ _ _ _ => (pg_name (i := 7) sc_tied.nd rfl (Or.inl rfl))) (fun _ _ _ _ _ => pts_nil) (fun _ _ _ _ _ => (pv 7)) (fun _ _ _ _ _ => (pv 7)))
      (pss_cons (ps_for PassesOwn.never rfl (pi_list (pv 1)) (pg_tup rfl (pgs_cons (pg_name (i := 3) sc_tied.nd rfl (Or.inl rfl)) (pgs_cons (pg_name (i := 4) sc_tied.nd rfl (Or.inl rfl)) pgs_nil))) (pss_cons (ps_asg (pe_callB cr_sortedS (by rfl) U.sorted (by decide +kernel) (pa_cons (pe_lst (pa_cons (pe_dget (hu_of hr) (pv 2) (pv 3) (fun _ _ => rfl)) (pa_cons (pe_dget (hu_of hr) (pv 2) (pv 4) (fun _ _ => rfl)) pa_nil))) pa_nil)) (pg_unl rfl (pgs_cons (pg_name (i := 5) sc_tied.nd rfl (Or.inr rfl)) (pgs_cons (pg_name (i := 6) sc_tied.nd rfl (Or.inr rfl)) pgs_nil))))
      (pss_one (ps_if (pt_cmpR op_ne (pv 5) (pv 6) (nomark _)) (pss_one (ps_lock (ps_setDc (i := 2) (own := [("name", 7), ("head", 8)]) (g := (gTup K 2 (gCons (gName 7) (gCons (gName 8) gNil)))) rfl sc_tied.nd rfl rfl (swd_true rfl rfl rfl (by decide +kernel)) (pi_items (pv 2)) (blkOk_by (N := n_tied) (sc := defScope s_tied) (own := [("name", 7), ("head", 8)]) (by decide +kernel)) (fun _ _ _ _ _ => (pg_tup rfl (pgs_cons (pg_name (i := 7) sc_tied.nd rfl (Or.inl rfl)) (pgs_cons (pg_name (i := 8) sc_tied.nd rfl (Or.inl rfl)) pgs_nil)))) (fun _ _ _ _ _ => pts_nil) (fun _ _ _ _ _ => (pv 7)) (fun _ _ _ _ _ => (pe_ifExp (pt_cmpR op_eq (pv 8) (pv 6) (nomark _)) (pv 5) (pv 8)))))) pss_nil))))
      (pss_one (ps_ret (pv 2))))), ?_⟩
  refine st_set (E := Same) (ev_dc (n := (names.map V.str).length) (ei_list fun H1 e Q q => ⟨_, rfl, q _ H1 (Same.refl _) ⟨a, rfl, e.seq ha, fun z => z⟩⟩) (by simp; omega) (fun _ => true) (fun i => kS (names.getD i default)) (fun i => Is (.str (names.getD i default)))
    (fun i j hi hj _ _ e => nodup_getD nd (by simpa using hi) (by simpa using hj) (Sum.inr.inj e)) ?_) (Same.refl _) ?_
  · intro i x H' hi e y
    have hx : names[i]? = some (names.getD i default) := by
      have : i < names.length := by simpa using hi
      simp [this]
    have ex : x = .str (names.getD i default) := by
      rw [List.getElem?_map, hx] at y
      exact (Option.some.inj y).symm
    subst ex
    exact ⟨_, tg_name, rfl, et_yes, fun _ => ⟨ev_var rfl, ev_var rfl⟩⟩
  rintro v H1 e1 ⟨d0, ys, rfl, hd0, hys, _⟩
  rw [range_yes] at hys
  have hys := paired_vals hys
  have hys : ys = names.map fun n => (kS n, .str n) := by
    rw [hys, List.length_map]
    exact range_map_getD (fun n => ((kS n, .str n) : Key × V)) names
  subst hys
  refine st_seq ⟨_, rfl, b, rfl, ⟨_, e1.seq hb⟩, for_list (K := K) (a := b) (xs := pvs) (fun i σ H2 => ∃ d hd o1 o2 o3 o4, σ = [some (.ref a), some (.ref b), some (.ref d), o1, o2, o3, o4, none, none] ∧ Same H H2 ∧ H2 d = some (.dK (names.map fun n => (kS n, .str (hd n)))) ∧ HdOk names (ps.take i) hd)
    ⟨d0, fun n => n, none, none, none, none, rfl, e1, hd0, fun a ha b hb => ⟨fun e => (show a = b from e) ▸ .refl _, fun c => conn_nil c⟩⟩ (fun i σ H2 _ ⟨_, _, _, _, _, _, _, e, _⟩ => e.seq hb) ?_ ?_⟩
  · rintro i x σ H2 hx ⟨d, hd, o1, o2, o3, o4, rfl, e2, hd2, ok⟩
    obtain ⟨⟨x1, x2⟩, hq, hx'⟩ := pget hp hx
    obtain ⟨t, rfl, ht⟩ := (show TupV K [.str x1, .str x2] x H from hx')
    obtain ⟨m1, m2⟩ := hps _ (List.mem_of_getElem? hq)
    have m1 : x1 ∈ names := m1
    have m2 : x2 ∈ names := m2
    refine ⟨t, _, rfl, e2.wk.sqT ht, rfl, _, _, rfl, _, _, rfl, rfl, ?_⟩
    have step : ∀ i, (ps.take (i + 1)) = ps.take i ++ (match ps[i]? with | some p => [p] | none => []) := fun i => by
      rw [List.take_succ]; cases ps[i]? <;> rfl
    have hstep : ps.take (i + 1) = ps.take i ++ [(x1, x2)] := by rw [step, hq]
    -- low, high = sorted([heads[one], heads[other]])
    refine ⟨_, rfl, _, rfl, d, _, rfl, .inl ⟨_, kS x1, .inl hd2, rfl, (valV_map_str m1).symm⟩, _, rfl, _, rfl, d, _, rfl, .inl ⟨_, kS x2, .inl hd2, rfl, (valV_map_str m2).symm⟩, (by show 2 ≤ sizeLine; decide), fun l hl => ?_⟩
    refine ⟨l, [hd x1, hd x2], rfl, SqL.of upd_same, (by decide : 2 < 64), fun ys p hper hsort hpn => ?_⟩
    have e3 : Same H2 (upd (upd H2 l (.lst [.str (hd x1), .str (hd x2)])) p (.lst (ys.map V.str))) := (Same.new hl).trans (Same.new hpn)
    obtain ⟨lo, hi, rfl, hlh⟩ : ∃ lo hi, ys = [lo, hi] ∧ ((lo = hd x1 ∧ hi = hd x2) ∨ (lo = hd x2 ∧ hi = hd x1)) := by
      have hl2 : ys.length = 2 := hper.length_eq
      match ys, hl2 with
      | [lo, hi], _ =>
        refine ⟨lo, hi, rfl, ?_⟩
        have h1 : lo ∈ [hd x1, hd x2] := hper.subset (by simp)
        have h2 : hd x1 ∈ [lo, hi] := hper.symm.subset (by simp)
        have h3 : hd x2 ∈ [lo, hi] := hper.symm.subset (by simp)
        have h4 : hi ∈ [hd x1, hd x2] := hper.subset (by simp)
        simp only [List.mem_cons, List.not_mem_nil, or_false] at h1 h2 h3 h4
        grind
    refine ⟨p, _, rfl, SqL.of upd_same, rfl, _, _, rfl, _, _, rfl, rfl, ?_⟩
    have hd3 := e3 _ _ hd2
    generalize upd (upd H2 l (.lst [.str (hd x1), .str (hd x2)])) p (.lst (([lo, hi] : List Str).map V.str)) = H3 at e3 hd3
    refine st_ifL (E := Same) (b := !decide (lo = hi)) (EvT.is (et_test (ev_ne (x := .str lo) (y := .str hi) (ev_var rfl) (ev_var rfl) rfl)) ?_) (Same.refl _) (fun z H4 e4 => ?_) (fun z H4 e4 => ?_)
    · by_cases e : lo = hi
      · rw [decide_eq_true (congrArg V.str e), decide_eq_true e]
      · rw [decide_eq_false (fun z => e (V.str.inj z)), decide_eq_false e]
    · -- heads = {..}
      have hd4 := e4 _ _ hd3
      refine st_lockSet (R := DcIs (names.map fun n => (kS n, .str (if hd n = hi then lo else hd n)))) hd4 (fun od => ?_) ?_
      · apply Eva.imp
        refine ev_dc (n := (names.map fun n => (kS n, V.str (hd n))).length) (ei_items (K := K) (d := d) (ev_var rfl) upd_same) (by simp; omega) (fun _ => true) (fun i => kS (names.getD i default)) (fun i => Is (.str (if hd (names.getD i default) = hi then lo else hd (names.getD i default))))
          (fun i j hi hj _ _ e => nodup_getD nd (by simpa using hi) (by simpa using hj) (Sum.inr.inj e)) ?_
        · rintro i x H' hi' e ⟨kk, vv, hk, hT⟩
          have hx : names[i]? = some (names.getD i default) := by
            have : i < names.length := by simpa using hi'
            simp [this]
          rw [List.getElem?_map, hx] at hk
          have hk := Option.some.inj hk
          have hk1 : kk = kS (names.getD i default) := (congrArg Prod.fst hk).symm
          have hk2 : vv = .str (hd (names.getD i default)) := (congrArg Prod.snd hk).symm
          subst hk1 hk2
          refine ⟨_, tg_tup hT rfl fun Q q => ⟨_, _, rfl, _, _, rfl, rfl, q⟩, rfl, et_yes, fun _ => ⟨ev_var rfl, ?_⟩⟩
          refine ev_if (b := decide (hd (names.getD i default) = hi)) (EvT.is (et_test (ev_eq (x := .str (hd (names.getD i default))) (y := .str hi) (ev_var rfl) (ev_var rfl) rfl)) ?_) (fun z => ?_) (fun z => ?_)
          · by_cases e : hd (names.getD i default) = hi
            · rw [decide_eq_true (congrArg V.str e), decide_eq_true e]
            · rw [decide_eq_false (fun z => e (V.str.inj z)), decide_eq_false e]
          · rw [if_pos (of_decide_eq_true z)]; exact ev_var rfl
          · rw [if_neg (of_decide_eq_false z)]; exact ev_var rfl
        · rintro v H' _ ⟨D, ys, rfl, hD, hys, _⟩
          rw [range_yes] at hys
          have hys := paired_vals hys
          refine ⟨D, rfl, ?_⟩
          rw [hD, hys, List.length_map]
          exact congrArg (fun l => some (HO.dK l)) (range_map_getD (fun n => ((kS n, .str (if hd n = hi then lo else hd n)) : Key × V)) names)
      · rintro v H5 e5 ⟨D, rfl, hD⟩
        exact ⟨D, fun n => if hd n = hi then lo else hd n, _, _, _, _, rfl, ((e2.trans e3).trans e4).trans e5, hD, by rw [hstep]; exact ok.step m1 m2 hlh⟩
    · have hlo : lo = hi := by simpa using z
      refine ⟨d, hd, _, _, _, _, rfl, (e2.trans e3).trans e4, e4 _ _ hd3, ?_⟩
      rw [hstep]
      exact ok.same m1 m2 (by rcases hlh with ⟨h1, h2⟩ | ⟨h1, h2⟩ <;> rw [← h1, ← h2, hlo])
  · rintro σ H2 ⟨d, hd, o1, o2, o3, o4, rfl, e2, hd2, ok⟩
    refine ⟨_, rfl, k _ _ e2 ⟨d, hd, rfl, hd2, ?_⟩⟩
    rw [List.take_of_length_le (by rw [hp.length]; exact Nat.le_refl _)] at ok
    exact ok
end
end Gm

set_option maxHeartbeats 4000000
namespace Gm
open PySem PySem.Spec PyProof.Rows L2
theorem DcX.dest {κ α : Type} {key : κ → Key} {R : α → V → Hp → Prop} {xs : List (κ × α)} {v : V} {H : Hp} (h : DcX key R xs v H) : ∃ d kvs, v = .ref d ∧ H d = some (.dK kvs) ∧ Dc key R xs kvs H := h
theorem rising_uniq {ys ks : List Int} (hp : ys.Perm ks) (hs : ys.Pairwise (· ≤ ·)) (hk : ks.Pairwise (· < ·)) : ys = ks :=
  List.Perm.eq_of_pairwise (fun a b _ _ h1 h2 => Int.le_antisymm h1 h2) hs (hk.imp fun h => Int.le_of_lt h) hp
section
variable {E : Hp → Hp → Prop} [PreE E] {K : PySem.W.Frag} {σ : L2.St} {H H' : Hp} {te : TE}
theorem ev_sortedDI {a : Addr} {kvs : List (Key × V)} {ks : List Int} (h : Eva E te σ H (Is (.ref a))) (hd : Rd H a (.dK kvs)) (hk : kvs.map (·.1) = ks.map Sum.inl) (hl : ks.length < 64) (hs : ks.Pairwise (· < ·)) :
    Eva E (tCB (fun xs H Q => ∃ (a : Addr) (kvs : List (Key × V)) (ks : List Int), xs = [.ref a] ∧ Rd H a (.dK kvs) ∧ kvs.map (·.1) = ks.map Sum.inl ∧ ks.length < 64 ∧ ∀ (ys : List Int) (p : Addr), ys.Perm ks → ys.Pairwise (· ≤ ·) → H p = none → Q (.ref p) (upd H p (.lst (ys.map V.int)))) (tCons te tNil)) σ H
      (fun v H1 => ∃ d, v = .ref d ∧ H1 d = some (.lst (ks.map V.int)) ∧ ¬ PreE.bad E d) := fun H1 e Q q =>
  h H1 e _ fun v H2 e2 rv => ⟨a, kvs, ks, by rw [show v = _ from rv], (PreE.wk (PreE.trans e e2)).dic _ _ hd, hk, hl, fun ys p hp hs' hn => by
    rw [rising_uniq hp hs' hs]
    exact q _ _ (PreE.trans e2 (PreE.new (PreE.rr e2) hn)) ⟨p, rfl, upd_same, PreE.nb (a := p) (o := .tup []) (A := upd H2 p (.tup [])) (B := upd H2 p (.tup [])) (PreE.rr (PreE.new (PreE.rr e2) hn)) upd_same (fun _ z => nomatch z)⟩⟩
theorem ev_cut2 {v1 v2 : V} {rest : List V} (h : Eva E te σ H (TupV K (v1 :: v2 :: rest))) (hr : rest ≠ []) : Eva E (tSl (rSlT K) te tNoPart (tPart (tC (.int 2)))) σ H (TupV K [v1, v2]) := fun H1 e Q q =>
  h H1 e _ fun v H2 e2 ⟨a, ea, hs⟩ => ⟨2, rfl, a, _, ea, hs, by
    intro z
    have h2 := z.2
    have hl : rest.length ≠ 0 := fun e => hr (List.length_eq_zero_iff.mp e)
    have h3 : HT.sIx (v1 :: v2 :: rest).length (v1 :: v2 :: rest).length (some 2) = 2 := by simp [HT.sIx]
    rw [h3] at h2
    simp only [List.length_cons] at h2
    omega, fun p hp => q _ _ (PreE.trans e2 (PreE.new (PreE.rr e2) hp)) ⟨p, rfl, SqT.of (by
    rw [upd_same]
    congr 2)⟩⟩
end
section
variable {P : Program} {w : World} {K : PySem.W.Frag} {mg : Str → Option Value} {base : Heap} {aN : Addr} {uM uW uL : Value} {C fI fM fR fN fH : Addr} {fd : FuncData}
/-- a list of pairs of names -/
def PrsV (K : PySem.W.Frag) (ps : List (Str × Str)) : V → Hp → Prop := fun v H => ∃ a vs, v = .ref a ∧ H a = some (.lst vs) ∧ Paired (fun v (p : Str × Str) => TupV K [.str p.1, .str p.2] v H) vs ps
instance {K : PySem.W.Frag} {ps : List (Str × Str)} : MonL (PrsV K ps) := ⟨fun w ⟨a, vs, e, h, p⟩ => ⟨a, vs, e, w.lst _ _ h, pimp (fun _ _ r => MonW.mono w.wk r) p⟩⟩
/-- all but p stands -/
def SameB (p : Addr) (H H' : Hp) : Prop := ∀ b o, H b = some o → b ≠ p → H' b = some o
theorem sur_pairs {W : Wd} (ok : W.Ok) {m : Str} : W.Hang m ↔ ∃ f q, (f, some q) ∈ W.mks ∧ Conn (W.rds.map fun r => (r.2.one, r.2.other)) m f := by
  constructor
  · intro h
    induction h with
    | fix h => exact ⟨_, _, h, .refl _⟩
    | fwd h _ ih => obtain ⟨f, q, hf, c⟩ := ih; exact ⟨f, q, hf, Conn.tr (Conn.sym (.one (List.mem_map.mpr ⟨_, h, rfl⟩))) c⟩
    | bwd h _ ih => obtain ⟨f, q, hf, c⟩ := ih; exact ⟨f, q, hf, Conn.tr (.one (List.mem_map.mpr ⟨_, h, rfl⟩)) c⟩
  · rintro ⟨f, q, hf, c⟩
    have key : ∀ {a b : Str}, Conn (W.rds.map fun r => (r.2.one, r.2.other)) a b → (W.Hang a ↔ W.Hang b) := by
      intro a b c
      induction c with
      | refl a => exact Iff.rfl
      | sym _ ih => exact ih.symm
      | tr _ _ i1 i2 => exact i1.trans i2
      | one h =>
        obtain ⟨⟨n, r⟩, hr, e⟩ := List.mem_map.mp h
        cases e
        exact ⟨.fwd hr, .bwd hr⟩
    exact (key c).mpr (.fix hf)
theorem valV_fold {kk : Nat → Key} {vv : Nat → V} (k : Key) : ∀ (l : List Nat) (acc : List (Key × V)), (valV (l.foldl (fun acc i => putK acc (kk i) (vv i)) acc) k).isSome = ((valV acc k).isSome || l.any fun i => decide (kk i = k))
  | [], acc => by simp
  | i :: l, acc => by
    rw [List.foldl_cons, valV_fold k l, valV_put, List.any_cons]
    by_cases e : k = kk i
    · simp [e]
    · rw [if_neg e, decide_eq_false (fun z => e z.symm)]; simp
def spInit (K : PySem.W.Frag) (C : Addr) : Sp := fun vs H Q _ => ∃ (W : Wd) (p dx : Addr) (v1 v2 : V), vs = [.ref p, v1, v2] ∧ H p = some (.ins C dx []) ∧ DcX kS (AtV K) W.mks v1 H ∧ DcX kI (RdV K) W.rds v2 H ∧ W.Ok ∧
  ∀ H', SurV K C W (.ref p) H' → SameB p H H' → Q .non H'
theorem ok_init (D : Fun K "__init__" "Survey.__init__" s_Survey_init fI fd) (U : Uni K mg aN uM uW uL) (M : SurM K mg C fI fM fR fN fH) (c_need_name : Cal P w K mg base 1 "need_name" ["name"] spNeedName) (c_need_at : Cal P w K mg base 3 "need_at" ["at"] (spNeedAt K))
    (c_need_reading : Cal P w K mg base 4 "need_reading" ["marks", "number", "reading"] (spNeedReading K)) (c_tied : Cal P w K mg base 1 "tied" ["names", "pairs"] (spTied K)) : MFn P w K mg base 5 fI fd ["self", "marks", "readings"] (spInit K C) := by
  refine Fun.mfn 4 D sc_Survey_init (fun _ _ _ _ _ _ us hl => match us, hl with | [_, _, _], _ => rfl) (fun vs H Q E h => ?_) (fun f cdv A outer s H vs Q E hr h => ?_)
  · obtain ⟨_, _, _, _, _, rfl, _⟩ := h; rfl
  obtain ⟨W, p, dx, _, _, rfl, hp, ⟨d1, k1, rfl, hd1, q1⟩, ⟨d2, k2, rfl, hd2, q2⟩, ok, k⟩ := h
  have l1 : W.names.length ≤ 8 := by have := ok.len; unfold Wd.names; rw [List.length_map]; exact this
  have l2 := ok.rlen
  have hk2 : k2.map (·.1) = (W.rds.map (·.1)).map Sum.inl := by rw [q2.keys, List.map_map]; rfl
  have ndn : (srt W.names).Nodup := srt_nodup ok.nd
  refine ⟨_, (pss_cons (ps_for PassesOwn.never rfl (pi_list (pe_callB (call_sortedD rfl) (by rfl) U.sorted (by decide +kernel) (pa_cons (pv 1) pa_nil))) (pg_name (i := 3) sc_Survey_init.nd rfl (Or.inl rfl)) (pss_cons (ps_expr (c_need_name.call (hr.mono (by decide)) (by rfl) (pa_cons (pv 3) pa_nil)))
      (pss_one (ps_expr (c_need_at.call (hr.mono (by decide)) (by rfl) (pa_cons (pe_dget (hu_of hr) (pv 1) (pv 3) (fun _ _ => rfl)) pa_nil))))))
      (pss_cons (ps_for PassesOwn.never rfl (pi_list (pe_callB (call_sortedDI rfl) (by rfl) U.sorted (by decide +kernel) (pa_cons (pv 2) pa_nil))) (pg_name (i := 4) sc_Survey_init.nd rfl (Or.inl rfl)) (pss_one (ps_expr (c_need_reading.call (hr.mono (by decide)) (by rfl) (pa_cons (pv 1) (pa_cons (pv 4) (pa_cons (pe_dget (hu_of hr) (pv 2) (pv 4) (fun _ _ => rfl)) pa_nil)))))))
      (pss_cons (ps_fld (pv 0) (pe_callTy call_dictD (by rfl) U.dict (by decide +kernel) (pa_cons (pv 1) pa_nil)) rfl)
      (pss_cons (ps_fld (pv 0) (pe_dc (own := [("number", 4)]) (g := (gName 4)) rfl sc_Survey_init.nd (pi_list (pe_callB (call_sortedDI rfl) (by rfl) U.sorted (by decide +kernel) (pa_cons (pv 2) pa_nil))) (blkOk_by (N := n_Survey_init) (sc := defScope s_Survey_init) (own := [("number", 4)]) (by decide +kernel)) (fun _ _ _ _ _ => (pg_name (i := 4) sc_Survey_init.nd rfl (Or.inl rfl))) (fun _ _ _ _ _ => pts_nil) (fun _ _ _ _ _ => (pv 4)) (fun _ _ _ _ _ => (pe_dget (hu_of hr) (pv 2) (pv 4) (fun _ _ => rfl)))) rfl)
      (pss_cons (ps_fld (pv 0) (c_tied.call (hr.mono (by decide)) (by rfl) (pa_cons (pe_callB (call_sortedD rfl) (by rfl) U.sorted (by decide +kernel) (pa_cons (pv 1) pa_nil)) (pa_cons (pe_lock (pe_lc (own := [("reading", 5)]) (g := (gName 5)) rfl sc_Survey_init.nd (pi_values (pe_fld (pv 0) rfl)) (blkOk_by (N := n_Survey_init) (sc := defScope s_Survey_init) (own := [("reading", 5)]) (by decide +kernel)) (fun _ _ _ _ _ => (pg_name (i := 5) sc_Survey_init.nd rfl (Or.inl rfl))) (fun _ _ _ _ _ => pts_nil) (fun _ _ _ _ _ => (pe_slice (sl_tupK (K := K) rfl) (pv 5) po_none (po_some pe_int))))) pa_nil))) rfl)
      (pss_one (ps_fld (pv 0) (pe_lock (pe_dc (own := [("name", 3), ("at", 6)]) (g := (gTup K 2 (gCons (gName 3) (gCons (gName 6) gNil)))) rfl sc_Survey_init.nd (pi_items (pv 1)) (blkOk_by (N := n_Survey_init) (sc := defScope s_Survey_init) (own := [("name", 3), ("at", 6)]) (by decide +kernel)) (fun _ _ _ _ _ => (pg_tup rfl (pgs_cons (pg_name (i := 3) sc_Survey_init.nd rfl (Or.inl rfl)) (pgs_cons (pg_name (i := 6) sc_Survey_init.nd rfl (Or.inl rfl)) pgs_nil)))) (fun _ _ _ _ _ => pts_one (pt_cmpR op_notN (pv 6) pe_non (nomark _))) (fun _ _ _ _ _ => (pe_dget (hu_of hr) (pe_fldK (K := K) (pv 0) rfl rfl) (pv 3) (fun _ _ => rfl))) (fun _ _ _ _ _ => pe_bl))) rfl))))))), ?_⟩
  -- for name in sorted(marks): ..
  refine st_forL (E := Same) (xs := (srt W.names).map V.str) (ev_sortedD (ks := W.names) (ev_var rfl) (.inl hd1) (mk_keys q1) (by omega)) (Same.refl _) ?_
  rintro _ H1 e1 ⟨l, rfl, hl, _⟩
  refine ⟨l, rfl, SqL.of hl, (fun i σ H2 => (∃ o, σ = [some (.ref p), some (.ref d1), some (.ref d2), o, none, none, none]) ∧ Same H1 H2), ⟨⟨none, rfl⟩, Same.refl _⟩, (fun i σ H2 _ ⟨_, e⟩ => SqL.of (e _ _ hl)), ?_, ?_⟩
  · rintro i x σ H2 hx ⟨⟨o, rfl⟩, e2⟩
    rw [List.getElem?_map] at hx
    obtain ⟨m, hm, rfl⟩ := Option.map_eq_some_iff.mp hx
    have hmn : m ∈ W.names := srt_mem.mp (List.mem_of_getElem? hm)
    obtain ⟨n1, n2, n3, _⟩ := ok.nm m hmn
    refine st_dropS (E := Same) (ev_G (α := Str) m (ea_cons (ev_var rfl) ea_nil) ?_) (Same.refl _) fun v H3 e3 _ => ?_
    · rintro vs H' _ ⟨v, r, rfl, hv, rfl⟩
      exact ⟨by rw [show v = _ from hv], n1, n2, n3⟩
    have e03 := (e1.trans e2).trans e3
    obtain ⟨⟨m', o'⟩, vv, hx1, rfl, hv1, hv2, _⟩ := q1.has inr_inj hmn
    refine st_drop (E := Same) (ev_G (α := Option (Int × Int)) o' (ea_cons (R := AtV K o') (Eva.imp (ev_dget (k := kS m') (ev_var rfl) (.inl (e03 _ _ hd1)) (ev_var rfl) hv1) fun v H4 e4 r => ?_) ea_nil) ?_) (Same.refl _) fun v H4 e4 _ => ⟨⟨_, rfl⟩, (e2.trans e3).trans e4⟩
    · rw [show v = vv from r]
      exact MonW.mono (e03.trans e4).wk hv2
    · rintro vs H' _ ⟨v, r, rfl, hv, rfl⟩
      refine ⟨⟨v, rfl, hv⟩, fun x y e => ?_⟩
      subst e
      have := ok.at_ _ _ _ hx1
      omega
  rintro σ H2 ⟨⟨o, rfl⟩, e2⟩
  have e02 := e1.trans e2
  -- for number in sorted(readings): ..
  refine st_forL (E := Same) (xs := (W.rds.map (·.1)).map V.int) (ev_sortedDI (ks := W.rds.map (·.1)) (ev_var rfl) (.inl (e02 _ _ hd2)) hk2 (by rw [List.length_map]; omega) ok.rnum) (Same.refl _) ?_
  rintro _ H3 e3 ⟨l', rfl, hl', _⟩
  refine ⟨l', rfl, SqL.of hl', (fun i σ H4 => (∃ o o2, σ = [some (.ref p), some (.ref d1), some (.ref d2), o, o2, none, none]) ∧ Same H3 H4), ⟨⟨_, none, rfl⟩, Same.refl _⟩, (fun i σ H2 _ ⟨_, e⟩ => SqL.of (e _ _ hl')), ?_, ?_⟩
  · rintro i x σ H4 hx ⟨⟨o, o2, rfl⟩, e4⟩
    rw [List.getElem?_map, List.getElem?_map] at hx
    obtain ⟨n, hn, rfl⟩ := Option.map_eq_some_iff.mp hx
    obtain ⟨⟨n', r⟩, hnr, rfl⟩ := Option.map_eq_some_iff.mp hn
    have hmem : (n', r) ∈ W.rds := List.mem_of_getElem? hnr
    have e04 := (e02.trans e3).trans e4
    obtain ⟨⟨n2, r2⟩, vv, hx1, ex, hv1, hv2, _⟩ := q2.has inl_inj (k := n') (List.mem_map.mpr ⟨_, hmem, rfl⟩)
    have ex : n2 = n' := ex
    subst ex
    have ro := ok.rd _ _ hx1
    have rok : RdOk r2 := ⟨ro.2.2.1, ⟨by omega, by omega⟩, ⟨by omega, by omega⟩, ro.2.2.2.2.2.2.2⟩
    obtain ⟨_, _, _, _, g1, _, _⟩ := q1.has inr_inj (k := r2.one) ro.1
    obtain ⟨_, _, _, _, g2, _, _⟩ := q1.has inr_inj (k := r2.other) ro.2.1
    refine st_drop (E := Same) (ev_G (α := Rdg × List (Key × V)) (r2, k1) (ea_cons (R := Is (.ref d1)) (ev_var rfl) (ea_cons (R := Is (.int n2)) (ev_var rfl) (ea_cons (R := RdV K r2) (Eva.imp (ev_dget (k := kI n2) (ev_var rfl) (.inl (e04 _ _ hd2)) (ev_var rfl) hv1) fun v H5 e5 r => ?_) ea_nil))) ?_) (Same.refl _) fun v H5 e5 _ => ⟨⟨_, _, rfl⟩, e4.trans e5⟩
    · rw [show v = vv from r]
      exact MonW.mono (e04.trans e5).wk hv2
    · rintro vs H' e ⟨v, r, rfl, hv, v', r', rfl, hv', v2, r3, rfl, hv3, rfl⟩
      refine ⟨⟨d1, v', v2, by rw [show v = _ from hv], .inl ((e04.trans e) _ _ hd1), hv3⟩, rok, ?_, ?_⟩
      · show (valV k1 (kS r2.one)).isSome = true
        rw [g1]; rfl
      · show (valV k1 (kS r2.other)).isSome = true
        rw [g2]; rfl
  rintro σ H4 ⟨⟨o, o2, rfl⟩, e4⟩
  have e04 := (e02.trans e3).trans e4
  -- self.points = dict(marks)
  refine st_fldS (ev_dictD (ev_var rfl) (.inl (e04 _ _ hd1))).eva rfl (e04 _ _ hp) M.cl M.n_points (by simp) ?_
  rintro _ H5 e5 ⟨dP, rfl, hP⟩
  have e05 := e04.trans e5
  have b5 : SameB p H (upd H5 p (.ins C dx [("points", .ref dP)])) := fun b o e ne => by rw [upd_ne ne]; exact e05 _ _ e
  have p6 : (upd H5 p (.ins C dx [("points", .ref dP)])) p = some (.ins C dx [("points", .ref dP)]) := upd_same
  have P6 : (upd H5 p (.ins C dx [("points", .ref dP)])) dP = some (.dK k1) := by rw [upd_ne (ne_of hP (e05 _ _ hp) (fun z => nomatch z))]; exact hP
  show tSeq _ _ _ _ (upd H5 p (.ins C dx [("points", .ref dP)]))
  generalize upd H5 p (.ins C dx [("points", .ref dP)]) = H6 at b5 p6 P6
  have n1 : d1 ≠ p := ne_of hd1 hp (fun z => nomatch z)
  have nd2 : d2 ≠ p := ne_of hd2 hp (fun z => nomatch z)
  have tupB : ∀ {H' : Hp}, SameB p H H' → ∀ a xs, Rd H a (.tup xs) → Rd H' a (.tup xs) := fun b a xs q => by
    rcases q with q | ⟨u, q⟩
    · exact .inl (b _ _ q (ne_of q hp (fun z => nomatch z)))
    · exact .inr ⟨u, b _ _ q (ne_of q hp (fun z => nomatch z))⟩
  -- self.book = {..}
  refine st_fldS (ev_dc (n := W.rds.length) (R := fun i => RdV K (W.rds.getD i (0, ⟨default, default, 0, 0, 0⟩)).2) (kk := fun i => kI (W.rds.getD i (0, ⟨default, default, 0, 0, 0⟩)).1) (b := fun _ => true)
    (ei_imp (Y := fun i x _ => ((W.rds.map (·.1)).map V.int)[i]? = some x) (n := W.rds.length) (by
      have := ei_list (E := Same) (K := K) (σ := [some (.ref p), some (.ref d1), some (.ref d2), o, o2, none, none]) (H := H6) (xs := (W.rds.map (·.1)).map V.int) (Eva.imp (ev_sortedDI (E := Same) (ks := W.rds.map (·.1)) (ev_var (i := 2) rfl) (.inl (b5 _ _ hd2 nd2)) hk2 (by rw [List.length_map]; omega) ok.rnum) (fun v H1 _ ⟨d, ed, hd, nb⟩ => ⟨d, ed, SqL.of hd, nb⟩))
      rw [List.length_map, List.length_map] at this
      exact this) (fun j x H1 _ y => y)) (by omega) ?_ ?_) rfl p6 M.cl M.n_book (by simp) ?_
  · intro i j hi hj _ _ e
    have e1 : (W.rds.map (·.1))[i]? = some (W.rds.getD i (0, ⟨default, default, 0, 0, 0⟩)).1 := by simp [hi]
    have e2 : (W.rds.map (·.1))[j]? = some (W.rds.getD j (0, ⟨default, default, 0, 0, 0⟩)).1 := by simp [hj]
    rw [Sum.inl.inj e] at e1
    exact nd_ix (ok.rnum.imp fun h => Int.ne_of_lt h) e1 e2
  · rintro i x H' hi e y
    have hx : W.rds[i]? = some (W.rds.getD i (0, ⟨default, default, 0, 0, 0⟩)) := by simp [hi]
    rw [List.getElem?_map, List.getElem?_map, hx] at y
    have y := Option.some.inj y
    subst y
    refine ⟨_, tg_name, rfl, et_yes, fun _ => ⟨ev_var rfl, ?_⟩⟩
    have hmem := List.mem_of_getElem? hx
    generalize W.rds.getD i (0, ⟨default, default, 0, 0, 0⟩) = nr at hmem
    obtain ⟨n', r⟩ := nr
    obtain ⟨⟨n2, r2⟩, vv, hx1, ex, hv1, hv2, hf⟩ := q2.has inl_inj (k := n') (List.mem_map.mpr ⟨_, hmem, rfl⟩)
    have ex : n2 = n' := ex
    subst ex
    have er : r2 = r := by
      obtain ⟨i1, h1⟩ := List.getElem?_of_mem hx1
      obtain ⟨i2, h2⟩ := List.getElem?_of_mem hmem
      have g1 : (W.rds.map (·.1))[i1]? = some n2 := by rw [List.getElem?_map, h1]; rfl
      have g2 : (W.rds.map (·.1))[i2]? = some n2 := by rw [List.getElem?_map, h2]; rfl
      have := nd_ix (ok.rnum.imp fun h => Int.ne_of_lt h) g1 g2
      subst this
      rw [h1] at h2; cases h2; rfl
    subst er
    refine Eva.imp (ev_dget (k := kI n2) (ev_var rfl) (.inl (e _ _ (b5 _ _ hd2 nd2))) (ev_var rfl) hv1) fun v H5 e5 r => ?_
    rw [show v = vv from r]
    exact MonW.mono (e.trans e5).wk (MonT.mono (tupB b5) hv2)
  rintro _ H7 e7 ⟨dB, kB, rfl, hB, qB, _⟩
  rw [range_yes] at qB
  have qB : Dc kI (RdV K) W.rds kB H7 := by
    refine paired_of (by rw [qB.length, List.length_range]) fun i a b ha hb => ?_
    obtain ⟨j, hj, r⟩ := pget qB ha
    have hi : i < W.rds.length := (List.getElem?_eq_some_iff.mp hb).1
    rw [List.getElem?_range hi] at hj
    cases hj
    have eb : W.rds.getD i (0, ⟨default, default, 0, 0, 0⟩) = b := by
      rw [List.getD_eq_getElem?_getD, hb]; rfl
    rw [eb] at r
    exact r
  have b7 : SameB p H (upd H7 p (.ins C dx [("points", .ref dP), ("book", .ref dB)])) := fun b o e ne => by rw [upd_ne ne]; exact e7 _ _ (b5 _ _ e ne)
  have p8 : (upd H7 p (.ins C dx [("points", .ref dP), ("book", .ref dB)])) p = some (.ins C dx [("points", .ref dP), ("book", .ref dB)]) := upd_same
  have P8 : (upd H7 p (.ins C dx [("points", .ref dP), ("book", .ref dB)])) dP = some (.dK k1) := by rw [upd_ne (ne_of P6 p6 (fun z => nomatch z))]; exact e7 _ _ P6
  have B8 : (upd H7 p (.ins C dx [("points", .ref dP), ("book", .ref dB)])) dB = some (.dK kB) := by rw [upd_ne (ne_of hB (e7 _ _ p6) (fun z => nomatch z))]; exact hB
  have qB8 : Dc kI (RdV K) W.rds kB (upd H7 p (.ins C dx [("points", .ref dP), ("book", .ref dB)])) := qB.mono fun a xs q => by
    rcases q with q | ⟨u, q⟩
    · exact .inl (by rw [upd_ne (ne_of q (e7 _ _ p6) (fun z => nomatch z))]; exact q)
    · exact .inr ⟨u, by rw [upd_ne (ne_of q (e7 _ _ p6) (fun z => nomatch z))]; exact q⟩
  show tSeq _ _ _ _ (upd H7 p (.ins C dx [("points", .ref dP), ("book", .ref dB)]))
  generalize upd H7 p (.ins C dx [("points", .ref dP), ("book", .ref dB)]) = H8 at b7 p8 P8 B8 qB8
  -- self.heads = tied(sorted(marks), [..])
  have ps2 : (W.rds.map fun r => (r.2.one, r.2.other)).length = W.rds.length := List.length_map _
  refine st_fldS (ev_call (S := fun v H => ∃ d hd, v = .ref d ∧ H d = some (.dK ((srt W.names).map fun n => (kS n, .str (hd n)))) ∧ HdOk (srt W.names) (W.rds.map fun r => (r.2.one, r.2.other)) hd)
    (ea_cons (R := LstV ((srt W.names).map V.str)) (Eva.imp (ev_sortedD (E := Same) (ks := W.names) (ev_var rfl) (.inl (b7 _ _ hd1 n1)) (mk_keys q1) (by omega)) (fun v H1 _ ⟨d, ed, hd, nb⟩ => ⟨d, ed, hd⟩))
      (ea_cons (R := PrsV K (W.rds.map fun r => (r.2.one, r.2.other))) (ev_lockE B8 fun H9 od e9 hd9 => ?_) ea_nil)) ?_) rfl p8 M.cl M.n_heads (by simp) ?_
  · have w9 : Wk H8 (upd H9 dB (.frz od (.dK kB))) := e9.wk.trans (Wk.lock hd9)
    apply Eva.imp
    refine ev_lc (n := kB.length) (b := fun _ => true) (R := fun i => TupV K [.str (W.rds.getD i (0, ⟨default, default, 0, 0, 0⟩)).2.one, .str (W.rds.getD i (0, ⟨default, default, 0, 0, 0⟩)).2.other])
      (ei_vals (ev_fld (ev_var rfl) (w9.ins _ _ _ _ p8) M.cl M.n_book rfl) upd_same) (by rw [qB8.length]; omega) ?_
    · rintro i x H' hi e ⟨kk, hk⟩
      obtain ⟨b, hb, _, hr⟩ := pget qB8 hk
      have eb : W.rds.getD i (0, ⟨default, default, 0, 0, 0⟩) = b := by
        rw [List.getD_eq_getElem?_getD, hb]; rfl
      rw [eb]
      refine ⟨_, tg_name, rfl, et_yes, fun _ => ev_cut2 (rest := [.int b.2.ac, .int b.2.up, .int b.2.wt]) (ev_varR rfl ?_) (by simp)⟩
      exact MonW.mono (w9.trans e.wk) (show TupV K _ x H8 from hr)
    · rintro v H' _ ⟨D, ys, rfl, hD, hys, _⟩
      rw [range_yes, qB8.length] at hys
      refine ⟨D, ys, rfl, hD, paired_of (by rw [hys.length, List.length_range, List.length_map]) fun i a b ha hb => ?_⟩
      obtain ⟨j, hj, r⟩ := pget hys ha
      rw [List.getElem?_map] at hb
      obtain ⟨c, hc, rfl⟩ := Option.map_eq_some_iff.mp hb
      have hi : i < W.rds.length := (List.getElem?_eq_some_iff.mp hc).1
      rw [List.getElem?_range hi] at hj
      cases hj
      have eb : W.rds.getD i (0, ⟨default, default, 0, 0, 0⟩) = c := by
        rw [List.getD_eq_getElem?_getD, hc]; rfl
      rw [eb] at r
      exact r
  · rintro vs H' e ⟨v, r, rfl, ⟨a, rfl, ha⟩, v', r', rfl, ⟨b, pvs, rfl, hb, hp'⟩, rfl⟩ Q' q'
    refine ⟨(srt W.names, W.rds.map fun r => (r.2.one, r.2.other)), ⟨⟨a, b, pvs, rfl, SqL.of ha, SqL.of hb, hp'⟩, ndn, fun p hp => ?_, by rw [srt_len]; omega⟩, fun v H2 e2 ⟨d, hd, ed, h1, h2⟩ => q' v H2 e2 ⟨d, hd, ed, h1, h2⟩⟩
    obtain ⟨⟨n, r⟩, hr, rfl⟩ := List.mem_map.mp hp
    have ro := ok.rd _ _ hr
    exact ⟨srt_mem.mpr ro.1, srt_mem.mpr ro.2.1⟩
  rintro _ H9 e9 ⟨dH, hd, rfl, hH, hok⟩
  have b9 : SameB p H (upd H9 p (.ins C dx [("points", .ref dP), ("book", .ref dB), ("heads", .ref dH)])) := fun b o e ne => by rw [upd_ne ne]; exact e9 _ _ (b7 _ _ e ne)
  have p10 : (upd H9 p (.ins C dx [("points", .ref dP), ("book", .ref dB), ("heads", .ref dH)])) p = some (.ins C dx [("points", .ref dP), ("book", .ref dB), ("heads", .ref dH)]) := upd_same
  have P10 : (upd H9 p (.ins C dx [("points", .ref dP), ("book", .ref dB), ("heads", .ref dH)])) dP = some (.dK k1) := by rw [upd_ne (ne_of P8 p8 (fun z => nomatch z))]; exact e9 _ _ P8
  have B10 : (upd H9 p (.ins C dx [("points", .ref dP), ("book", .ref dB), ("heads", .ref dH)])) dB = some (.dK kB) := by rw [upd_ne (ne_of B8 p8 (fun z => nomatch z))]; exact e9 _ _ B8
  have H10' : (upd H9 p (.ins C dx [("points", .ref dP), ("book", .ref dB), ("heads", .ref dH)])) dH = some (.dK ((srt W.names).map fun n => (kS n, .str (hd n)))) := by rw [upd_ne (ne_of hH (e9 _ _ p8) (fun z => nomatch z))]; exact hH
  have qB10 : Dc kI (RdV K) W.rds kB (upd H9 p (.ins C dx [("points", .ref dP), ("book", .ref dB), ("heads", .ref dH)])) := (qB8.mono e9.wk.tup).mono fun a xs q => by
    rcases q with q | ⟨u, q⟩
    · exact .inl (by rw [upd_ne (ne_of q (e9 _ _ p8) (fun z => nomatch z))]; exact q)
    · exact .inr ⟨u, by rw [upd_ne (ne_of q (e9 _ _ p8) (fun z => nomatch z))]; exact q⟩
  show sFld _ _ _ _ _ _ (upd H9 p (.ins C dx [("points", .ref dP), ("book", .ref dB), ("heads", .ref dH)]))
  generalize upd H9 p (.ins C dx [("points", .ref dP), ("book", .ref dB), ("heads", .ref dH)]) = H10 at b9 p10 P10 B10 H10' qB10
  -- self.ground = {..}
  refine st_fldL (ev_lockE (R := DcIs (((List.range k1.length).filter fun i => (W.mks.getD i (default, none)).2.isSome).foldl (fun acc i => putK acc (kS (hd (W.mks.getD i (default, none)).1)) (.bl true)) [])) (b9 _ _ hd1 n1) fun H11 od e11 hd11 => ?_) rfl p10 M.cl M.n_ground (by simp) ?_
  · have w11 : Wk H10 (upd H11 d1 (.frz od (.dK k1))) := e11.wk.trans (Wk.lock hd11)
    apply Eva.imp
    refine ev_dcV (n := k1.length) (b := fun i => (W.mks.getD i (default, none)).2.isSome) (kk := fun i => kS (hd (W.mks.getD i (default, none)).1)) (vv := fun _ => .bl true) (ei_items (K := K) (d := d1) (ev_var rfl) upd_same) (by
      rw [q1.length]; have := ok.len; omega) ?_
    · rintro i x H' hi e ⟨kk, vv, hk, hT⟩
      obtain ⟨b, hb, r1, r2⟩ := pget q1 hk
      have eb : W.mks.getD i (default, none) = b := by
        rw [List.getD_eq_getElem?_getD, hb]; rfl
      obtain ⟨m, o'⟩ := b
      have r1 : kk = kS m := r1
      subst r1
      have r2 : AtV K o' vv H := r2
      rw [eb]
      have hmn : m ∈ W.names := List.mem_map.mpr ⟨_, List.mem_of_getElem? hb, rfl⟩
      refine ⟨_, tg_tup hT rfl fun Q q => ⟨_, _, rfl, _, _, rfl, rfl, q⟩, rfl, EvT.is (et_test (ev_notN (ev_var rfl))) ?_, fun _ => ⟨ev_dget (k := kS m) (ev_fld (ev_var rfl) ((w11.trans e.wk).ins _ _ _ _ p10) M.cl M.n_heads rfl) ((w11.trans e.wk).dic _ _ (.inl H10')) (ev_var rfl) (valV_map_str (srt_mem.mpr hmn)), ev_c⟩⟩
      cases o' with
      | none => cases (show vv = .non from r2); rfl
      | some q => obtain ⟨a, rfl, _⟩ := (show TupV K _ vv H from r2); rfl
    · rintro v H' _ ⟨D, rfl, hD, _⟩
      exact ⟨D, rfl, hD⟩
  rintro _ H12 e12 ⟨dG, rfl, hG⟩
  obtain ⟨kG, hkG⟩ : ∃ kG, kG = (((List.range k1.length).filter fun i => (W.mks.getD i (default, none)).2.isSome).foldl (fun acc i => putK acc (kS (hd (W.mks.getD i (default, none)).1)) (.bl true)) []) := ⟨_, rfl⟩
  rw [← hkG] at hG
  have b13 : SameB p H (upd H12 p (.ins C dx (flds dP dB dH dG))) := fun b o e ne => by rw [upd_ne ne]; exact e12 _ _ (b9 _ _ e ne)
  refine k _ ⟨p, dP, dB, dH, dG, k1, kB, (srt W.names).map fun n => (kS n, .str (hd n)), kG, rfl, ⟨dx, upd_same⟩, .inl ?_, ?_, .inl ?_, ?_, .inl ?_, .inl ?_, ?_⟩ b13
  · rw [upd_ne (ne_of P10 p10 (fun z => nomatch z))]; exact e12 _ _ P10
  · exact q1.mono (tupB b13)
  · rw [upd_ne (ne_of B10 p10 (fun z => nomatch z))]; exact e12 _ _ B10
  · refine (qB10.mono e12.wk.tup).mono fun a xs q => ?_
    rcases q with q | ⟨u, q⟩
    · exact .inl (by rw [upd_ne (ne_of q (e12 _ _ p10) (fun z => nomatch z))]; exact q)
    · exact .inr ⟨u, by rw [upd_ne (ne_of q (e12 _ _ p10) (fun z => nomatch z))]; exact q⟩
  · rw [upd_ne (ne_of H10' p10 (fun z => nomatch z))]; exact e12 _ _ H10'
  · rw [upd_ne (ne_of hG (e12 _ _ p10) (fun z => nomatch z))]; exact hG
  · intro m hm
    refine ⟨hd m, valV_map_str (srt_mem.mpr hm), ?_⟩
    rw [hkG, valV_fold, Bool.eq_iff_iff, Wd.hg_iff, sur_pairs ok]
    have hkl : k1.length = W.mks.length := q1.length
    simp only [valV_nil, Option.isSome_none, Bool.false_or, List.any_eq_true, List.mem_filter, List.mem_range, decide_eq_true_eq]
    constructor
    · rintro ⟨i, ⟨hi, hf⟩, e⟩
      have hx : W.mks[i]? = some (W.mks.getD i (default, none)) := by simp [show i < W.mks.length by omega]
      generalize W.mks.getD i (default, none) = b at hx hf e
      obtain ⟨f', o'⟩ := b
      obtain ⟨q, rfl⟩ := Option.isSome_iff_exists.mp hf
      have hmem := List.mem_of_getElem? hx
      refine ⟨f', q, hmem, ?_⟩
      exact (hok m (srt_mem.mpr hm) f' (srt_mem.mpr (List.mem_map.mpr ⟨_, hmem, rfl⟩))).mp (Sum.inr.inj e).symm
    · rintro ⟨f', q, hf, c⟩
      obtain ⟨i, hx⟩ := List.getElem?_of_mem hf
      have hi : i < W.mks.length := (List.getElem?_eq_some_iff.mp hx).1
      have eb : W.mks.getD i (default, none) = (f', some q) := by
        rw [List.getD_eq_getElem?_getD, hx]; rfl
      refine ⟨i, ⟨by omega, by rw [eb]; rfl⟩, ?_⟩
      rw [eb]
      exact congrArg kS ((hok m (srt_mem.mpr hm) f' (srt_mem.mpr (List.mem_map.mpr ⟨_, hf, rfl⟩))).mpr c).symm
end
end Gm

set_option maxHeartbeats 4000000
namespace Gm
open PySem PySem.Spec PyProof.Rows L2
theorem range_filter_getD {α β : Type} [Inhabited α] (p : α → Bool) (f : α → β) (xs : List α) : ((List.range xs.length).filter (fun i => p (xs.getD i default))).map (fun i => f (xs.getD i default)) = (xs.filter p).map f := by
  have h := range_map_getD (fun x : α => x) xs
  rw [List.map_id'] at h
  conv => rhs; rw [← h]
  rw [List.filter_map, List.map_map]
  rfl
theorem paired_is {vv : Nat → V} {H : Hp} : ∀ {ys : List V} {l : List Nat}, Paired (fun y i => Is (vv i) y H) ys l → ys = l.map vv
  | _, _, .nil => rfl
  | y :: ys, i :: l, .cons r t => by
    have h1 : y = vv i := r
    rw [List.map_cons, ← paired_is t, h1]
namespace Wd
theorem fx_none {W : Wd} {m : Str} {o : Option (Int × Int)} (h : W.mks.find? (fun x => decide (x.1 = m)) = some (m, o)) : W.fx m = o := by
  unfold fx; rw [h]; rfl
theorem hung_eq (W : Wd) : W.hung = (srt W.names).filter W.hg := (srt_filter _ _).symm
theorem free_eq (W : Wd) : W.free = (srt W.names).filter fun m => (W.fx m).isNone && W.hg m := by
  unfold free; rw [hung_eq, List.filter_filter]
theorem hung_nodup {W : Wd} (ok : W.Ok) : W.hung.Nodup := by rw [hung_eq]; exact (srt_nodup ok.nd).filter _
theorem free_nodup {W : Wd} (ok : W.Ok) : W.free.Nodup := (hung_nodup ok).filter _
theorem hung_mem {W : Wd} {m : Str} : m ∈ W.hung ↔ m ∈ W.names ∧ W.Hang m := by rw [hung_eq, List.mem_filter, srt_mem, hg_iff]
theorem free_mem {W : Wd} {m : Str} : m ∈ W.free ↔ m ∈ W.hung ∧ W.fx m = none := by unfold free; rw [List.mem_filter, Option.isNone_iff_eq_none]
theorem hung_len {W : Wd} (ok : W.Ok) : W.hung.length ≤ 8 := by
  rw [hung_eq]
  refine Nat.le_trans (List.length_filter_le _ _) ?_
  rw [srt_len]; unfold names; rw [List.length_map]; exact ok.len
theorem free_len {W : Wd} (ok : W.Ok) : W.free.length ≤ 8 := Nat.le_trans (List.length_filter_le _ _) (hung_len ok)
end Wd
section
variable {P : Program} {w : World} {K : PySem.W.Frag} {mg : Str → Option Value} {base : Heap} {aN : Addr} {uM uW uL : Value} {C fI fM fR fN fH : Addr} {fdM fdR fdN fdH : FuncData}
/-- the methods' promises, together -/
structure Mts (P : Program) (w : World) (K : PySem.W.Frag) (mg : Str → Option Value) (base : Heap) (C fI fM fR fN fH : Addr) (fdM fdR fdN fdH : FuncData) : Prop where
  M : SurM K mg C fI fM fR fN fH
  m : MFn P w K mg base 1 fM fdM ["self"] (spMarks K C)
  r : MFn P w K mg base 1 fR fdR ["self"] (spReadings K C)
  n : MFn P w K mg base 1 fN fdN ["self"] (spNames K C)
  h : MFn P w K mg base 1 fH fdH ["self", "name"] (spHangs K C)
section
variable {σ : L2.St} {H : Hp} {te tn : TE} {W : Wd} {v : V} {X : XK}
theorem flds_no {dP dB dH dG : Addr} {m : Str} (h1 : (m == ("points" : Str)) = false) (h2 : (m == ("book" : Str)) = false) (h3 : (m == ("heads" : Str)) = false) (h4 : (m == ("ground" : Str)) = false) : (flds dP dB dH dG).lookup m = none := by
  simp only [flds, List.lookup, h1, h2, h3, h4]
/-- survey.marks() .. as evaluations -/
theorem ev_SpG {α : Type} {Pre : α → List V → Hp → Prop} {Post : α → V → Hp → Prop} {vs : List V} {H H1 : Hp} {Q : VK} {X : XK} (x : α) (h : Pre x vs H1) (q : ∀ v H2, Same H1 H2 → Post x v H2 → Q v H2) : SpG Pre Post vs H1 Q X := ⟨x, h, q⟩
theorem sur_ins (h : SurV K C W v H) : ∃ a dx dP dB dH dG, v = .ref a ∧ H a = some (.ins C dx (flds dP dB dH dG)) := by
  obtain ⟨a, dP, dB, dH, dG, kP, kB, kH, kG, e, s⟩ := h
  obtain ⟨dx, ho⟩ := s.ob
  exact ⟨a, dx, dP, dB, dH, dG, e, ho⟩
theorem ev_marks (h : Eva Same te σ H (Is v)) (hs : SurV K C W v H) : EvaN (tMeth C "marks" (spMarks K C) [] X te tNil) σ H (DcX kS (AtV K) W.mks) := by
  obtain ⟨a, dx, dP, dB, dH, dG, rfl, ho⟩ := sur_ins hs
  refine fun H1 e Q q => h H1 e _ fun x H2 e2 rx => ⟨a, dx, _, rx, (e.trans e2) _ _ ho, flds_no (by decide +kernel) (by decide +kernel) (by decide +kernel) (by decide +kernel), ?_⟩
  rw [show x = V.ref a from rx]
  exact ⟨W, ⟨_, rfl, MonW.mono (e.trans e2).wk hs⟩, fun d H3 e3 n r => q d H3 (e2.trans e3) (e2.free n) r⟩
theorem ev_readings (h : Eva Same te σ H (Is v)) (hs : SurV K C W v H) : EvaN (tMeth C "readings" (spReadings K C) [] X te tNil) σ H (DcX kI (RdV K) W.rds) := by
  obtain ⟨a, dx, dP, dB, dH, dG, rfl, ho⟩ := sur_ins hs
  refine fun H1 e Q q => h H1 e _ fun x H2 e2 rx => ⟨a, dx, _, rx, (e.trans e2) _ _ ho, flds_no (by decide +kernel) (by decide +kernel) (by decide +kernel) (by decide +kernel), ?_⟩
  rw [show x = V.ref a from rx]
  exact ⟨W, ⟨_, rfl, MonW.mono (e.trans e2).wk hs⟩, fun d H3 e3 n r => q d H3 (e2.trans e3) (e2.free n) r⟩
theorem ev_names (h : Eva Same te σ H (Is v)) (hs : SurV K C W v H) (ok : W.Ok) : Eva Same (tMeth C "names" (spNames K C) [] X te tNil) σ H (LstV ((srt W.names).map V.str)) := by
  obtain ⟨a, dx, dP, dB, dH, dG, rfl, ho⟩ := sur_ins hs
  refine ev_meth h ho (flds_no (by decide +kernel) (by decide +kernel) (by decide +kernel) (by decide +kernel)) ea_nil fun vs H1 e1 ra Q q => ?_
  subst ra
  exact ⟨W, ⟨⟨_, rfl, MonW.mono e1.wk hs⟩, ok⟩, q⟩
theorem ev_hangs {m : Str} (h : Eva Same te σ H (Is v)) (hs : SurV K C W v H) (hn : Eva Same tn σ H (Is (.str m))) (hm : m ∈ W.names) : Eva Same (tMeth C "hangs" (spHangs K C) [] X te (tCons tn tNil)) σ H (Is (.bl (W.hg m))) := by
  obtain ⟨a, dx, dP, dB, dH, dG, rfl, ho⟩ := sur_ins hs
  refine ev_meth h ho (flds_no (by decide +kernel) (by decide +kernel) (by decide +kernel) (by decide +kernel)) (ea_cons hn ea_nil) fun vs H1 e1 ra Q q => ?_
  obtain ⟨v, r, rfl, hv, rfl⟩ := ra
  rw [show v = _ from hv]
  exact ⟨(W, m), ⟨⟨_, rfl, MonW.mono e1.wk hs⟩, hm⟩, q⟩
end
def PreSur (K : PySem.W.Frag) (C : Addr) (W : Wd) : List V → Hp → Prop := fun vs H => (∃ v, vs = [v] ∧ SurV K C W v H) ∧ W.Ok
noncomputable def spFree (K : PySem.W.Frag) (C : Addr) : Sp := SpG (α := Wd) (PreSur K C) (fun W => LstV (W.free.map V.str))
theorem ok_free_marks (D : DefAt K mg "free_marks" s_free_marks) (Z : Mts P w K mg base C fI fM fR fN fH fdM fdR fdN fdH) : Cal P w K mg base 2 "free_marks" ["survey"] (spFree K C) := by
  refine D.cal 1 sc_free_marks (fun _ _ _ _ _ _ us hl => match us, hl with | [_], _ => rfl) (fun vs H Q E h => ?_) (fun f cdv A outer s H vs Q E hr h => ?_)
  · obtain ⟨x, ⟨⟨_, rfl, _⟩, _⟩, _⟩ := h; rfl
  obtain ⟨W, ⟨⟨v, rfl, hs⟩, ok⟩, k⟩ := h
  obtain ⟨M, c_Survey_marks, c_Survey_readings, c_Survey_names, c_Survey_hangs⟩ := Z
  refine ⟨_, (pss_cons (ps_set (i := 1) sc_free_marks.nd rfl (Or.inr rfl) (pe_meth0 (pv 0) M.cl M.marks c_Survey_marks.F (hr.mono (by decide)) c_Survey_marks.b .nil pass0))
      (pss_one (ps_ret (pe_lc (own := [("name", 2)]) (g := (gName 2)) rfl sc_free_marks.nd (pi_list (pe_meth0 (pv 0) M.cl M.names c_Survey_names.F (hr.mono (by decide)) c_Survey_names.b .nil pass0)) (blkOk_by (N := n_free_marks) (sc := defScope s_free_marks) (own := [("name", 2)]) (by decide +kernel)) (fun _ _ _ _ _ => (pg_name (i := 2) sc_free_marks.nd rfl (Or.inl rfl))) (fun _ _ _ _ _ => pts_one (PW.pt (pw_and (pt_cmpR op_isN (pe_dget (hu_of hr) (pv 1) (pv 2) (fun _ _ => rfl)) pe_non (nomark _)) (pw_and1 (pt_val (pe_meth (pv 0) M.cl M.hangs c_Survey_hangs.F (hr.mono (by decide)) c_Survey_hangs.b .nil pass0 (pa_cons (pv 2) pa_nil))))))) (fun _ _ _ _ _ => (pv 2)))))), ?_⟩
  refine st_set (E := Same) (ev_marks (ev_var rfl) hs).eva (Same.refl _) ?_
  rintro _ H1 e1 ⟨d, kP, rfl, hd, hk⟩
  refine st_ret (E := Same) (ev_lc (n := ((srt W.names).map V.str).length) (b := fun i => (W.fx ((srt W.names).getD i default)).isNone && W.hg ((srt W.names).getD i default)) (R := fun i => Is (.str ((srt W.names).getD i default)))
    (ei_list (Eva.imp (ev_names (ev_var rfl) (MonW.mono e1.wk hs) ok) (fun v H2 _ ⟨a, ea, ha⟩ => ⟨a, ea, SqL.of ha, fun z => z⟩))) (by
      rw [List.length_map, srt_len]; unfold Wd.names; rw [List.length_map]; have := ok.len; omega) ?_) (Same.refl _) ?_
  · rintro i x H' hi e y
    have hx : (srt W.names)[i]? = some ((srt W.names).getD i default) := by
      have : i < (srt W.names).length := by simpa using hi
      simp [this]
    rw [List.getElem?_map, hx] at y
    have y := Option.some.inj y
    subst y
    have hm : (srt W.names).getD i default ∈ W.names := srt_mem.mp (List.mem_of_getElem? hx)
    generalize (srt W.names).getD i default = m at hm
    obtain ⟨⟨m', o'⟩, vv, hx1, rfl, hv1, hv2, hf⟩ := hk.has inr_inj hm
    rw [Wd.fx_none hf]
    refine ⟨_, tg_name, rfl, EvT.is (et_and (et_test (ev_isN (ev_dget (k := kS m') (ev_var rfl) (.inl (e _ _ hd)) (ev_var rfl) hv1))) fun _ => et_B (ev_hangs (ev_var rfl) (MonW.mono (e1.trans e).wk hs) (ev_var rfl) hm)) ?_, fun _ => ev_var rfl⟩
    congr 1
    cases o' with
    | none => cases (show vv = .non from hv2); rfl
    | some q => obtain ⟨a, rfl, _⟩ := (show TupV K _ vv H1 from hv2); rfl
  · rintro v H2 e2 ⟨D, ys, rfl, hD, hys, _⟩
    refine k _ _ (e1.trans e2) ⟨D, rfl, ?_⟩
    rw [hD, paired_is hys, List.length_map, Wd.free_eq]
    exact congrArg (fun l => some (HO.lst l)) (range_filter_getD (fun m => (W.fx m).isNone && W.hg m) V.str (srt W.names))
end
end Gm

set_option maxHeartbeats 4000000
namespace Gm
open PySem PySem.Spec PyProof.Rows L2
/-! ### sizes: q times D is a whole number of at most b bits -/
def Nq (D b : Nat) (q : Rat) : Prop := ∃ m : Int, q * (D : Rat) = (m : Rat) ∧ m.natAbs ≤ 2 ^ b
theorem pow_add_le {b c e : Nat} (h1 : b ≤ e) (h2 : c ≤ e) : 2 ^ b + 2 ^ c ≤ 2 ^ (e + 1) := by
  have := Nat.pow_le_pow_right (show 0 < 2 by decide) h1
  have := Nat.pow_le_pow_right (show 0 < 2 by decide) h2
  rw [Nat.pow_succ]; omega
theorem Nq.mono {D b c : Nat} {q : Rat} (h : Nq D b q) (hc : b ≤ c) : Nq D c q := by
  obtain ⟨m, e, l⟩ := h
  exact ⟨m, e, Nat.le_trans l (Nat.pow_le_pow_right (by decide) hc)⟩
theorem Nq.add {D b c e : Nat} {p q : Rat} (h : Nq D b p) (g : Nq D c q) (h1 : b ≤ e) (h2 : c ≤ e) : Nq D (e + 1) (p + q) := by
  obtain ⟨m, e1, l1⟩ := h
  obtain ⟨n, e2, l2⟩ := g
  refine ⟨m + n, by rw [Rat.add_mul, e1, e2, Rat.intCast_add], ?_⟩
  have := pow_add_le h1 h2
  omega
theorem Nq.sub {D b c e : Nat} {p q : Rat} (h : Nq D b p) (g : Nq D c q) (h1 : b ≤ e) (h2 : c ≤ e) : Nq D (e + 1) (p - q) := by
  obtain ⟨m, e1, l1⟩ := h
  obtain ⟨n, e2, l2⟩ := g
  refine ⟨m - n, by rw [Rat.intCast_sub, ← e1, ← e2]; grind, ?_⟩
  have := pow_add_le h1 h2
  omega
theorem Nq.mul {D D' b c : Nat} {p q : Rat} (h : Nq D b p) (g : Nq D' c q) : Nq (D * D') (b + c) (p * q) := by
  obtain ⟨m, e1, l1⟩ := h
  obtain ⟨n, e2, l2⟩ := g
  refine ⟨m * n, by rw [Rat.intCast_mul, Rat.natCast_mul, ← e1, ← e2]; grind, ?_⟩
  rw [Int.natAbs_mul, Nat.pow_add]
  exact Nat.mul_le_mul l1 l2
theorem Nq.int {D d b : Nat} (n : Int) (hD : D ≤ 2 ^ d) (hn : n.natAbs ≤ 2 ^ b) : Nq D (b + d) (n : Rat) := by
  refine ⟨n * D, by rw [Rat.intCast_mul, Rat.intCast_natCast], ?_⟩
  rw [Int.natAbs_mul, Int.natAbs_natCast, Nat.pow_add]
  exact Nat.mul_le_mul hn hD
theorem Nq.zero {D b : Nat} : Nq D b 0 := ⟨0, by rw [Rat.zero_mul]; rfl, by simp⟩
theorem Nq.scale {D b c k : Nat} {q : Rat} (h : Nq D b q) (hk : k ≤ 2 ^ c) : Nq (k * D) (b + c) q := by
  obtain ⟨m, e, l⟩ := h
  refine ⟨m * k, by rw [Rat.intCast_mul, Rat.natCast_mul, Rat.intCast_natCast, ← e]; grind, ?_⟩
  rw [Int.natAbs_mul, Int.natAbs_natCast, Nat.pow_add]
  exact Nat.mul_le_mul l hk
theorem Nq.den {D b : Nat} {q : Rat} (hD : 0 < D) (h : Nq D b q) : q.den ∣ D ∧ q.num.natAbs ≤ 2 ^ b := by
  obtain ⟨m, e, l⟩ := h
  have hq : q = (q.num : Rat) / (q.den : Rat) := by
    have h := Rat.divInt_eq_div q.num (q.den : Int)
    rw [Rat.num_divInt_den] at h
    exact h
  have dne : (q.den : Rat) ≠ 0 := by
    have := q.den_pos
    intro z
    have : ((q.den : Nat) : Rat).num = 0 := by rw [z]; rfl
    simp at this
    omega
  have e2 : (q.num : Rat) * (D : Rat) = (m : Rat) * (q.den : Rat) := by
    rw [← e]
    conv => rhs; rw [hq]
    grind
  have e3 : q.num * (D : Int) = m * (q.den : Int) := by
    have : ((q.num * (D : Int) : Int) : Rat) = ((m * (q.den : Int) : Int) : Rat) := by
      rw [Rat.intCast_mul, Rat.intCast_mul, Rat.intCast_natCast, Rat.intCast_natCast]; exact e2
    exact Rat.intCast_inj.mp this
  have e4 : q.num.natAbs * D = m.natAbs * q.den := by
    have := congrArg Int.natAbs e3
    rw [Int.natAbs_mul, Int.natAbs_mul, Int.natAbs_natCast, Int.natAbs_natCast] at this
    exact this
  have d1 : q.den ∣ D := (Nat.Coprime.symm q.reduced).dvd_of_dvd_mul_left (by rw [e4]; exact Nat.dvd_mul_left _ _)
  refine ⟨d1, ?_⟩
  obtain ⟨c, hc⟩ := d1
  have hp := q.den_pos
  have cpos : 0 < c := by
    rcases Nat.eq_zero_or_pos c with z | z
    · rw [z] at hc; omega
    · exact z
  have e5 : q.num.natAbs * c = m.natAbs := by
    apply Nat.eq_of_mul_eq_mul_right hp
    rw [← e4, hc, Nat.mul_assoc, Nat.mul_comm c]
  have : q.num.natAbs ≤ q.num.natAbs * c := Nat.le_mul_of_pos_right _ cpos
  omega
theorem Nq.sm {D d b : Nat} {q : Rat} (h : Nq D b q) (hD : 0 < D) (hd : D < 2 ^ d) (h1 : d ≤ 4400) (h2 : b < 100000) : Sm q := by
  obtain ⟨x, y⟩ := h.den hD
  refine ⟨Nat.lt_of_le_of_lt (Nat.le_of_dvd hD x) (Nat.lt_of_lt_of_le hd (Nat.pow_le_pow_right (by decide) h1)), Nat.lt_of_le_of_lt y (Nat.pow_lt_pow_right (by decide) h2)⟩

/-! ### placings -/
abbrev PlL := List (Str × (Rat × Rat))
def lk (pl : PlL) (m : Str) : Option (Rat × Rat) := (pl.find? fun x => decide (x.1 = m)).map (·.2)
/-- its numbers have a common denominator below 2 ^ 2000 and are not great -/
def PlOk (pl : PlL) : Prop := ∃ D : Nat, 0 < D ∧ D < 2 ^ 2000 ∧ ∀ x ∈ pl, Nq D 6000 x.2.1 ∧ Nq D 6000 x.2.2
theorem lk_mem {pl : PlL} {m : Str} {s : Rat × Rat} (h : lk pl m = some s) : (m, s) ∈ pl := by
  unfold lk at h
  obtain ⟨x, hx, rfl⟩ := Option.map_eq_some_iff.mp h
  have := List.find?_some hx
  have e : x.1 = m := by simpa using this
  have := List.mem_of_find?_eq_some hx
  rw [← e]; exact this
def restF (r : Rdg) (a b : Rat × Rat) : Rat × Rat := (b.1 - a.1 - (r.ac : Rat), b.2 - a.2 - (r.up : Rat))
/-- the rest of a reading, where both marks are placed -/
def restO (pl : PlL) (r : Rdg) : Option (Rat × Rat) := match lk pl r.one, lk pl r.other with
  | some a, some b => some (restF r a b)
  | _, _ => none
def restsF (pl : PlL) (rds : List (Int × Rdg)) : List (Int × (Rat × Rat)) := rds.filterMap fun x => (restO pl x.2).map fun s => (x.1, s)
/-- weight times squares -/
def partF (w : Int) (s : Rat × Rat) : Rat := (w : Rat) * (s.1 * s.1 + s.2 * s.2)
def costL (pl : PlL) (rds : List (Int × Rdg)) : List Rat := rds.filterMap fun x => (restO pl x.2).map fun s => partF x.2.wt s
def costF (pl : PlL) (rds : List (Int × Rdg)) : Rat := tot (costL pl rds)
/-- a reading's bounds -/
structure RdB (r : Rdg) : Prop where
  a : -12 ≤ r.ac ∧ r.ac ≤ 12
  u : -12 ≤ r.up ∧ r.up ≤ 12
  w : 1 ≤ r.wt ∧ r.wt ≤ 9
theorem Wd.Ok.rdb {W : Wd} (ok : W.Ok) {n : Int} {r : Rdg} (h : (n, r) ∈ W.rds) : RdB r := by
  have := ok.rd n r h
  exact ⟨⟨this.2.2.2.1, this.2.2.2.2.1⟩, ⟨this.2.2.2.2.2.1, this.2.2.2.2.2.2.1⟩, this.2.2.2.2.2.2.2⟩
/-- sizes of what is reckoned of a placing -/
theorem nq_gap {D : Nat} {a b : Rat} (ha : Nq D 6000 a) (hb : Nq D 6000 b) : Nq D 6001 (b - a) := hb.sub ha (Nat.le_refl _) (Nat.le_refl _)
theorem nq_small {D : Nat} {n : Int} (hD : D < 2 ^ 2000) (hn : n.natAbs ≤ 2 ^ 10) : Nq D 2010 (n : Rat) := (Nq.int (d := 2000) (b := 10) n (Nat.le_of_lt hD) hn)
theorem nq_rest {D : Nat} {a b : Rat} {n : Int} (hD : D < 2 ^ 2000) (ha : Nq D 6000 a) (hb : Nq D 6000 b) (hn : n.natAbs ≤ 2 ^ 10) : Nq D 6002 (b - a - (n : Rat)) := (nq_gap ha hb).sub (nq_small hD hn) (Nat.le_refl _) (by decide)
theorem sm_of {D b : Nat} {q : Rat} (h : Nq D b q) (h0 : 0 < D) (hD : D < 2 ^ 2000) (hb : b < 100000) : Sm q := h.sm h0 hD (by decide) hb
theorem sm_of2 {D b : Nat} {q : Rat} (h : Nq (D * D) b q) (h0 : 0 < D) (hD : D < 2 ^ 2000) (hb : b < 100000) : Sm q := by
  refine h.sm (d := 4000) (Nat.mul_pos h0 h0) ?_ (by decide) hb
  have : (2 : Nat) ^ 4000 = 2 ^ 2000 * 2 ^ 2000 := by rw [← Nat.pow_add]
  rw [this]
  exact Nat.mul_lt_mul'' hD hD
theorem sm_int {n : Int} (hn : n.natAbs ≤ 2 ^ 100) : Sm (n : Rat) := by
  refine ⟨by show 1 < 2 ^ 4400; exact Nat.one_lt_two_pow (by decide), ?_⟩
  show n.natAbs < 2 ^ 100000
  exact Nat.lt_of_le_of_lt hn (Nat.pow_lt_pow_right (by decide) (by decide))
theorem Nq.smul {D b c : Nat} {n : Int} {q : Rat} (h : Nq D b q) (hn : n.natAbs ≤ 2 ^ c) : Nq D (b + c) ((n : Rat) * q) := by
  obtain ⟨m, e, l⟩ := h
  refine ⟨n * m, by rw [Rat.intCast_mul, ← e]; grind, ?_⟩
  rw [Int.natAbs_mul, Nat.pow_add, Nat.mul_comm (2 ^ b)]
  exact Nat.mul_le_mul hn l
theorem tot_nqB {D b : Nat} : ∀ (qs : List Rat) (acc : Rat) (k : Nat), (∀ q ∈ qs, Nq D b q) → (∃ m : Int, acc * (D : Rat) = (m : Rat) ∧ m.natAbs ≤ k * 2 ^ b) → ∃ m : Int, qs.foldl (· + ·) acc * (D : Rat) = (m : Rat) ∧ m.natAbs ≤ (k + qs.length) * 2 ^ b
  | [], acc, k, _, h => by simpa using h
  | q :: qs, acc, k, hq, ⟨m, e, l⟩ => by
    obtain ⟨m', e', l'⟩ := hq q List.mem_cons_self
    have := tot_nqB qs (acc + q) (k + 1) (fun q' h => hq q' (List.mem_cons_of_mem _ h)) ⟨m + m', by rw [Rat.add_mul, e, e', Rat.intCast_add], by
      rw [Nat.add_mul, Nat.one_mul]; omega⟩
    rw [List.foldl_cons, List.length_cons]
    rw [show k + (qs.length + 1) = k + 1 + qs.length by omega]
    exact this
theorem tot_nq {D b c : Nat} {qs : List Rat} (h : ∀ q ∈ qs, Nq D b q) (hl : qs.length ≤ 2 ^ c) : Nq D (b + c) (tot qs) := by
  obtain ⟨m, e, l⟩ := tot_nqB qs 0 0 h ⟨0, by rw [Rat.zero_mul]; rfl, by simp⟩
  refine ⟨m, e, Nat.le_trans l ?_⟩
  rw [Nat.pow_add, Nat.mul_comm (2 ^ b), Nat.zero_add]
  exact Nat.mul_le_mul_right _ hl
theorem restO_some {pl : PlL} {r : Rdg} {s : Rat × Rat} (h : restO pl r = some s) : ∃ a b, lk pl r.one = some a ∧ lk pl r.other = some b ∧ s = restF r a b := by
  unfold restO at h
  cases e1 : lk pl r.one with
  | none => rw [e1] at h; cases h
  | some a =>
    cases e2 : lk pl r.other with
    | none => rw [e1, e2] at h; cases h
    | some b => rw [e1, e2] at h; cases h; exact ⟨a, b, rfl, rfl, rfl⟩
theorem small_pow {n : Int} {k : Nat} (h : n.natAbs ≤ 999) (hk : 10 ≤ k) : n.natAbs ≤ 2 ^ k := by
  have := Nat.pow_le_pow_right (show 0 < 2 by decide) hk
  omega
theorem nq_restO {pl : PlL} {D : Nat} {r : Rdg} {s : Rat × Rat} (hD : D < 2 ^ 2000) (hN : ∀ x ∈ pl, Nq D 6000 x.2.1 ∧ Nq D 6000 x.2.2) (rb : RdB r) (h : restO pl r = some s) : Nq D 6002 s.1 ∧ Nq D 6002 s.2 := by
  obtain ⟨a, b, ha, hb, rfl⟩ := restO_some h
  have na := hN _ (lk_mem ha)
  have nb := hN _ (lk_mem hb)
  have := rb.a
  have := rb.u
  exact ⟨nq_rest hD na.1 nb.1 (small_pow (by omega) (by decide)), nq_rest hD na.2 nb.2 (small_pow (by omega) (by decide))⟩
theorem nq_sq {D : Nat} {x : Rat} (h : Nq D 6002 x) : Nq (D * D) 12004 (x * x) := h.mul h
theorem nq_part {D : Nat} {s : Rat × Rat} {w : Int} (hw : 1 ≤ w ∧ w ≤ 9) (h : Nq D 6002 s.1 ∧ Nq D 6002 s.2) : Nq (D * D) 12009 (partF w s) :=
  ((nq_sq h.1).add (nq_sq h.2) (Nat.le_refl _) (Nat.le_refl _)).smul (c := 4) (by omega)
/-- the readings of which both marks are placed, with their rests -/
def restsT (pl : PlL) (rds : List (Int × Rdg)) : List ((Int × Rdg) × (Rat × Rat)) := rds.filterMap fun x => (restO pl x.2).map fun s => (x, s)
theorem restsF_T (pl : PlL) (rds : List (Int × Rdg)) : restsF pl rds = (restsT pl rds).map fun t => (t.1.1, t.2) := by
  unfold restsF restsT
  rw [List.map_filterMap]
  congr 1
  funext x
  cases restO pl x.2 <;> rfl
theorem costL_T (pl : PlL) (rds : List (Int × Rdg)) : costL pl rds = (restsT pl rds).map fun t => partF t.1.2.wt t.2 := by
  unfold costL restsT
  rw [List.map_filterMap]
  congr 1
  funext x
  cases restO pl x.2 <;> rfl
theorem restsT_mem {pl : PlL} {rds : List (Int × Rdg)} {t : (Int × Rdg) × (Rat × Rat)} (h : t ∈ restsT pl rds) : t.1 ∈ rds ∧ restO pl t.1.2 = some t.2 := by
  obtain ⟨x, hx, e⟩ := List.mem_filterMap.mp h
  obtain ⟨s, hs, rfl⟩ := Option.map_eq_some_iff.mp e
  exact ⟨hx, hs⟩
theorem Wd.Ok.find {W : Wd} (ok : W.Ok) {n : Int} {r : Rdg} (h : (n, r) ∈ W.rds) : W.rds.find? (fun x => decide (x.1 = n)) = some (n, r) := by
  obtain ⟨⟨n', r'⟩, q, e, hx⟩ := find_mem (k := n) (List.mem_map.mpr ⟨_, h, rfl⟩)
  have e : n' = n := e
  subst e
  obtain ⟨i1, h1⟩ := List.getElem?_of_mem hx
  obtain ⟨i2, h2⟩ := List.getElem?_of_mem h
  have g1 : (W.rds.map (·.1))[i1]? = some n' := by rw [List.getElem?_map, h1]; rfl
  have g2 : (W.rds.map (·.1))[i2]? = some n' := by rw [List.getElem?_map, h2]; rfl
  have := nd_ix (ok.rnum.imp fun h => Int.ne_of_lt h) g1 g2
  subst this
  rw [h1] at h2
  cases h2
  exact q
theorem costL_len {pl : PlL} {W : Wd} (ok : W.Ok) : (costL pl W.rds).length ≤ 22 := Nat.le_trans (List.length_filterMap_le _ _) ok.rlen
theorem costL_nq {pl : PlL} {W : Wd} {D : Nat} (ok : W.Ok) (D1 : D < 2 ^ 2000) (hN : ∀ x ∈ pl, Nq D 6000 x.2.1 ∧ Nq D 6000 x.2.2) : (∀ q ∈ costL pl W.rds, Nq (D * D) 12009 q) ∧ ∀ i, Nq (D * D) 12015 (tot ((costL pl W.rds).take i)) := by
  have key : ∀ q ∈ costL pl W.rds, Nq (D * D) 12009 q := fun q hq => by
    rw [costL_T] at hq
    obtain ⟨t, ht, rfl⟩ := List.mem_map.mp hq
    obtain ⟨h1, h2⟩ := restsT_mem ht
    have rb := ok.rdb h1
    exact nq_part rb.w (nq_restO D1 hN rb h2)
  refine ⟨key, fun i => tot_nq (c := 6) (fun q hq => key q (List.mem_of_mem_take hq)) ?_⟩
  have := costL_len (pl := pl) ok
  rw [List.length_take]; omega
theorem costL_sm {pl : PlL} {W : Wd} (ok : W.Ok) (h : PlOk pl) : SmAll (costL pl W.rds) := by
  obtain ⟨D, D0, D1, hN⟩ := h
  obtain ⟨k1, k2⟩ := costL_nq ok D1 hN
  exact ⟨fun q hq => sm_of2 (k1 q hq) D0 D1 (by decide), fun i => sm_of2 (k2 i) D0 D1 (by decide)⟩
/-! ### what is not cancelled at a mark -/
def uncPart (pl : PlL) (way : Nat) (r : Rdg) : Rat := match restO pl r with
  | some s => (r.wt : Rat) * (if way = 0 then s.1 else s.2)
  | none => 0
def uncMid (pl : PlL) (name : Str) (way : Nat) (acc : Rat) (r : Rdg) : Rat := if r.other = name then acc + uncPart pl way r else acc
def uncStep (pl : PlL) (name : Str) (way : Nat) (acc : Rat) (r : Rdg) : Rat := if r.one = name then uncMid pl name way acc r - uncPart pl way r else uncMid pl name way acc r
def uncF (pl : PlL) (rds : List (Int × Rdg)) (name : Str) (way : Nat) : Rat := rds.foldl (fun acc x => uncStep pl name way acc x.2) 0
theorem unc_part {pl : PlL} {D : Nat} {r : Rdg} (hD : D < 2 ^ 2000) (hN : ∀ x ∈ pl, Nq D 6000 x.2.1 ∧ Nq D 6000 x.2.2) (rb : RdB r) (way : Nat) : Nq D 6006 (uncPart pl way r) := by
  unfold uncPart
  cases h : restO pl r with
  | none => exact Nq.zero
  | some s =>
    have := nq_restO hD hN rb h
    have hw := rb.w
    dsimp only
    split
    · exact this.1.smul (c := 4) (by omega)
    · exact this.2.smul (c := 4) (by omega)
theorem unc_bound {pl : PlL} {D : Nat} (name : Str) (way : Nat) (hD : D < 2 ^ 2000) (hN : ∀ x ∈ pl, Nq D 6000 x.2.1 ∧ Nq D 6000 x.2.2) : ∀ (rds : List (Int × Rdg)) (acc : Rat) (k : Nat), (∀ n r, (n, r) ∈ rds → RdB r) → (∃ m : Int, acc * (D : Rat) = (m : Rat) ∧ m.natAbs ≤ k * 2 ^ 6006) →
    ∃ m : Int, rds.foldl (fun acc x => uncStep pl name way acc x.2) acc * (D : Rat) = (m : Rat) ∧ m.natAbs ≤ (k + 2 * rds.length) * 2 ^ 6006
  | [], acc, k, _, h => by simpa using h
  | (n, r) :: rds, acc, k, hr, ⟨m, e, l⟩ => by
    obtain ⟨m', e', l'⟩ := unc_part hD hN (hr n r List.mem_cons_self) way
    have step : ∃ m : Int, uncStep pl name way acc r * (D : Rat) = (m : Rat) ∧ m.natAbs ≤ (k + 2) * 2 ^ 6006 := by
      generalize 2 ^ 6006 = T at l l' ⊢
      have hk : (k + 2) * T = k * T + T + T := by rw [Nat.add_mul, Nat.two_mul]; omega
      unfold uncStep uncMid
      split <;> split
      · exact ⟨m + m' - m', by rw [Rat.intCast_sub, Rat.intCast_add, ← e, ← e']; grind, by rw [hk]; omega⟩
      · exact ⟨m - m', by rw [Rat.intCast_sub, ← e, ← e']; grind, by rw [hk]; omega⟩
      · exact ⟨m + m', by rw [Rat.intCast_add, ← e, ← e']; grind, by rw [hk]; omega⟩
      · exact ⟨m, e, by rw [hk]; omega⟩
    have := unc_bound name way hD hN rds (uncStep pl name way acc r) (k + 2) (fun n r h => hr n r (List.mem_cons_of_mem _ h)) step
    rw [List.foldl_cons, List.length_cons, show k + 2 * (rds.length + 1) = k + 2 + 2 * rds.length by omega]
    exact this
theorem unc_nq {pl : PlL} {W : Wd} {D : Nat} (ok : W.Ok) (name : Str) (way : Nat) (D1 : D < 2 ^ 2000) (hN : ∀ x ∈ pl, Nq D 6000 x.2.1 ∧ Nq D 6000 x.2.2) (i : Nat) : Nq D 6012 (uncF pl (W.rds.take i) name way) := by
  obtain ⟨m, e, l⟩ := unc_bound name way D1 hN (W.rds.take i) 0 0 (fun n r h => ok.rdb (List.mem_of_mem_take h)) ⟨0, by rw [Rat.zero_mul]; rfl, by simp⟩
  refine ⟨m, e, Nat.le_trans l ?_⟩
  have h1 : (W.rds.take i).length ≤ 22 := by rw [List.length_take]; have := ok.rlen; omega
  rw [show (2 : Nat) ^ 6012 = 2 ^ 6 * 2 ^ 6006 by rw [← Nat.pow_add]]
  exact Nat.mul_le_mul_right _ (by omega)
theorem uncF_snoc {pl : PlL} {rds : List (Int × Rdg)} {i : Nat} {n : Int} {r : Rdg} (name : Str) (way : Nat) (h : rds[i]? = some (n, r)) : uncF pl (rds.take (i + 1)) name way = uncStep pl name way (uncF pl (rds.take i) name way) r := by
  unfold uncF
  rw [List.take_succ, h, List.foldl_append]
  rfl
end Gm

set_option maxHeartbeats 4000000
namespace Gm
open PySem PySem.Spec PyProof.Rows L2
def sel (s : Rat × Rat) (i : Nat) : Rat := if i = 0 then s.1 else s.2
section
variable {K : PySem.W.Frag} {σ : L2.St} {H H' : Hp} {td ty te ti : TE} {X : XK}
theorem lk_val {pl : PlL} {kvs : List (Key × V)} {m : Str} (hp : Dc kS (SpV K) pl kvs H) : (match lk pl m with
    | none => valV kvs (kS m) = none
    | some s => ∃ v, valV kvs (kS m) = some v ∧ SpV K s v H) := by
  have h := hp.val inr_inj m
  unfold lk
  cases e : pl.find? (fun x => decide (x.1 = m)) with
  | none => rw [e] at h; exact h
  | some x => rw [e] at h; exact h
theorem lk_some {pl : PlL} {kvs : List (Key × V)} {m : Str} {s : Rat × Rat} (hp : Dc kS (SpV K) pl kvs H) (h : lk pl m = some s) : ∃ v, valV kvs (kS m) = some v ∧ SpV K s v H := by
  have := lk_val (m := m) hp
  rw [h] at this; exact this
theorem lk_has {pl : PlL} {kvs : List (Key × V)} {m : Str} (hp : Dc kS (SpV K) pl kvs H) : (valV kvs (kS m)).isSome = (lk pl m).isSome := by
  have := lk_val (m := m) hp
  cases e : lk pl m with
  | none => rw [e] at this; rw [this]; rfl
  | some s => rw [e] at this; obtain ⟨v, hv, _⟩ := this; rw [hv]; rfl
theorem ev_spot {d : Addr} {kvs : List (Key × V)} {pl : PlL} {m : Str} {s : Rat × Rat} (hd : Eva Same td σ H (Is (.ref d))) (h : Rd H d (.dK kvs)) (hp : Dc kS (SpV K) pl kvs H) (hk : Eva Same ty σ H (Is (.str m))) (hm : lk pl m = some s) :
    Eva Same (tDGet td ty) σ H (SpV K s) := by
  obtain ⟨v, hv, hs⟩ := lk_some hp hm
  exact Eva.imp (ev_dget (k := kS m) hd h hk hv) fun v' H1 e r => by rw [show v' = v from r]; exact MonW.mono e.wk hs
theorem ev_coord {s : Rat × Rat} {i : Nat} (h : Eva Same te σ H (SpV K s)) (hi : Eva Same ti σ H (Is (.int (i : Int)))) (hlt : i < 2) : Eva Same (tOp (rIxT K) te ti) σ H (Rt K (sel s i)) := fun H1 e Q q =>
  h H1 e _ fun v H2 e2 r => hi H2 (e.trans e2) _ fun v' H3 e3 r' => by
    obtain ⟨u, w, ⟨a, rfl, ht⟩, h1, h2⟩ := r
    cases (show v' = .int (i : Int) from r')
    match i, hlt with
    | 0, _ => exact ⟨a, _, _, u, rfl, rfl, e3.wk.sqT ht, rfl, q _ H3 (e2.trans e3) (MonW.mono e3.wk h1)⟩
    | 1, _ => exact ⟨a, _, _, w, rfl, rfl, e3.wk.sqT ht, rfl, q _ H3 (e2.trans e3) (MonW.mono e3.wk h2)⟩
theorem ev_whole {n : Int} (h : Eva Same te σ H (Is (.int n))) : Eva Same (tCall (spWhole K) [] X (tCons te tNil)) σ H (Rt K (n : Rat)) := by
  refine ev_G (α := Int) n (ea_cons h ea_nil) ?_
  rintro vs H' _ ⟨v, r, rfl, hv, rfl⟩
  rw [show v = _ from hv]
/-- a new spot -/
theorem ev_newspot {ta tb : TE} {x y : Rat} (ha : Eva Same ta σ H (Rt K x)) (hb : Eva Same tb σ H (Rt K y)) : Eva Same (tTup (tCons ta (tCons tb tNil))) σ H (SpV K (x, y)) := by
  refine Eva.imp (ev_tup (ea_cons ha (ea_cons hb ea_nil)) 2 fun vs H1 r => ?_) fun v H1 e r => ?_
  · obtain ⟨_, _, rfl, _, _, _, rfl, _, rfl⟩ := r; simp
  · obtain ⟨a, vs, H0, rfl, ha, ⟨u, _, rfl, hu, u', _, rfl, hu', rfl⟩, w⟩ := r
    exact ⟨u, u', ⟨a, rfl, SqT.of ha⟩, MonW.mono w hu, MonW.mono w hu'⟩
end
section
variable {P : Program} {w : World} {K : PySem.W.Frag} {mg : Str → Option Value} {base : Heap} {aN : Addr} {uM uW uL : Value} {C fI fM fR fN fH : Addr} {fdM fdR fdN fdH : FuncData}
abbrev PlV (K : PySem.W.Frag) (pl : PlL) : V → Hp → Prop := DcV kS (SpV K) pl
abbrev PlX (K : PySem.W.Frag) (pl : PlL) : V → Hp → Prop := DcX kS (SpV K) pl
theorem DcX.v {κ α : Type} {key : κ → Key} {R : α → V → Hp → Prop} {xs : List (κ × α)} {v : V} {H : Hp} (h : DcX key R xs v H) : DcV key R xs v H := by
  obtain ⟨d, k, e, h1, h2⟩ := h; exact ⟨d, k, e, .inl h1, h2⟩
/-- a rest can be reckoned -/
def RestOk (x : Rdg × PlL × (Rat × Rat) × (Rat × Rat)) : Prop := lk x.2.1 x.1.one = some x.2.2.1 ∧ lk x.2.1 x.1.other = some x.2.2.2 ∧ PlOk x.2.1 ∧ RdB x.1
def spRestOf (K : PySem.W.Frag) : Sp := SpG (α := Rdg × PlL × (Rat × Rat) × (Rat × Rat)) (fun x vs H => (∃ u v, vs = [u, v] ∧ RdV K x.1 u H ∧ PlV K x.2.1 v H) ∧ RestOk x) (fun x => SpV K (restF x.1 x.2.2.1 x.2.2.2))
def spLRest (K : PySem.W.Frag) : Sp := SpG (α := Rdg × PlL × (Rat × Rat) × (Rat × Rat)) (fun x vs H => (∃ u v, vs = [v, u] ∧ RdV K x.1 u H ∧ PlV K x.2.1 v H) ∧ RestOk x) (fun x => SpV K (restF x.1 x.2.2.1 x.2.2.2))
theorem ok_rest_of (D : DefAt K mg "rest_of" s_rest_of) (c_minus : Cal P w K mg base 3 "minus" ["one", "other"] (spMinus K)) (c_whole : Cal P w K mg base 1 "whole" ["number"] (spWhole K)) : Cal P w K mg base 4 "rest_of" ["reading", "placing"] (spRestOf K) := by
  refine D.cal 3 sc_rest_of (fun _ _ _ _ _ _ us hl => match us, hl with | [_, _], _ => rfl) (fun vs H Q E h => ?_) (fun f cdv A outer s H vs Q E hr h => ?_)
  · obtain ⟨x, ⟨⟨_, _, rfl, _⟩, _⟩, _⟩ := h; rfl
  obtain ⟨⟨r, pl, a, b⟩, ⟨⟨_, _, rfl, ⟨t, rfl, ht⟩, ⟨d, kvs, rfl, hd, hp⟩⟩, ha, hb, ⟨D, D0, D1, hN⟩, rb⟩, k⟩ := h
  have hp : Dc kS (SpV K) pl kvs H := hp
  have ha : lk pl r.one = some a := ha
  have hb : lk pl r.other = some b := hb
  have rb : RdB r := rb
  have na := hN _ (lk_mem ha)
  have nb := hN _ (lk_mem hb)
  have s1 := rb.a
  have s2 := rb.u
  refine ⟨_, (pss_cons (ps_asg (pv 0) (pg_tup rfl (pgs_cons (pg_name (i := 2) sc_rest_of.nd rfl (Or.inl rfl)) (pgs_cons (pg_name (i := 3) sc_rest_of.nd rfl (Or.inl rfl)) (pgs_cons (pg_name (i := 4) sc_rest_of.nd rfl (Or.inl rfl)) (pgs_cons (pg_name (i := 5) sc_rest_of.nd rfl (Or.inl rfl)) (pgs_cons (pg_name (i := 6) sc_rest_of.nd rfl (Or.inl rfl)) pgs_nil)))))))
      (pss_cons (ps_set (i := 7) sc_rest_of.nd rfl (Or.inl rfl) (c_minus.call (hr.mono (by decide)) (by rfl) (pa_cons (c_minus.call (hr.mono (by decide)) (by rfl) (pa_cons (pe_ix ix_tup (pe_dget (hu_of hr) (pv 1) (pv 3) (fun _ _ => rfl)) pe_int (fun _ _ => rfl)) (pa_cons (pe_ix ix_tup (pe_dget (hu_of hr) (pv 1) (pv 2) (fun _ _ => rfl)) pe_int (fun _ _ => rfl)) pa_nil))) (pa_cons (c_whole.call (hr.mono (by decide)) (by rfl) (pa_cons (pv 4) pa_nil)) pa_nil))))
      (pss_cons (ps_set (i := 8) sc_rest_of.nd rfl (Or.inl rfl) (c_minus.call (hr.mono (by decide)) (by rfl) (pa_cons (c_minus.call (hr.mono (by decide)) (by rfl) (pa_cons (pe_ix ix_tup (pe_dget (hu_of hr) (pv 1) (pv 3) (fun _ _ => rfl)) pe_int (fun _ _ => rfl)) (pa_cons (pe_ix ix_tup (pe_dget (hu_of hr) (pv 1) (pv 2) (fun _ _ => rfl)) pe_int (fun _ _ => rfl)) pa_nil))) (pa_cons (c_whole.call (hr.mono (by decide)) (by rfl) (pa_cons (pv 5) pa_nil)) pa_nil))))
      (pss_one (ps_ret (pe_tup (pa_cons (pv 7) (pa_cons (pv 8) pa_nil)))))))), ?_⟩
  refine ⟨_, rfl, t, _, rfl, ht, rfl, _, _, rfl, _, _, rfl, _, _, rfl, _, _, rfl, _, _, rfl, rfl, ?_⟩
  refine st_set (E := Same) (R := Rt K (restF r a b).1) (ev_R2 (ev_R2 (x := b.1) (y := a.1) (ev_coord (i := 0) (ev_spot (ev_var rfl) hd hp (ev_var rfl) hb) ev_c (by decide)) (ev_coord (i := 0) (ev_spot (ev_var rfl) hd hp (ev_var rfl) ha) ev_c (by decide)) (sm_of nb.1 D0 D1 (by decide)) (sm_of na.1 D0 D1 (by decide))) (ev_whole (ev_var rfl)) (sm_of (nq_gap na.1 nb.1) D0 D1 (by decide)) (sm_int (n := r.ac) (by have := Nat.pow_le_pow_right (show 0 < 2 by decide) (show 10 ≤ 100 by decide); omega))) (Same.refl _) fun v H1 e1 h1 => ?_
  have hp1 := hp.mono e1.wk.tup
  refine st_set (E := Same) (R := Rt K (restF r a b).2) (ev_R2 (ev_R2 (x := b.2) (y := a.2) (ev_coord (i := 1) (ev_spot (ev_var rfl) (e1.wk.dic _ _ hd) hp1 (ev_var rfl) hb) ev_c (by decide)) (ev_coord (i := 1) (ev_spot (ev_var rfl) (e1.wk.dic _ _ hd) hp1 (ev_var rfl) ha) ev_c (by decide)) (sm_of nb.2 D0 D1 (by decide)) (sm_of na.2 D0 D1 (by decide))) (ev_whole (ev_var rfl)) (sm_of (nq_gap na.2 nb.2) D0 D1 (by decide)) (sm_int (n := r.up) (by have := Nat.pow_le_pow_right (show 0 < 2 by decide) (show 10 ≤ 100 by decide); omega))) (Same.refl _) fun v' H2 e2 h2 => ?_
  exact st_ret (E := Same) (ev_newspot (ev_varR rfl (MonW.mono e2.wk h1)) (ev_varR rfl h2)) (Same.refl _) fun v H3 e3 h3 => k v H3 ((e1.trans e2).trans e3) h3
end
end Gm

set_option maxHeartbeats 4000000
namespace Gm
open PySem PySem.Spec PyProof.Rows L2
theorem restsF_snoc {pl : PlL} {rds : List (Int × Rdg)} {i : Nat} {n : Int} {r : Rdg} (h : rds[i]? = some (n, r)) :
    restsF pl (rds.take (i + 1)) = restsF pl (rds.take i) ++ (match restO pl r with | some s => [(n, s)] | none => []) := by
  unfold restsF
  rw [List.take_succ, h, List.filterMap_append]
  congr 1
  cases e : restO pl r with
  | none => simp [e]
  | some s => simp [e]
theorem restsF_keys {pl : PlL} {rds : List (Int × Rdg)} {x : Int × (Rat × Rat)} (h : x ∈ restsF pl rds) : x.1 ∈ rds.map (·.1) := by
  unfold restsF at h
  obtain ⟨⟨n, r⟩, hr, e⟩ := List.mem_filterMap.mp h
  obtain ⟨s, hs, rfl⟩ := Option.map_eq_some_iff.mp e
  exact List.mem_map.mpr ⟨_, hr, rfl⟩
theorem take_new {rds : List (Int × Rdg)} (hp : (rds.map (·.1)).Pairwise (· < ·)) {i : Nat} {n : Int} {r : Rdg} (h : rds[i]? = some (n, r)) : n ∉ (rds.take i).map (·.1) := by
  intro hm
  rw [List.map_take] at hm
  obtain ⟨j, hj⟩ := List.getElem?_of_mem hm
  have hji : j < i := by
    have := (List.getElem?_eq_some_iff.mp hj).1
    rw [List.length_take] at this
    omega
  rw [List.getElem?_take_of_lt hji] at hj
  have h2 : (rds.map (·.1))[i]? = some n := by rw [List.getElem?_map, h]; rfl
  have := nd_ix (hp.imp fun h => Int.ne_of_lt h) hj h2
  omega
theorem restsF_len {pl : PlL} {rds : List (Int × Rdg)} : (restsF pl rds).length ≤ rds.length := List.length_filterMap_le _ _
section
variable {P : Program} {w : World} {K : PySem.W.Frag} {mg : Str → Option Value} {base : Heap} {aN : Addr} {uM uW uL : Value} {C fI fM fR fN fH : Addr} {fdM fdR fdN fdH : FuncData}
/-- a survey and a placing -/
def PreSP (K : PySem.W.Frag) (C : Addr) (x : Wd × PlL) : List V → Hp → Prop := fun vs H => (∃ u v, vs = [u, v] ∧ SurV K C x.1 u H ∧ PlV K x.2 v H) ∧ x.1.Ok ∧ PlOk x.2
abbrev RsX (K : PySem.W.Frag) (l : List (Int × (Rat × Rat))) : V → Hp → Prop := DcX kI (SpV K) l
def spRests (K : PySem.W.Frag) (C : Addr) : Sp := SpN (α := Wd × PlL) (PreSP K C) (fun x => RsX K (restsF x.2 x.1.rds))
theorem ev_restof {σ : L2.St} {H : Hp} {ta tb : TE} {X : XK} {r : Rdg} {pl : PlL} {a b : Rat × Rat} (ha : Eva Same ta σ H (RdV K r)) (hb : Eva Same tb σ H (PlV K pl)) (h : RestOk (r, pl, a, b)) : Eva Same (tCall (spRestOf K) [] X (tCons ta (tCons tb tNil))) σ H (SpV K (restF r a b)) := by
  refine ev_G (α := Rdg × PlL × (Rat × Rat) × (Rat × Rat)) (r, pl, a, b) (ea_cons ha (ea_cons hb ea_nil)) ?_
  rintro vs H' _ ⟨v, r', rfl, hv, v', r'', rfl, hv', rfl⟩
  exact ⟨⟨v, v', rfl, hv, hv'⟩, h⟩
theorem et_placed {σ : L2.St} {H : Hp} {ta tb tc td : TE} {pl : PlL} {kvs : List (Key × V)} {d : Addr} {r : Rdg} (ha : Eva Same ta σ H (Is (.str r.one))) (hb : Eva Same tb σ H (Is (.ref d))) (hc : Eva Same tc σ H (Is (.str r.other))) (hd : Eva Same td σ H (Is (.ref d))) (h : Rd H d (.dK kvs)) (hp : Dc kS (SpV K) pl kvs H) :
    EvT Same (tAnd (tB (tDIn ta tb)) (tB (tDIn tc td))) σ H (restO pl r).isSome := by
  refine EvT.is (et_and (et_B (ev_din (k := kS r.one) ha hb h)) fun _ => et_B (ev_din (k := kS r.other) hc hd h)) ?_
  rw [lk_has hp, lk_has hp]
  unfold restO
  cases lk pl r.one <;> cases lk pl r.other <;> rfl
theorem rdv_ix {σ : L2.St} {H : Hp} {te : TE} {r : Rdg} (h : Eva Same te σ H (RdV K r)) : Eva Same (tOp (rIxT K) te (tC (.int 0))) σ H (Is (.str r.one)) ∧ Eva Same (tOp (rIxT K) te (tC (.int 1))) σ H (Is (.str r.other)) ∧ Eva Same (tOp (rIxT K) te (tC (.int 4))) σ H (Is (.int r.wt)) :=
  ⟨ev_ixT h ev_c rfl, ev_ixT h ev_c rfl, ev_ixT h ev_c rfl⟩
/-- a turn of the loop that gathers rests: the dict at p has those of the first i readings -/
theorem ok_rests (D : DefAt K mg "rests" s_rests) (Z : Mts P w K mg base C fI fM fR fN fH fdM fdR fdN fdH) (c_rest_of : Cal P w K mg base 4 "rest_of" ["reading", "placing"] (spRestOf K)) : Cal P w K mg base 5 "rests" ["survey", "placing"] (spRests K C) := by
  refine D.cal 4 sc_rests (fun _ _ _ _ _ _ us hl => match us, hl with | [_, _], _ => rfl) (fun vs H Q E h => ?_) (fun f cdv A outer s H vs Q E hr h => ?_)
  · obtain ⟨x, ⟨⟨_, _, rfl, _⟩, _⟩, _⟩ := h; rfl
  obtain ⟨⟨W, pl⟩, ⟨⟨v1, _, rfl, hs, ⟨d, kvs, rfl, hd, hp⟩⟩, ok, plok⟩, k⟩ := h
  have hs : SurV K C W v1 H := hs
  have ok : W.Ok := ok
  have plok : PlOk pl := plok
  have hp : Dc kS (SpV K) pl kvs H := hp
  obtain ⟨M, c_Survey_marks, c_Survey_readings, c_Survey_names, c_Survey_hangs⟩ := Z
  refine ⟨_, (pss_cons (ps_set (i := 2) sc_rests.nd rfl (Or.inl rfl) pe_dnewK)
      (pss_cons (ps_for PassesOwn.never rfl (pi_items (pe_freeze (pe_meth0 (pv 0) M.cl M.readings c_Survey_readings.F (hr.mono (by decide)) c_Survey_readings.b .nil pass0))) (pg_tup rfl (pgs_cons (pg_name (i := 3) sc_rests.nd rfl (Or.inl rfl)) (pgs_cons (pg_name (i := 4) sc_rests.nd rfl (Or.inl rfl)) pgs_nil))) (pss_one (ps_if (PW.pt (pw_and (pt_cmp (pc_din (hu_of hr) (pe_ix ix_tup (pv 4) pe_int (fun _ _ => rfl)) (pv 1))) (pw_and1 (pt_cmp (pc_din (hu_of hr) (pe_ix ix_tup (pv 4) pe_int (fun _ _ => rfl)) (pv 1)))))) (pss_one (ps_dput (hu_of hr) (pv 2) (pv 3) (c_rest_of.call (hr.mono (by decide)) (by rfl) (pa_cons (pv 4) (pa_cons (pv 1) pa_nil))) rfl)) pss_nil)))
      (pss_one (ps_ret (pv 2))))), ?_⟩
  refine st_seq fun p hpn => ?_
  have e1 : Same H (upd H p (.dK [])) := Same.new hpn
  have p1 : (upd H p (.dK [])) p = some (.dK []) := upd_same
  show tSeq _ _ _ _ (upd H p (.dK []))
  generalize upd H p (.dK []) = H1 at e1 p1
  refine st_forI (K := K) (S := Dc kI (RdV K) W.rds) (ev_freeze (ev_readings (ev_var rfl) (MonW.mono e1.wk hs)) fun d H1 ⟨d', kvs', ed, h1, h2⟩ => by cases ed; exact ⟨kvs', h1, h2⟩) ?_
  intro db kB od H0 H2 e2 hdb hB w02
  have hB2 : Dc kI (RdV K) W.rds kB H2 := hB.mono w02.tup
  refine ⟨fun i σ H3 => (∃ o1 o2, σ = [some v1, some (.ref d), some (.ref p), o1, o2]) ∧ Same H H3 ∧ H3 db = some (.frz od (.dK kB)) ∧ Tp H2 H3 ∧ ∃ kk, H3 p = some (.dK kk) ∧ Dc kI (SpV K) (restsF pl (W.rds.take i)) kk H3,
    ⟨⟨none, none, rfl⟩, e1.trans e2, hdb, Tp.refl _, [], e2 _ _ p1, .nil⟩, fun i σ' H' q => q.2.2.1, ?_, ?_⟩
  · rintro i x kk vv σ' H3 H4 hk ⟨⟨o1, o2, rfl⟩, e3, db3, t3, ks, p3, dc3⟩ e4 hT
    obtain ⟨⟨n, r⟩, hr, rk, rv⟩ := pget hB2 hk
    have rk : kk = kI n := rk
    subst rk
    have rv : RdV K r vv H2 := rv
    have rv4 : RdV K r vv H4 := MonT.mono (t3.trans e4.tp) rv
    have e34 := e3.trans e4
    have hd4 := e34.wk.dic _ _ hd
    have hp4 := hp.mono e34.tp
    refine tg_tup (σ2 := [some v1, some (.ref d), some (.ref p), some (.int n), some vv]) hT rfl (fun Q q => ⟨_, _, rfl, _, _, rfl, rfl, q⟩) _ ?_
    refine st_ifL (E := Same) (et_placed (rdv_ix (ev_varR rfl rv4)).1 (ev_var rfl) (rdv_ix (ev_varR rfl rv4)).2.1 (ev_var rfl) hd4 hp4) (Same.refl _) (fun z H5 e5 => ?_) (fun z H5 e5 => ?_)
    · obtain ⟨s, hs'⟩ := Option.isSome_iff_exists.mp z
      obtain ⟨a, b, ha, hb, rfl⟩ := restO_some hs'
      have rv5 := MonT.mono e5.tp rv4
      have p5 := (e4.trans e5) _ _ p3
      have hlen : ks.length < sizeLine := by
        rw [dc3.length]
        have h1 := @restsF_len pl (W.rds.take i)
        have h2 : (W.rds.take i).length ≤ W.rds.length := by rw [List.length_take]; omega
        have h3 := ok.rlen
        exact Nat.lt_of_le_of_lt (show _ ≤ 22 by omega) (by decide)
      refine st_dput (k := kI n) (ev_restof (ev_varR rfl rv5) (ev_varR (R := PlV K pl) rfl ⟨d, kvs, rfl, e5.wk.dic _ _ hd4, hp4.mono e5.tp⟩) ⟨ha, hb, plok, ok.rdb (List.mem_of_getElem? hr)⟩) rfl (ev_var rfl) p5 hlen fun v H6 e6 hv => ?_
      have e56 := (e4.trans e5).trans e6
      have p6 := e56 _ _ p3
      have hnew : valV ks (kI n) = none := valV_none fun q hq => by
        obtain ⟨b, hb, e, _⟩ := paired_mem dc3 hq
        rw [e]
        intro z
        exact take_new ok.rnum hr (by rw [← Sum.inl.inj z]; exact restsF_keys hb)
      have tp6 : Tp H6 (upd H6 p (.dK (putK ks (kI n) v))) := Tp.putD p6
      refine ⟨⟨_, _, rfl⟩, Same.mut (e3.trans e56) hpn, ?_, (t3.trans e56.tp).trans tp6, _, upd_same, ?_⟩
      · rw [upd_ne (ne_of db3 p3 (fun z => nomatch z))]; exact e56 _ _ db3
      · rw [restsF_snoc hr, hs']
        rw [putK_new v hnew] at tp6 ⊢
        exact papp ((dc3.mono e56.tp).mono tp6) (.cons ⟨rfl, MonT.mono tp6 hv⟩ .nil)
    · have e45 := e4.trans e5
      refine ⟨⟨_, _, rfl⟩, e3.trans e45, e45 _ _ db3, t3.trans e45.tp, ks, e45 _ _ p3, ?_⟩
      rw [restsF_snoc hr, Option.isSome_eq_false_iff.mp z |> Option.isNone_iff_eq_none.mp]
      simpa using dc3.mono e45.tp
  · rintro σ' H3 ⟨⟨o1, o2, rfl⟩, e3, _, _, ks, p3, dc3⟩
    refine ⟨_, rfl, k p H3 e3 hpn ⟨p, ks, rfl, p3, ?_⟩⟩
    rw [List.take_of_length_le (by rw [hB2.length]; exact Nat.le_refl _)] at dc3
    exact dc3
end
end Gm

set_option maxHeartbeats 4000000
namespace Gm
open PySem PySem.Spec PyProof.Rows L2
/-! ### == of data -/
def dR (q : Rat) : PyData := .tuple [.int q.num, .int (q.den : Int)]
def dS (s : Rat × Rat) : PyData := .tuple [dR s.1, dR s.2]
theorem dp_R {K : PySem.W.Frag} {H : Hp} {q : Rat} {v : V} (h : Rt K q v H) : Dp K H v (dR q) := by
  obtain ⟨a, rfl, ha⟩ := h
  exact .tup ha (.cons (.int _) (.cons (.int _) .nil))
theorem dp_S {K : PySem.W.Frag} {H : Hp} {s : Rat × Rat} {v : V} (h : SpV K s v H) : Dp K H v (dS s) := by
  obtain ⟨u, w, ⟨a, rfl, ha⟩, h1, h2⟩ := h
  exact .tup ha (.cons (dp_R h1) (.cons (dp_R h2) .nil))
theorem sh_R (q : Rat) : SeqAt.shaped (dR q) = true := rfl
theorem sh_S (s : Rat × Rat) : SeqAt.shaped (dS s) = true := rfl
theorem eqv_R (p q : Rat) : PyData.eqv (dR p) (dR q) = decide (p = q) := by
  have h : PyData.eqv (dR p) (dR q) = (p.num == q.num && ((p.den : Int) == (q.den : Int) && true)) := by
    simp [dR, PyData.eqv, PyData.eqvAll]
  rw [h, Bool.eq_iff_iff]
  simp only [Bool.and_true, Bool.and_eq_true, beq_iff_eq, decide_eq_true_eq]
  constructor
  · rintro ⟨h1, h2⟩; exact Rat.ext h1 (by omega)
  · rintro rfl; exact ⟨rfl, rfl⟩
theorem eqv_S (p q : Rat × Rat) : PyData.eqv (dS p) (dS q) = decide (p = q) := by
  have h : PyData.eqv (dS p) (dS q) = (PyData.eqv (dR p.1) (dR q.1) && (PyData.eqv (dR p.2) (dR q.2) && true)) := by
    simp [dS, PyData.eqv, PyData.eqvAll]
  rw [h, eqv_R, eqv_R, Bool.eq_iff_iff]
  simp only [Bool.and_true, Bool.and_eq_true, decide_eq_true_eq]
  constructor
  · rintro ⟨h1, h2⟩; exact Prod.ext h1 h2
  · rintro rfl; exact ⟨rfl, rfl⟩
section
variable {K : PySem.W.Frag} {σ : L2.St} {H : Hp} {ta tb : TE} {R S : V → Hp → Prop} {d e : PyData}
theorem ev_eqD [MonE Same R] (ha : Eva Same ta σ H R) (hb : Eva Same tb σ H S) (h1 : ∀ v H1, R v H1 → Dp K H1 v d) (h2 : ∀ v H1, S v H1 → Dp K H1 v e) (s1 : SeqAt.shaped d = true) (s2 : SeqAt.shaped e = true) : Eva Same (tOp (rEqD K) ta tb) σ H (Is (.bl (PyData.eqv d e))) := fun H1 e1 Q q =>
  ha H1 e1 _ fun x H2 e2 r => hb H2 (e1.trans e2) _ fun y H3 e3 s => ⟨d, e, h1 _ _ (MonE.mono e3 r), h2 _ _ s, s1, s2, q _ H3 (e2.trans e3) rfl⟩
theorem ev_neD [MonE Same R] (ha : Eva Same ta σ H R) (hb : Eva Same tb σ H S) (h1 : ∀ v H1, R v H1 → Dp K H1 v d) (h2 : ∀ v H1, S v H1 → Dp K H1 v e) (s1 : SeqAt.shaped d = true) (s2 : SeqAt.shaped e = true) : Eva Same (tOp (rNeD K) ta tb) σ H (Is (.bl (!PyData.eqv d e))) := fun H1 e1 Q q =>
  ha H1 e1 _ fun x H2 e2 r => hb H2 (e1.trans e2) _ fun y H3 e3 s => ⟨d, e, h1 _ _ (MonE.mono e3 r), h2 _ _ s, s1, s2, q _ H3 (e2.trans e3) rfl⟩
end
section
variable {P : Program} {w : World} {K : PySem.W.Frag} {mg : Str → Option Value} {base : Heap} {aN : Addr} {uM uW uL : Value} {C fI fM fR fN fH : Addr} {fdM fdR fdN fdH : FuncData}
theorem ok_l_low (D : DefAt K mg "_law_low" s_l_low) (U : Uni K mg aN uM uW uL) : Cal P w K mg base 1 "_law_low" ["_law_over", "_law_under"] (spRatio K) := by
  refine D.cal 0 sc_l_low (fun _ _ _ _ _ _ us hl => match us, hl with | [_, _], _ => rfl) (fun vs H Q E h => ?_) (fun f cdv A outer s H vs Q E hr h => ?_)
  · obtain ⟨x, ⟨rfl, _⟩, _⟩ := h; rfl
  obtain ⟨⟨a, b⟩, ⟨rfl, hb, hz⟩, k⟩ := h
  have hb : b ≠ 0 := hb
  have hz : b.natAbs < 2 ^ 9000 := hz
  refine ⟨_, (pss_cons (ps_par (i := 2) (j := 3) (by rfl) sc_l_low.nd rfl rfl (by decide) rfl rfl (pa_cons (pe_callB call_abs (by rfl) U.abs (by decide +kernel) (pa_cons (pv 0) pa_nil)) (pa_cons (pe_callB call_abs (by rfl) U.abs (by decide +kernel) (pa_cons (pv 1) pa_nil)) pa_nil)) (by rfl))
      (pss_cons (ps_while PassesOwn.never (pt_cmpR op_gt (pv 3) pe_int (nomark _)) (pss_one (ps_par (i := 2) (j := 3) (by rfl) sc_l_low.nd rfl rfl (by decide) rfl rfl (pa_cons (pv 3) (pa_cons (pe_op op_mod (pv 2) (pv 3)) pa_nil)) (by rfl))))
      (pss_cons (ps_if (pt_cmpR op_lt (pv 1) pe_int (nomark _)) (pss_one (ps_set (i := 2) sc_l_low.nd rfl (Or.inl rfl) (pe_op op_sub pe_int (pv 2)))) pss_nil)
      (pss_one (ps_ret (pe_tup (pa_cons (pe_op op_fdivA (pv 0) (pv 2)) (pa_cons (pe_op op_fdivA (pv 1) (pv 2)) pa_nil)))))))), ?_⟩
  refine ⟨_, rfl, a, rfl, _, rfl, b, rfl, _, _, rfl, ?_⟩
  refine while_by (fun σ H1 => H1 = H ∧ ∃ m n : Nat, σ = [some (.int a), some (.int b), some (.int (m : Int)), some (.int (n : Int))] ∧ Nat.gcd m n = Int.gcd a b) (fun σ _ => match σ with | [_, _, _, some (.int n)] => n.toNat | _ => 0)
    ⟨rfl, a.natAbs, b.natAbs, by rw [abs_nat, abs_nat]; rfl, rfl⟩ ?_ ?_
  · rintro σ H1 ⟨rfl, m, n, rfl, hg⟩
    refine ⟨_, rfl, _, _, rfl, rfl, _, rfl, ?_⟩
    by_cases hn : n = 0
    · subst hn
      refine iteF ?_
      have hm : (m : Int) = ((Int.gcd a b : Nat) : Int) := by rw [← hg]; simp
      rw [hm]
      have fin : ∀ (p : Int) (H3 : Hp), Same H1 H3 → p = part a b → tRet (tTup (tCons (tOp (rI CDivA fun i j => .int (i.fdiv j)) (tVar 0) (tVar 2)) (tCons (tOp (rI CDivA fun i j => .int (i.fdiv j)) (tVar 1) (tVar 2)) tNil)))
          { nx := fun _ H' => Q .non H', rt := Q } [some (.int a), some (.int b), some (.int p), some (.int ((0 : Nat) : Int))] H3 := by
        rintro p H3 e3 rfl
        have hl : (part a b).natAbs.log2 < 9000 := log2_small (part_small hb hz) (by decide)
        refine ⟨_, rfl, _, rfl, _, _, rfl, rfl, ⟨part_ne hb, hl⟩, _, rfl, _, rfl, _, _, rfl, rfl, ⟨part_ne hb, hl⟩, (by show 2 ≤ sizeLine; decide), fun q hq => k _ _ (e3.trans (Same.new hq)) ⟨q, rfl, ?_⟩⟩
        show SqT K (upd H3 q (.tup [.int (a.fdiv (part a b)), .int (b.fdiv (part a b))])) q [.int (Rat.divInt a b).num, .int ((Rat.divInt a b).den : Int)]
        rw [part_num hb, part_den hb]
        exact SqT.of upd_same
      dsimp only
      refine st_ifN (E := Same) (b := decide (b < 0)) (et_test (ev_I0 (ev_var rfl) ev_c)) (Same.refl _) (fun z H3 e3 => ?_) (fun z H3 e3 => ?_)
      · refine st_set1 (E := Same) (ev_I0 ev_c (ev_var rfl)) (Same.refl _) fun v H4 e4 hv => ?_
        have hv : v = .int (0 - ((Int.gcd a b : Nat) : Int)) := hv
        subst hv
        exact fin _ _ (e3.trans e4) (by unfold part; rw [if_pos (of_decide_eq_true z)]; omega)
      · exact fin _ _ e3 (by unfold part; rw [if_neg (of_decide_eq_false z)])
    · have hd : decide ((0 : Int) < (n : Int)) = true := decide_eq_true (by omega)
      show if decide ((0 : Int) < (n : Int)) = true then _ else _
      rw [hd]
      refine iteT ?_
      refine ⟨_, rfl, _, rfl, _, rfl, _, _, rfl, rfl, (by show (0 : Int) < n; omega), _, _, rfl, ⟨rfl, n, m % n, ?_, ?_⟩, ?_⟩
      · rfl
      · rw [← hg, Nat.gcd_comm m n, Nat.gcd_rec n m, Nat.gcd_comm]
      · have := Nat.mod_lt m (show 0 < n by omega)
        show ((m : Int) % (n : Int)).toNat < ((n : Nat) : Int).toNat
        omega
  · rintro σ H1 Q1 Q2 hq ⟨v, h1, i, j, h2, h3, kk, h4, h5⟩
    exact ⟨v, h1, i, j, h2, h3, kk, h4, hq _ _ h5⟩
theorem len_L2 {f : Rat → Rat → Rat} (vs : List V) (H : Hp) (Q : VK) (E : XK) (h : spR2 K f vs H Q E) : vs.length = ["_law_a", "_law_b"].length := by
  obtain ⟨x, ⟨⟨_, _, rfl, _⟩, _⟩, _⟩ := h; rfl
theorem ok_l_add (D : DefAt K mg "_law_add" s_l_add) (c_l_low : Cal P w K mg base 1 "_law_low" ["_law_over", "_law_under"] (spRatio K)) : Cal P w K mg base 2 "_law_add" ["_law_a", "_law_b"] (spPlus K) := by
  refine D.cal 1 sc_l_add (fun _ _ _ _ _ _ us hl => match us, hl with | [_, _], _ => rfl) len_L2 (fun f cdv A outer s H vs Q E hr h => ?_)
  obtain ⟨⟨x, y⟩, ⟨⟨u, v, rfl, hu, hv⟩, sx, sy⟩, k⟩ := h
  refine ⟨_, (pss_one (ps_ret (c_l_low.call (hr.mono (by decide)) (by rfl) (pa_cons (pe_op op_add (pe_op op_mulW (pe_ix ix_tup (pv 0) pe_int (fun _ _ => rfl)) (pe_ix ix_tup (pv 1) pe_int (fun _ _ => rfl))) (pe_op op_mulW (pe_ix ix_tup (pv 1) pe_int (fun _ _ => rfl)) (pe_ix ix_tup (pv 0) pe_int (fun _ _ => rfl)))) (pa_cons (pe_op op_mulW (pe_ix ix_tup (pv 0) pe_int (fun _ _ => rfl)) (pe_ix ix_tup (pv 1) pe_int (fun _ _ => rfl))) pa_nil))))), ?_⟩
  have hu := ev_varR (E := Same) (σ := start n_l_add [u, v]) (i := 0) rfl hu
  have hv := ev_varR (E := Same) (σ := start n_l_add [u, v]) (i := 1) rfl hv
  refine st_ret (E := Same) (ev_ratio (ev_I0 (ev_I (ev_num hu) (ev_den hv) (sm_mul sx.2 (sm_dn sy))) (ev_I (ev_num hv) (ev_den hu) (sm_mul sy.2 (sm_dn sx)))) (ev_I (ev_den hu) (ev_den hv) (sm_mul (sm_dn sx) (sm_dn sy))) (den_mul_ne x y) (sm_den sx sy)) (Same.refl _) fun v H1 e r => k v H1 e ?_
  rw [divInt_add] at r; exact r
theorem ok_l_sub (D : DefAt K mg "_law_sub" s_l_sub) (c_l_low : Cal P w K mg base 1 "_law_low" ["_law_over", "_law_under"] (spRatio K)) : Cal P w K mg base 2 "_law_sub" ["_law_a", "_law_b"] (spMinus K) := by
  refine D.cal 1 sc_l_sub (fun _ _ _ _ _ _ us hl => match us, hl with | [_, _], _ => rfl) len_L2 (fun f cdv A outer s H vs Q E hr h => ?_)
  obtain ⟨⟨x, y⟩, ⟨⟨u, v, rfl, hu, hv⟩, sx, sy⟩, k⟩ := h
  refine ⟨_, (pss_one (ps_ret (c_l_low.call (hr.mono (by decide)) (by rfl) (pa_cons (pe_op op_sub (pe_op op_mulW (pe_ix ix_tup (pv 0) pe_int (fun _ _ => rfl)) (pe_ix ix_tup (pv 1) pe_int (fun _ _ => rfl))) (pe_op op_mulW (pe_ix ix_tup (pv 1) pe_int (fun _ _ => rfl)) (pe_ix ix_tup (pv 0) pe_int (fun _ _ => rfl)))) (pa_cons (pe_op op_mulW (pe_ix ix_tup (pv 0) pe_int (fun _ _ => rfl)) (pe_ix ix_tup (pv 1) pe_int (fun _ _ => rfl))) pa_nil))))), ?_⟩
  have hu := ev_varR (E := Same) (σ := start n_l_sub [u, v]) (i := 0) rfl hu
  have hv := ev_varR (E := Same) (σ := start n_l_sub [u, v]) (i := 1) rfl hv
  refine st_ret (E := Same) (ev_ratio (ev_I0 (ev_I (ev_num hu) (ev_den hv) (sm_mul sx.2 (sm_dn sy))) (ev_I (ev_num hv) (ev_den hu) (sm_mul sy.2 (sm_dn sx)))) (ev_I (ev_den hu) (ev_den hv) (sm_mul (sm_dn sx) (sm_dn sy))) (den_mul_ne x y) (sm_den sx sy)) (Same.refl _) fun v H1 e r => k v H1 e ?_
  rw [divInt_sub] at r; exact r
theorem ok_l_mul (D : DefAt K mg "_law_mul" s_l_mul) (c_l_low : Cal P w K mg base 1 "_law_low" ["_law_over", "_law_under"] (spRatio K)) : Cal P w K mg base 2 "_law_mul" ["_law_a", "_law_b"] (spTimes K) := by
  refine D.cal 1 sc_l_mul (fun _ _ _ _ _ _ us hl => match us, hl with | [_, _], _ => rfl) len_L2 (fun f cdv A outer s H vs Q E hr h => ?_)
  obtain ⟨⟨x, y⟩, ⟨⟨u, v, rfl, hu, hv⟩, sx, sy⟩, k⟩ := h
  refine ⟨_, (pss_one (ps_ret (c_l_low.call (hr.mono (by decide)) (by rfl) (pa_cons (pe_op op_mulW (pe_ix ix_tup (pv 0) pe_int (fun _ _ => rfl)) (pe_ix ix_tup (pv 1) pe_int (fun _ _ => rfl))) (pa_cons (pe_op op_mulW (pe_ix ix_tup (pv 0) pe_int (fun _ _ => rfl)) (pe_ix ix_tup (pv 1) pe_int (fun _ _ => rfl))) pa_nil))))), ?_⟩
  have hu := ev_varR (E := Same) (σ := start n_l_mul [u, v]) (i := 0) rfl hu
  have hv := ev_varR (E := Same) (σ := start n_l_mul [u, v]) (i := 1) rfl hv
  refine st_ret (E := Same) (ev_ratio (ev_I (ev_num hu) (ev_num hv) (sm_mul sx.2 sy.2)) (ev_I (ev_den hu) (ev_den hv) (sm_mul (sm_dn sx) (sm_dn sy))) (den_mul_ne x y) (sm_den sx sy)) (Same.refl _) fun v H1 e r => k v H1 e ?_
  rw [divInt_mul] at r; exact r
/-- _law_is_ratio -/
def spIsRat (K : PySem.W.Frag) : Sp := SpG (α := Rat) (fun q vs H => (∃ v, vs = [v] ∧ Rt K q v H) ∧ Sm q) (fun _ v _ => v = .bl true)
theorem ev_lenT {E : Hp → Hp → Prop} [PreE E] {σ : L2.St} {H : Hp} {te : TE} {xs : List V} (h : Eva E te σ H (TupV K xs)) :
    Eva E (tCB (fun xs H Q => ∃ p ys, xs = [.ref p] ∧ (SqL K H p ys ∨ SqT K H p ys) ∧ Q (.int ys.length) H) (tCons te tNil)) σ H (Is (.int (xs.length : Int))) := fun H1 e Q q =>
  h H1 e _ fun v H2 e2 ⟨a, ea, hs⟩ => ⟨a, xs, by rw [ea], .inr hs, q _ H2 e2 rfl⟩
theorem tyTup {xs : List V} : ∀ v H1, TupV K xs v H1 → TyX K H1 v (.type "tuple") := fun v H1 ⟨a, ea, hs⟩ => by rw [ea]; exact tyT hs
theorem ok_l_is_ratio (D : DefAt K mg "_law_is_ratio" s_l_is_ratio) (U : Uni K mg aN uM uW uL) (c_l_num : Cal P w K mg base 1 "_law_num" ["_law_value"] spIsNum) (c_l_low : Cal P w K mg base 1 "_law_low" ["_law_over", "_law_under"] (spRatio K)) : Cal P w K mg base 2 "_law_is_ratio" ["_law_a"] (spIsRat K) := by
  refine D.cal 1 sc_l_is_ratio (fun _ _ _ _ _ _ us hl => match us, hl with | [_], _ => rfl) (fun vs H Q E h => ?_) (fun f cdv A outer s H vs Q E hr h => ?_)
  · obtain ⟨x, ⟨⟨_, rfl, _⟩, _⟩, _⟩ := h; rfl
  obtain ⟨q, ⟨⟨v, rfl, hv⟩, sq⟩, k⟩ := h
  refine ⟨_, (pss_cons (ps_if (PW.pt (pw_or (pt_not (pt_val (pe_callB call_isi (by rfl) U.isinstance (by decide +kernel) (pa_cons (pv 0) (pa_cons (pe_bltn (by rfl) U.tuple (by decide +kernel) (show RelV (.ty "tuple") _ from rfl)) pa_nil))))) (pw_or (pt_cmpR op_ne (pe_callB call_len_seq (by rfl) U.len PySem.boot_len (pa_cons (pv 0) pa_nil)) pe_int (nomark _)) (pw_or (pt_not (pt_val (c_l_num.call (hr.mono (by decide)) (by rfl) (pa_cons (pe_ix ix_tup (pv 0) pe_int (fun _ _ => rfl)) pa_nil)))) (pw_or1 (pt_not (pt_val (c_l_num.call (hr.mono (by decide)) (by rfl) (pa_cons (pe_ix ix_tup (pv 0) pe_int (fun _ _ => rfl)) pa_nil))))))))) (pss_one (ps_ret pe_bl)) pss_nil)
      (pss_one (ps_ret (pe_and (pe_cmpR op_gt (pe_ix ix_tup (pv 0) pe_int (fun _ _ => rfl)) pe_int (nomark _)) (pe_one (pe_cmpR (op_eqD hr.units) (c_l_low.call (hr.mono (by decide)) (by rfl) (pa_cons (pe_ix ix_tup (pv 0) pe_int (fun _ _ => rfl)) (pa_cons (pe_ix ix_tup (pv 0) pe_int (fun _ _ => rfl)) pa_nil))) (pv 0) (nomark _))))))), ?_⟩
  have hV := ev_varR (E := Same) (σ := start n_l_is_ratio [v]) (i := 0) rfl hv
  refine st_skip (E := Same) (EvT.is (et_or (et_not (et_B (ev_isi (a := "tuple") (b := true) hV tyTup (by decide +kernel)))) fun _ => et_or (et_test (ev_ne (x := .int 2) (y := .int 2) (ev_lenT hV) ev_c rfl)) fun _ => et_or (et_not (et_B (ev_isnum (ev_num hV)))) fun _ => et_not (et_B (ev_isnum (ev_den hV)))) rfl) (Same.refl _) fun H1 e1 => ?_
  have hV := hV.at e1
  have hdp : decide ((0 : Int) < (q.den : Int)) = true := decide_eq_true (by have := q.den_pos; omega)
  refine st_ret (E := Same) (R := Is (.bl true)) ?_ (Same.refl _) fun v H2 e2 r => k v H2 (e1.trans e2) r
  refine Eva.is (v := .bl (true && true)) (ev_andV (a := true) (b := true) (Eva.is (ev_I0 (ev_den hV) ev_c) (congrArg V.bl hdp)) fun _ => ?_) rfl
  have hl := ev_ratio (K := K) (X := E0) (ev_num hV) (ev_den hV) (den_ne q) (Nat.lt_of_lt_of_le (by rw [Int.natAbs_natCast]; exact sq.1) (Nat.pow_le_pow_right (by decide) (by decide)) : ((q.den : Nat) : Int).natAbs < 2 ^ 9000)
  rw [Rat.num_divInt_den] at hl
  exact Eva.is (ev_eqD hl hV (fun _ _ => dp_R) (fun _ _ => dp_R) (sh_R q) (sh_R q)) (by rw [eqv_R, decide_eq_true rfl])
/-- _law_is_spot -/
def spIsSpot (K : PySem.W.Frag) : Sp := SpG (α := Rat × Rat) (fun s vs H => (∃ v, vs = [v] ∧ SpV K s v H) ∧ Sm s.1 ∧ Sm s.2) (fun _ v _ => v = .bl true)
theorem tySp {s : Rat × Rat} : ∀ v H1, SpV K s v H1 → TyX K H1 v (.type "tuple") := fun v H1 ⟨_, _, h, _, _⟩ => tyTup v H1 h
theorem ev_lenSp {σ : L2.St} {H : Hp} {te : TE} {s : Rat × Rat} (h : Eva Same te σ H (SpV K s)) :
    Eva Same (tCB (fun xs H Q => ∃ p ys, xs = [.ref p] ∧ (SqL K H p ys ∨ SqT K H p ys) ∧ Q (.int ys.length) H) (tCons te tNil)) σ H (Is (.int 2)) := fun H1 e Q q =>
  h H1 e _ fun v H2 e2 ⟨u, w, ⟨a, ea, hs⟩, _, _⟩ => ⟨a, _, by rw [ea], .inr hs, q _ H2 e2 rfl⟩
theorem ev_israt {σ : L2.St} {H : Hp} {te : TE} {X : XK} {q : Rat} (h : Eva Same te σ H (Rt K q)) (hs : Sm q) : Eva Same (tCall (spIsRat K) [] X (tCons te tNil)) σ H (Is (.bl true)) := by
  refine ev_G (α := Rat) q (ea_cons h ea_nil) ?_
  rintro vs H' _ ⟨v, r, rfl, hv, rfl⟩
  exact ⟨⟨v, rfl, hv⟩, hs⟩
theorem ok_l_is_spot (D : DefAt K mg "_law_is_spot" s_l_is_spot) (U : Uni K mg aN uM uW uL) (c_l_is_ratio : Cal P w K mg base 2 "_law_is_ratio" ["_law_a"] (spIsRat K)) : Cal P w K mg base 3 "_law_is_spot" ["_law_spot"] (spIsSpot K) := by
  refine D.cal 2 sc_l_is_spot (fun _ _ _ _ _ _ us hl => match us, hl with | [_], _ => rfl) (fun vs H Q E h => ?_) (fun f cdv A outer s H vs Q E hr h => ?_)
  · obtain ⟨x, ⟨⟨_, rfl, _⟩, _⟩, _⟩ := h; rfl
  obtain ⟨q, ⟨⟨v, rfl, hv⟩, s1, s2⟩, k⟩ := h
  refine ⟨_, (pss_one (ps_ret (pe_and (pe_callB call_isi (by rfl) U.isinstance (by decide +kernel) (pa_cons (pv 0) (pa_cons (pe_bltn (by rfl) U.tuple (by decide +kernel) (show RelV (.ty "tuple") _ from rfl)) pa_nil))) (pe_and (pe_cmpR op_eq (pe_callB call_len_seq (by rfl) U.len PySem.boot_len (pa_cons (pv 0) pa_nil)) pe_int (nomark _)) (pe_and (c_l_is_ratio.call (hr.mono (by decide)) (by rfl) (pa_cons (pe_ix ix_tup (pv 0) pe_int (fun _ _ => rfl)) pa_nil)) (pe_one (c_l_is_ratio.call (hr.mono (by decide)) (by rfl) (pa_cons (pe_ix ix_tup (pv 0) pe_int (fun _ _ => rfl)) pa_nil)))))))), ?_⟩
  have hV := ev_varR (E := Same) (σ := start n_l_is_spot [v]) (i := 0) rfl hv
  refine st_ret (E := Same) (R := Is (.bl true)) ?_ (Same.refl _) fun v H2 e2 r => k v H2 e2 r
  exact Eva.is (ev_andV (ev_isi (a := "tuple") (b := true) hV tySp (by decide +kernel)) fun _ => ev_andV (a := true) (Eva.is (ev_eq (x := .int 2) (y := .int 2) (ev_lenSp hV) ev_c rfl) rfl) fun _ => ev_andV (ev_israt (ev_coord (i := 0) hV ev_c (by decide)) s1) fun _ => ev_israt (ev_coord (i := 1) hV ev_c (by decide)) s2) rfl
end
end Gm

set_option maxHeartbeats 4000000
namespace Gm
open PySem PySem.Spec PyProof.Rows L2
section
variable {K : PySem.W.Frag} {σ : L2.St} {H H' : Hp} {te : TE} {R : V → Hp → Prop}
/-- xs.append(e), xs a local -/
theorem st_append [MonE Same R] {p : Addr} {xs : List V} {i : Nat} {D : Ends} (hi : σ[i]? = some (some (.ref p))) (hp : H p = some (.lst xs)) (hl : xs.length < 100000) (hv : Eva Same te σ H R)
    (k : ∀ v H1, Same H H1 → R v H1 → D.nx σ (upd H1 p (.lst (xs ++ [v])))) : tDrop (tBM K "list" rAppend (tVar i) (tCons te tNil)) D σ H :=
  ⟨_, hi, .inl ⟨rfl, xs, SqL.of hp⟩, hv H (Same.refl _) _ fun v H1 e1 r => ⟨p, xs, v, rfl, rfl, e1 _ _ hp, Nat.lt_trans hl (by decide), k v H1 e1 r⟩⟩
end
theorem paired_mono {α : Type} {R : α → V → Hp → Prop} [∀ a, MonT (R a)] {A B : Hp} (t : Tp A B) {vs : List V} {xs : List α} (h : Paired (fun u x => R x u A) vs xs) : Paired (fun u x => R x u B) vs xs := pimp (fun _ _ r => MonT.mono t r) h
section
variable {P : Program} {w : World} {K : PySem.W.Frag} {mg : Str → Option Value} {base : Heap} {aN : Addr} {uM uW uL : Value} {C fI fM fR fN fH : Addr} {fdM fdR fdN fdH : FuncData}
def spCost (K : PySem.W.Frag) (C : Addr) : Sp := SpG (α := Wd × PlL) (PreSP K C) (fun x => Rt K (costF x.2 x.1.rds))
theorem en_rests {σ : L2.St} {H : Hp} {ta tb : TE} {X : XK} {W : Wd} {pl : PlL} (ha : Eva Same ta σ H (SurV K C W)) (hb : Eva Same tb σ H (PlV K pl)) (ok : W.Ok) (po : PlOk pl) : EvaN (tCall (spRests K C) [] X (tCons ta (tCons tb tNil))) σ H (RsX K (restsF pl W.rds)) := by
  refine en_N (α := Wd × PlL) (W, pl) (ea_cons ha (ea_cons hb ea_nil)) ?_
  rintro vs H' _ ⟨v, r', rfl, hv, v', r'', rfl, hv', rfl⟩
  exact ⟨⟨v, v', rfl, hv, hv'⟩, ok, po⟩
theorem frz_rs {l : List (Int × (Rat × Rat))} : ∀ d H1, RsX K l (.ref d) H1 → ∃ kvs, H1 d = some (.dK kvs) ∧ Dc kI (SpV K) l kvs H1 := fun d H1 ⟨d', kvs', ed, h1, h2⟩ => by cases ed; exact ⟨kvs', h1, h2⟩
theorem ev_total {σ : L2.St} {H : Hp} {te : TE} {X : XK} {qs : List Rat} (h : Eva Same te σ H (fun v H1 => Ls K (Rt K) qs v H1)) (s : SmAll qs) : Eva Same (tCall (spTotal K) [] X (tCons te tNil)) σ H (Rt K (tot qs)) := fun H1 e Q q =>
  h H1 e _ fun v H2 e2 r => ⟨qs, ⟨⟨v, rfl, r⟩, s⟩, fun v' H3 e3 r' => q v' H3 (e2.trans e3) r'⟩
theorem ok_cost (D : DefAt K mg "cost" s_cost) (U : Uni K mg aN uM uW uL) (Z : Mts P w K mg base C fI fM fR fN fH fdM fdR fdN fdH) (c_rests : Cal P w K mg base 5 "rests" ["survey", "placing"] (spRests K C)) (c_times : Cal P w K mg base 3 "times" ["one", "other"] (spTimes K))
    (c_plus : Cal P w K mg base 3 "plus" ["one", "other"] (spPlus K)) (c_whole : Cal P w K mg base 1 "whole" ["number"] (spWhole K)) (c_total : Cal P w K mg base 4 "total" ["some"] (spTotal K)) : Cal P w K mg base 6 "cost" ["survey", "placing"] (spCost K C) := by
  refine D.cal 5 sc_cost (fun _ _ _ _ _ _ us hl => match us, hl with | [_, _], _ => rfl) (fun vs H Q E h => ?_) (fun f cdv A outer s H vs Q E hr h => ?_)
  · obtain ⟨x, ⟨⟨_, _, rfl, _⟩, _⟩, _⟩ := h; rfl
  obtain ⟨⟨W, pl⟩, ⟨⟨v1, v2, rfl, hs, hpl⟩, ok, plok⟩, k⟩ := h
  have hs : SurV K C W v1 H := hs
  have hpl : PlV K pl v2 H := hpl
  have ok : W.Ok := ok
  have plok : PlOk pl := plok
  obtain ⟨M, c_Survey_marks, c_Survey_readings, c_Survey_names, c_Survey_hangs⟩ := Z
  refine ⟨_, (pss_cons (ps_set (i := 2) sc_cost.nd rfl (Or.inl rfl) (pe_meth0 (pv 0) M.cl M.readings c_Survey_readings.F (hr.mono (by decide)) c_Survey_readings.b .nil pass0))
      (pss_cons (ps_set (i := 3) sc_cost.nd rfl (Or.inl rfl) (pe_lst pa_nil))
      (pss_cons (ps_for PassesOwn.never rfl (pi_items (pe_freeze (c_rests.call (hr.mono (by decide)) (by rfl) (pa_cons (pv 0) (pa_cons (pv 1) pa_nil))))) (pg_tup rfl (pgs_cons (pg_name (i := 4) sc_cost.nd rfl (Or.inl rfl)) (pgs_cons (pg_tup rfl (pgs_cons (pg_name (i := 5) sc_cost.nd rfl (Or.inl rfl)) (pgs_cons (pg_name (i := 6) sc_cost.nd rfl (Or.inl rfl)) pgs_nil))) pgs_nil))) (pss_one (ps_expr (pe_bm PySem.F.plainAttrs_list PySem.F.slot_list_append PySem.F.type_list_append mt_append (pv 3) (pa_cons (c_times.call (hr.mono (by decide)) (by rfl) (pa_cons (c_whole.call (hr.mono (by decide)) (by rfl) (pa_cons (pe_ix ix_tup (pe_dget (hu_of hr) (pv 2) (pv 4) (fun _ _ => rfl)) pe_int (fun _ _ => rfl)) pa_nil)) (pa_cons (c_plus.call (hr.mono (by decide)) (by rfl) (pa_cons (c_times.call (hr.mono (by decide)) (by rfl) (pa_cons (pv 5) (pa_cons (pv 5) pa_nil))) (pa_cons (c_times.call (hr.mono (by decide)) (by rfl) (pa_cons (pv 6) (pa_cons (pv 6) pa_nil))) pa_nil))) pa_nil))) pa_nil)))))
      (pss_one (ps_ret (c_total.call (hr.mono (by decide)) (by rfl) (pa_cons (pv 3) pa_nil))))))), ?_⟩
  refine st_set (E := Same) (ev_readings (ev_var rfl) hs).eva (Same.refl _) ?_
  rintro _ H1 e1 ⟨dR, kR, rfl, hdR, qR⟩
  refine st_seq ⟨(by decide : 0 ≤ sizeLine), fun p hpn => ?_⟩
  have e2 : Same H1 (upd H1 p (.lst [])) := Same.new hpn
  have p2 : (upd H1 p (.lst [])) p = some (.lst []) := upd_same
  show tSeq _ _ _ _ (upd H1 p (.lst []))
  generalize upd H1 p (.lst []) = H2 at e2 p2
  have e02 := e1.trans e2
  refine st_forI (K := K) (S := Dc kI (SpV K) (restsF pl W.rds)) (ev_freeze (en_rests (ev_varR rfl (MonW.mono e02.wk hs)) (ev_varR rfl (MonW.mono e02.wk hpl)) ok plok) frz_rs) ?_
  intro db kB od H0 H3 e3 hdb hB w03
  have hB3 : Dc kI (SpV K) (restsF pl W.rds) kB H3 := hB.mono w03.tup
  have hlT : kB.length ≤ 22 := by rw [hB3.length]; exact Nat.le_trans restsF_len ok.rlen
  refine ⟨fun i σ H4 => (∃ o1 o2 o3, σ = [some v1, some v2, some (.ref dR), some (.ref p), o1, o2, o3]) ∧ Same H1 H4 ∧ H4 db = some (.frz od (.dK kB)) ∧ Tp H3 H4 ∧ ∃ vs, H4 p = some (.lst vs) ∧ Paired (fun v q => Rt K q v H4) vs ((costL pl W.rds).take i),
    ⟨⟨none, none, none, rfl⟩, e2.trans e3, hdb, Tp.refl _, [], e3 _ _ p2, .nil⟩, fun i σ' H' q => q.2.2.1, ?_, ?_⟩
  · rintro i x kk vv σ' H4 H5 hk ⟨⟨o1, o2, o3, rfl⟩, e4, db4, t4, vs, p4, ps4⟩ e5 hT
    obtain ⟨b, hb, rk, rv⟩ := pget hB3 hk
    rw [restsF_T, List.getElem?_map] at hb
    obtain ⟨t, ht, rfl⟩ := Option.map_eq_some_iff.mp hb
    obtain ⟨⟨n, r⟩, s⟩ := t
    have rk : kk = kI n := rk
    subst rk
    obtain ⟨hmem, hrs⟩ := restsT_mem (List.mem_of_getElem? ht)
    have hmem : (n, r) ∈ W.rds := hmem
    have hrs : restO pl r = some s := hrs
    have rb := ok.rdb hmem
    obtain ⟨D, D0, D1, hN⟩ := id plok
    have nr := nq_restO D1 hN rb hrs
    have hq : (costL pl W.rds)[i]? = some (partF r.wt s) := by rw [costL_T, List.getElem?_map, ht]; rfl
    have rv5 : SpV K s vv H5 := MonT.mono (t4.trans e5.tp) rv
    obtain ⟨u1, u2, hsp, hu1, hu2⟩ := rv5
    have e45 := e4.trans e5
    refine tg_tup (σ2 := [some v1, some v2, some (.ref dR), some (.ref p), some (.int n), some u1, some u2]) hT rfl (fun Q q => ⟨_, _, rfl, _, _, rfl, (tg_tup (σ2 := [some v1, some v2, some (.ref dR), some (.ref p), some (.int n), some u1, some u2]) hsp rfl (fun Q q => ⟨_, _, rfl, _, _, rfl, rfl, q⟩)) _ ⟨rfl, q⟩⟩) _ ?_
    have hl : vs.length < 100000 := by
      rw [ps4.length, List.length_take]
      have := List.length_filterMap_le (fun x : Int × Rdg => (restO pl x.2).map fun s => partF x.2.wt s) W.rds
      have := ok.rlen
      unfold costL
      omega
    -- readings[number][4]
    have hx : ∃ vr, valV kR (kI n) = some vr ∧ RdV K r vr H5 := by
      have := qR.val inl_inj n
      rw [ok.find hmem] at this
      obtain ⟨vr, h1, h2⟩ := this
      exact ⟨vr, h1, MonT.mono e45.tp h2⟩
    obtain ⟨vr, hvr, hvr2⟩ := hx
    have hrd : Eva Same (tDGet (tVar 2) (tVar 4)) [some v1, some v2, some (.ref dR), some (.ref p), some (.int n), some u1, some u2] H5 (RdV K r) := Eva.imp (ev_dget (k := kI n) (ev_var rfl) (.inl (e45 _ _ hdR)) (ev_var rfl) hvr) fun v H6 e r' => by rw [show v = vr from r']; exact MonW.mono e.wk hvr2
    refine st_append (R := Rt K (partF r.wt s)) rfl (e5 _ _ p4) hl (ev_R2 (ev_whole (rdv_ix hrd).2.2) (ev_R2 (ev_R2 (ev_varR rfl hu1) (ev_varR rfl hu1) (sm_of nr.1 D0 D1 (by decide)) (sm_of nr.1 D0 D1 (by decide))) (ev_R2 (ev_varR rfl hu2) (ev_varR rfl hu2) (sm_of nr.2 D0 D1 (by decide)) (sm_of nr.2 D0 D1 (by decide))) (sm_of2 (nq_sq nr.1) D0 D1 (by decide)) (sm_of2 (nq_sq nr.2) D0 D1 (by decide)))
      (sm_int (small_pow (by have := rb.w; omega) (by decide))) (sm_of2 ((nq_sq nr.1).add (nq_sq nr.2) (Nat.le_refl _) (Nat.le_refl _)) D0 D1 (by decide))) fun v H6 e6 hv => ?_
    have e56 := e5.trans e6
    have tp6 : Tp H6 (upd H6 p (.lst (vs ++ [v]))) := Tp.putL (e56 _ _ p4)
    refine ⟨⟨_, _, _, rfl⟩, Same.mut (e4.trans e56) hpn, ?_, (t4.trans e56.tp).trans tp6, _, upd_same, ?_⟩
    · rw [upd_ne (ne_of db4 p4 (fun z => nomatch z))]; exact e56 _ _ db4
    · rw [List.take_succ, hq]
      exact papp (paired_mono (R := fun q => Rt K q) (e56.tp.trans tp6) ps4) (.cons (MonT.mono tp6 hv) .nil)
  · rintro σ' H4 ⟨⟨o1, o2, o3, rfl⟩, e4, _, _, vs, p4, ps4⟩
    rw [List.take_of_length_le (by rw [hB3.length, restsF_T, costL_T, List.length_map, List.length_map]; exact Nat.le_refl _)] at ps4
    exact st_ret (E := Same) (ev_total (fun H5 e Q q => ⟨_, rfl, q _ H5 (Same.refl _) ⟨p, vs, rfl, SqL.of (e _ _ p4), paired_mono (R := fun q => Rt K q) e.tp ps4⟩⟩) (costL_sm ok plok)) (Same.refl _) fun v H5 e5 hv => k v H5 ((e1.trans e4).trans e5) hv
end
end Gm

set_option maxHeartbeats 4000000
namespace Gm
open PySem PySem.Spec PyProof.Rows L2
section
variable {K : PySem.W.Frag} {σ : L2.St} {H H' : Hp} {te : TE} {R : V → Hp → Prop}
/-- for k in d, d a dict that a local holds -/
theorem st_forK {d : Addr} {kvs : List (Key × V)} {j : Nat} {g : TG} {tb t2 : TS} {D : Ends} (hd : H d = some (.dK kvs)) (hv : σ[j]? = some (some (.ref d)))
    (k : ∀ od, ∃ Pv : Nat → L2.St → Hp → Prop, Pv 0 σ (upd H d (.frz od (.dK kvs))) ∧ (∀ i σ' H', Pv i σ' H' → H' d = some (.frz od (.dK kvs))) ∧
      (∀ i kk vv σ' H', kvs[i]? = some (kk, vv) → Pv i σ' H' → g (kV kk) σ' H' fun σ2 H3 => tb { nx := Pv (i + 1), ct := Pv (i + 1), bk := fun σ' H' => H' d = some (.frz od (.dK kvs)) ∧ t2 D σ' (upd H' d (.dK kvs)), rt := fun v H' => H' d = some (.frz od (.dK kvs)) ∧ D.rt v (upd H' d (.dK kvs)) } σ2 H3) ∧
      (∀ σ' H', Pv kvs.length σ' H' → t2 D σ' (upd H' d (.dK kvs)))) : tSeq (tLock (tFor (iKeys (tVar j)) g tb)) t2 D σ H := by
  refine st_seq (st_lock hd fun od => ?_)
  obtain ⟨Pv, h0, hl, hs, hdn⟩ := k od
  refine ⟨_, hv, d, od, rfl, .inl ⟨kvs, upd_same, for_it walk_keys Pv h0 (fun i σ' H' _ p => hl i σ' H' p) ?_ fun σ' H' p => ⟨hl _ σ' H' p, hdn σ' H' p⟩⟩⟩
  rintro i x σ' H1 H2 hi p ⟨rfl, kk, vv, hk, rfl⟩
  exact hs i kk vv σ' _ hk p
theorem ev_R2' {f : Rat → Rat → Rat} {ta tb : TE} {x y : Rat} {X : XK} (ha : Eva Same ta σ H (Rt K x)) (hb : Eva Same tb σ H (Rt K y)) (sx : Sm x) (sy : Sm y) : Eva Same (tCall (spR2 K f) [] X (tCons ta (tCons tb tNil))) σ H (Rt K (f x y)) := ev_R2 ha hb sx sy
end
section
variable {P : Program} {w : World} {K : PySem.W.Frag} {mg : Str → Option Value} {base : Heap} {aN : Addr} {uM uW uL : Value} {C fI fM fR fN fH : Addr} {fdM fdR fdN fdH : FuncData}
theorem restF_sel (r : Rdg) (a b : Rat × Rat) (i : Nat) : sel (restF r a b) i = sel b i - sel a i - (r.sz i : Rat) := by
  unfold sel restF Rdg.sz
  split <;> rfl
theorem sel_list (s : Rat × Rat) {i : Nat} (h : i < 2) : [s.1, s.2][i]? = some (sel s i) := by
  match i, h with
  | 0, _ => rfl
  | 1, _ => rfl
theorem sz_at (r : Rdg) {i : Nat} (h : i < 2) : atI [V.int r.ac, V.int r.up] (i : Int) = some (.int (r.sz i)) := by
  match i, h with
  | 0, _ => rfl
  | 1, _ => rfl
theorem paired2 {α β : Type} {F : α → β → Prop} {l : List α} {x y : β} (h : Paired F l [x, y]) : ∃ u v, l = [u, v] ∧ F u x ∧ F v y := by
  cases h with
  | cons h1 t => cases t with
    | cons h2 t => cases t with
      | nil => exact ⟨_, _, rfl, h1, h2⟩
theorem ok_l_rest (D : DefAt K mg "_law_rest" s_l_rest) (U : Uni K mg aN uM uW uL) (c_l_sub : Cal P w K mg base 2 "_law_sub" ["_law_a", "_law_b"] (spMinus K)) : Cal P w K mg base 3 "_law_rest" ["_law_placing", "_law_reading_here"] (spLRest K) := by
  refine D.cal 2 sc_l_rest (fun _ _ _ _ _ _ us hl => match us, hl with | [_, _], _ => rfl) (fun vs H Q E h => ?_) (fun f cdv A outer s H vs Q E hr h => ?_)
  · obtain ⟨x, ⟨⟨_, _, rfl, _⟩, _⟩, _⟩ := h; rfl
  obtain ⟨⟨r, pl, a, b⟩, ⟨⟨_, _, rfl, ⟨t, rfl, ht⟩, ⟨d, kvs, rfl, hd, hp⟩⟩, ha, hb, ⟨D, D0, D1, hN⟩, rb⟩, k⟩ := h
  have hp : Dc kS (SpV K) pl kvs H := hp
  have ha : lk pl r.one = some a := ha
  have hb : lk pl r.other = some b := hb
  have rb : RdB r := rb
  have na := hN _ (lk_mem ha)
  have nb := hN _ (lk_mem hb)
  have s1 := rb.a
  have s2 := rb.u
  refine ⟨_, (pss_cons (ps_asg (pv 1) (pg_tup rfl (pgs_cons (pg_name (i := 2) sc_l_rest.nd rfl (Or.inl rfl)) (pgs_cons (pg_name (i := 3) sc_l_rest.nd rfl (Or.inl rfl)) (pgs_cons (pg_name (i := 4) sc_l_rest.nd rfl (Or.inl rfl)) (pgs_cons (pg_name (i := 5) sc_l_rest.nd rfl (Or.inl rfl)) (pgs_cons (pg_name (i := 6) sc_l_rest.nd rfl (Or.inl rfl)) pgs_nil)))))))
      (pss_cons (ps_set (i := 7) sc_l_rest.nd rfl (Or.inl rfl) (pe_lst pa_nil))
      (pss_cons (ps_for PassesOwn.never rfl (pi_range1 (by rfl) U.range (pa_cons pe_int pa_nil)) (pg_name (i := 8) sc_l_rest.nd rfl (Or.inl rfl)) (pss_cons (ps_set (i := 9) sc_l_rest.nd rfl (Or.inl rfl) (c_l_sub.call (hr.mono (by decide)) (by rfl) (pa_cons (pe_ix ix_tup (pe_dget (hu_of hr) (pv 0) (pv 3) (fun _ _ => rfl)) (pv 8) (fun _ _ => rfl)) (pa_cons (pe_ix ix_tup (pe_dget (hu_of hr) (pv 0) (pv 2) (fun _ _ => rfl)) (pv 8) (fun _ _ => rfl)) pa_nil))))
      (pss_one (ps_expr (pe_bm PySem.F.plainAttrs_list PySem.F.slot_list_append PySem.F.type_list_append mt_append (pv 7) (pa_cons (c_l_sub.call (hr.mono (by decide)) (by rfl) (pa_cons (pv 9) (pa_cons (pe_tup (pa_cons (pe_ix ix_tup (pe_tup (pa_cons (pv 4) (pa_cons (pv 5) pa_nil))) (pv 8) (fun _ _ => rfl)) (pa_cons pe_int pa_nil))) pa_nil))) pa_nil))))))
      (pss_one (ps_ret (pe_callTy call_tuple_of (by rfl) U.tuple (by decide +kernel) (pa_cons (pv 7) pa_nil))))))), ?_⟩
  refine ⟨_, rfl, t, _, rfl, ht, rfl, _, _, rfl, _, _, rfl, _, _, rfl, _, _, rfl, _, _, rfl, rfl, ?_⟩
  refine st_seq ⟨(by decide : 0 ≤ sizeLine), fun p hpn => ?_⟩
  have e1 : Same H (upd H p (.lst [])) := Same.new hpn
  have p1 : (upd H p (.lst [])) p = some (.lst []) := upd_same
  show tSeq _ _ _ _ (upd H p (.lst []))
  generalize upd H p (.lst []) = H1 at e1 p1
  refine st_seq ⟨2, rfl, by decide, by decide, for_range (lo := 0) (n := 2) (fun i σ H2 => (∃ o1 o2, σ = [some (.ref d), some (.ref t), some (.str r.one), some (.str r.other), some (.int r.ac), some (.int r.up), some (.int r.wt), some (.ref p), o1, o2]) ∧ Same H H2 ∧ ∃ vs, H2 p = some (.lst vs) ∧ Paired (fun v q => Rt K q v H2) vs ([(restF r a b).1, (restF r a b).2].take i))
    ⟨⟨none, none, rfl⟩, e1, [], p1, .nil⟩ ?_ ?_⟩
  · rintro i σ H2 hi ⟨⟨o1, o2, rfl⟩, e2, vs, p2, ps2⟩
    have hp2 := hp.mono e2.tp
    have nai : Nq D 6000 (sel a i) := by unfold sel; split; exact na.1; exact na.2
    have nbi : Nq D 6000 (sel b i) := by unfold sel; split; exact nb.1; exact nb.2
    have hi0 : ((0 : Int) + (i : Int)) = (i : Int) := by omega
    show tSeq _ _ _ (List.set [some (.ref d), some (.ref t), some (.str r.one), some (.str r.other), some (.int r.ac), some (.int r.up), some (.int r.wt), some (.ref p), o1, o2] 8 (some (.int (0 + (i : Int))))) H2
    rw [hi0]
    refine st_set (E := Same) (R := Rt K (sel b i - sel a i)) (ev_R2 (x := sel b i) (y := sel a i) (ev_coord (i := i) (ev_spot (ev_var rfl) (e2.wk.dic _ _ hd) hp2 (ev_var rfl) hb) (ev_var rfl) hi) (ev_coord (i := i) (ev_spot (ev_var rfl) (e2.wk.dic _ _ hd) hp2 (ev_var rfl) ha) (ev_var rfl) hi) (sm_of nbi D0 D1 (by decide)) (sm_of nai D0 D1 (by decide))) (Same.refl _) fun v H3 e3 h3 => ?_
    have hsz : (r.sz i).natAbs ≤ 999 := by unfold Rdg.sz; split <;> omega
    have hc : Eva Same (tTup (tCons (tOp (rIxT K) (tTup (tCons (tVar 4) (tCons (tVar 5) tNil))) (tVar 8)) (tCons (tC (.int 1)) tNil))) [some (.ref d), some (.ref t), some (.str r.one), some (.str r.other), some (.int r.ac), some (.int r.up), some (.int r.wt), some (.ref p), some (.int (i : Int)), some v] H3 (Rt K (r.sz i : Rat)) := by
      have hin : Eva Same (tTup (tCons (tVar 4) (tCons (tVar 5) tNil))) [some (.ref d), some (.ref t), some (.str r.one), some (.str r.other), some (.int r.ac), some (.int r.up), some (.int r.wt), some (.ref p), some (.int (i : Int)), some v] H3 (TupV K [.int r.ac, .int r.up]) := by
        refine Eva.imp (ev_tup (ea_cons (ev_var rfl) (ea_cons (ev_var rfl) ea_nil)) 2 fun vs H1 r => ?_) fun v H1 e r => ?_
        · obtain ⟨_, _, rfl, _, _, _, rfl, _, rfl⟩ := r; simp
        · obtain ⟨a, vs, H0, rfl, ha, ⟨u, _, rfl, hu, u', _, rfl, hu', rfl⟩, w⟩ := r
          cases hu; cases hu'
          exact ⟨a, rfl, SqT.of ha⟩
      have hix : Eva Same (tOp (rIxT K) (tTup (tCons (tVar 4) (tCons (tVar 5) tNil))) (tVar 8)) [some (.ref d), some (.ref t), some (.str r.one), some (.str r.other), some (.int r.ac), some (.int r.up), some (.int r.wt), some (.ref p), some (.int (i : Int)), some v] H3 (Is (.int (r.sz i))) := by
        exact ev_ixT (i := (i : Int)) hin (ev_var rfl) (sz_at r hi)
      refine Eva.imp (ev_tup (ea_cons hix (ea_cons ev_c ea_nil)) 2 fun vs H1 r => ?_) fun v H1 e r => ?_
      · obtain ⟨_, _, rfl, _, _, _, rfl, _, rfl⟩ := r; simp
      · obtain ⟨a, vs, H0, rfl, ha, ⟨u, _, rfl, hu, u', _, rfl, hu', rfl⟩, w⟩ := r
        cases hu; cases hu'
        exact ⟨a, rfl, SqT.of ha⟩
    refine st_append (R := Rt K (sel b i - sel a i - (r.sz i : Rat))) rfl (e3 _ _ p2) ?_ (ev_R2 (ev_varR rfl h3) hc (sm_of (nq_gap nai nbi) D0 D1 (by decide)) (sm_int (small_pow hsz (by decide)))) fun v' H4 e4 h4 => ?_
    · rw [ps2.length, List.length_take]; simp; omega
    have e34 := e3.trans e4
    have tp4 : Tp H4 (upd H4 p (.lst (vs ++ [v']))) := Tp.putL (e34 _ _ p2)
    refine ⟨⟨_, _, rfl⟩, Same.mut (e2.trans e34) hpn, _, upd_same, ?_⟩
    rw [List.take_succ, sel_list _ hi]
    refine papp (paired_mono (R := fun q => Rt K q) (e34.tp.trans tp4) ps2) (.cons (MonT.mono tp4 ?_) .nil)
    rw [restF_sel]; exact h4
  · rintro σ H2 ⟨⟨o1, o2, rfl⟩, e2, vs, p2, ps2⟩
    obtain ⟨u1, u2, rfl, h1, h2⟩ := paired2 ps2
    · refine ⟨_, rfl, p, [u1, u2], rfl, .inl ⟨SqL.of p2, fun l hl => k _ _ (e2.trans (Same.new hl)) ⟨u1, u2, ⟨l, rfl, SqT.of upd_same⟩, MonW.mono (Same.new hl).wk h1, MonW.mono (Same.new hl).wk h2⟩⟩⟩
/-- a placing and readings -/
def PrePR (K : PySem.W.Frag) (x : Wd × PlL) : List V → Hp → Prop := fun vs H => (∃ u v, vs = [u, v] ∧ PlV K x.2 u H ∧ DcX kI (RdV K) x.1.rds v H) ∧ x.1.Ok ∧ PlOk x.2
def spLRests (K : PySem.W.Frag) : Sp := SpN (α := Wd × PlL) (PrePR K) (fun x => RsX K (restsF x.2 x.1.rds))
theorem ev_lrest {σ : L2.St} {H : Hp} {ta tb : TE} {X : XK} {r : Rdg} {pl : PlL} {a b : Rat × Rat} (ha : Eva Same ta σ H (PlV K pl)) (hb : Eva Same tb σ H (RdV K r)) (h : RestOk (r, pl, a, b)) : Eva Same (tCall (spLRest K) [] X (tCons ta (tCons tb tNil))) σ H (SpV K (restF r a b)) := by
  refine ev_G (α := Rdg × PlL × (Rat × Rat) × (Rat × Rat)) (r, pl, a, b) (ea_cons ha (ea_cons hb ea_nil)) ?_
  rintro vs H' _ ⟨v, r', rfl, hv, v', r'', rfl, hv', rfl⟩
  exact ⟨⟨v', v, rfl, hv', hv⟩, h⟩
theorem ok_l_rests (D : DefAt K mg "_law_rests" s_l_rests) (c_l_rest : Cal P w K mg base 3 "_law_rest" ["_law_placing", "_law_reading_here"] (spLRest K)) : Cal P w K mg base 4 "_law_rests" ["_law_placing", "_law_readings_here"] (spLRests K) := by
  refine D.cal 3 sc_l_rests (fun _ _ _ _ _ _ us hl => match us, hl with | [_, _], _ => rfl) (fun vs H Q E h => ?_) (fun f cdv A outer s H vs Q E hr h => ?_)
  · obtain ⟨x, ⟨⟨_, _, rfl, _⟩, _⟩, _⟩ := h; rfl
  obtain ⟨⟨W, pl⟩, ⟨⟨_, _, rfl, ⟨d, kvs, rfl, hd, hp⟩, ⟨db, kB, rfl, hdb, hB⟩⟩, ok, plok⟩, k⟩ := h
  have ok : W.Ok := ok
  have plok : PlOk pl := plok
  have hp : Dc kS (SpV K) pl kvs H := hp
  have hB : Dc kI (RdV K) W.rds kB H := hB
  refine ⟨_, (pss_cons (ps_set (i := 2) sc_l_rests.nd rfl (Or.inl rfl) pe_dnewK)
      (pss_cons (ps_lock (ps_for PassesOwn.never rfl (pi_keys (pv 1)) (pg_name (i := 3) sc_l_rests.nd rfl (Or.inl rfl)) (pss_one (ps_if (PW.pt (pw_and (pt_cmp (pc_din (hu_of hr) (pe_ix ix_tup (pe_dget (hu_of hr) (pv 1) (pv 3) (fun _ _ => rfl)) pe_int (fun _ _ => rfl)) (pv 0))) (pw_and1 (pt_cmp (pc_din (hu_of hr) (pe_ix ix_tup (pe_dget (hu_of hr) (pv 1) (pv 3) (fun _ _ => rfl)) pe_int (fun _ _ => rfl)) (pv 0)))))) (pss_one (ps_dput (hu_of hr) (pv 2) (pv 3) (c_l_rest.call (hr.mono (by decide)) (by rfl) (pa_cons (pv 0) (pa_cons (pe_dget (hu_of hr) (pv 1) (pv 3) (fun _ _ => rfl)) pa_nil))) rfl)) pss_nil))))
      (pss_one (ps_ret (pv 2))))), ?_⟩
  refine st_seq fun p hpn => ?_
  have e1 : Same H (upd H p (.dK [])) := Same.new hpn
  have p1 : (upd H p (.dK [])) p = some (.dK []) := upd_same
  show tSeq _ _ _ _ (upd H p (.dK []))
  generalize upd H p (.dK []) = H1 at e1 p1
  refine st_forK (kvs := kB) (e1 _ _ hdb) rfl fun od => ?_
  have wl : Wk H1 (upd H1 db (.frz od (.dK kB))) := Wk.lock (e1 _ _ hdb)
  have pdb : p ≠ db := fun e => by rw [e, hdb] at hpn; cases hpn
  refine ⟨fun i σ H3 => (∃ o1, σ = [some (.ref d), some (.ref db), some (.ref p), o1]) ∧ Wk H H3 ∧ (∀ a o, a ≠ db → H a = some o → H3 a = some o) ∧ H3 db = some (.frz od (.dK kB)) ∧ ∃ kk, H3 p = some (.dK kk) ∧ Dc kI (SpV K) (restsF pl (W.rds.take i)) kk H3,
    ⟨⟨none, rfl⟩, e1.wk.trans wl, fun a o ne h => by rw [upd_ne ne]; exact e1 _ _ h, upd_same, [], by rw [upd_ne pdb]; exact p1, .nil⟩, fun i σ' H' q => q.2.2.2.1, ?_, ?_⟩
  · rintro i kk vv σ' H3 hk ⟨⟨o1, rfl⟩, w3, s3, db3, ks, p3, dc3⟩
    obtain ⟨⟨n, r⟩, hr, rk, rv⟩ := pget hB hk
    have rk : kk = kI n := rk
    subst rk
    have rv3 : RdV K r vv H3 := MonT.mono w3.tup rv
    have hp3 := hp.mono w3.tup
    have hval : valV kB (kI n) = some vv := by
      have := hB.val inl_inj n
      rw [ok.find (List.mem_of_getElem? hr)] at this
      obtain ⟨v', h1, h2⟩ := this
      rw [h1]
      have h3 : kB.find? (fun kv => decide (kv.1 = kI n)) = some (kI n, vv) := by
        obtain ⟨⟨k', v''⟩, q, e, hx⟩ := find_mem (xs := kB) (k := kI n) (List.mem_map.mpr ⟨_, List.mem_of_getElem? hk, rfl⟩)
        have e : k' = kI n := e
        subst e
        obtain ⟨i1, g1⟩ := List.getElem?_of_mem hx
        have g2 : (kB.map (·.1))[i1]? = some (kI n) := by rw [List.getElem?_map, g1]; rfl
        have g3 : (kB.map (·.1))[i]? = some (kI n) := by rw [List.getElem?_map, hk]; rfl
        have nd : (kB.map (·.1)).Nodup := by
          rw [hB.keys]
          exact (List.Pairwise.map _ (fun a b h => fun e => by
            have := Sum.inl.inj e
            omega) (List.pairwise_map.mp ok.rnum))
        have := nd_ix nd g2 g3
        subst this
        rw [hk] at g1; cases g1; exact q
      unfold valV at h1
      rw [h3] at h1
      exact h1.symm
    have hrd : ∀ {H4 : Hp} {σ : L2.St}, Same H3 H4 → σ = [some (.ref d), some (.ref db), some (.ref p), some (.int n)] → Eva Same (tDGet (tVar 1) (tVar 3)) σ H4 (RdV K r) := fun {H4 σ} e4 eσ => by
      subst eσ
      exact Eva.imp (ev_dget (k := kI n) (ev_var rfl) (.inr ⟨od, e4 _ _ db3⟩) (ev_var rfl) hval) fun v H6 e r' => by rw [show v = vv from r']; exact MonW.mono (e4.trans e).wk rv3
    show tIfS _ _ _ _ [some (.ref d), some (.ref db), some (.ref p), some (.int n)] H3
    refine st_ifL (E := Same) (et_placed (rdv_ix (hrd (Same.refl _) rfl)).1 (ev_var rfl) (rdv_ix (hrd (Same.refl _) rfl)).2.1 (ev_var rfl) (w3.dic _ _ hd) hp3) (Same.refl _) (fun z H5 e5 => ?_) (fun z H5 e5 => ?_)
    · obtain ⟨s, hs'⟩ := Option.isSome_iff_exists.mp z
      obtain ⟨a, b, ha, hb, rfl⟩ := restO_some hs'
      have p5 := e5 _ _ p3
      have hlen : ks.length < sizeLine := by
        rw [dc3.length]
        have h1 := @restsF_len pl (W.rds.take i)
        have h2 : (W.rds.take i).length ≤ W.rds.length := by rw [List.length_take]; omega
        have h3 := ok.rlen
        exact Nat.lt_of_le_of_lt (show _ ≤ 22 by omega) (by decide)
      refine st_dput (k := kI n) (ev_lrest (ev_varR (R := PlV K pl) rfl ⟨d, kvs, rfl, e5.wk.dic _ _ (w3.dic _ _ hd), hp3.mono e5.tp⟩) (hrd e5 rfl) ⟨ha, hb, plok, ok.rdb (List.mem_of_getElem? hr)⟩) rfl (ev_var rfl) p5 hlen fun v H6 e6 hv => ?_
      have e56 := e5.trans e6
      have p6 := e56 _ _ p3
      have hnew : valV ks (kI n) = none := valV_none fun q hq => by
        obtain ⟨b, hb, e, _⟩ := paired_mem dc3 hq
        rw [e]
        intro z
        exact take_new ok.rnum hr (by rw [← Sum.inl.inj z]; exact restsF_keys hb)
      have tp6 : Tp H6 (upd H6 p (.dK (putK ks (kI n) v))) := Tp.putD p6
      have hne : ∀ a o, H a = some o → a ≠ p := fun a o h e => by rw [e, hpn] at h; cases h
      refine ⟨⟨_, rfl⟩, ⟨fun a xs q => tp6 _ _ (e56.tp _ _ (w3.tup _ _ q)), fun a k' q => ?_, fun a C' dx fs q => ?_⟩, fun a o ne h => ?_, ?_, _, upd_same, ?_⟩
      · have ap : a ≠ p := by rcases q with q | ⟨u, q⟩ <;> exact hne _ _ q
        rcases e56.wk.dic _ _ (w3.dic _ _ q) with q' | ⟨u, q'⟩
        · exact .inl (by rw [upd_ne ap]; exact q')
        · exact .inr ⟨u, by rw [upd_ne ap]; exact q'⟩
      · rw [upd_ne (hne _ _ q)]; exact e56.wk.ins _ _ _ _ (w3.ins _ _ _ _ q)
      · rw [upd_ne (hne _ _ h)]; exact e56 _ _ (s3 _ _ ne h)
      · rw [upd_ne pdb.symm]; exact e56 _ _ db3
      · rw [restsF_snoc hr, hs']
        rw [putK_new v hnew] at tp6 ⊢
        exact papp ((dc3.mono e56.tp).mono tp6) (.cons ⟨rfl, MonT.mono tp6 hv⟩ .nil)
    · refine ⟨⟨_, rfl⟩, w3.trans e5.wk, fun a o ne h => e5 _ _ (s3 _ _ ne h), e5 _ _ db3, ks, e5 _ _ p3, ?_⟩
      rw [restsF_snoc hr, Option.isSome_eq_false_iff.mp z |> Option.isNone_iff_eq_none.mp]
      simpa using dc3.mono e5.tp
  · rintro σ' H3 ⟨⟨o1, rfl⟩, w3, s3, db3, ks, p3, dc3⟩
    have wu : Wk H3 (upd H3 db (.dK kB)) := Wk.unlock db3
    refine ⟨_, rfl, k p _ (fun a o h => ?_) hpn ⟨p, ks, rfl, by rw [upd_ne pdb]; exact p3, ?_⟩⟩
    · by_cases ne : a = db
      · subst ne; rw [hdb] at h; cases h; exact upd_same
      · rw [upd_ne ne]; exact s3 _ _ ne h
    · rw [List.take_of_length_le (by rw [hB.length]; exact Nat.le_refl _)] at dc3
      exact dc3.mono wu.tup
end
end Gm

set_option maxHeartbeats 4000000
namespace Gm
open PySem PySem.Spec PyProof.Rows L2
section
variable {K : PySem.W.Frag} {σ : L2.St} {H H' : Hp} {te ti : TE} {R : V → Hp → Prop}
/-- xs[i] = e, xs and i locals -/
theorem st_setix [MonE Same R] {p : Addr} {xs : List V} {i : Nat} {z : Int} {j : Nat} {D : Ends} (hi : σ[i]? = some (some (.ref p))) (hp : H p = some (.lst xs)) (hz : Eva Same ti σ H (Is (.int z))) (hj : ixN xs.length z = some j) (hv : Eva Same te σ H R)
    (k : ∀ v H1, Same H H1 → R v H1 → D.nx σ (upd H1 p (.lst (xs.set j v)))) : tAsg te (gSub (tVar i) ti rSetL) D σ H :=
  hv H (Same.refl _) _ fun v H1 e1 r => ⟨_, hi, hz H1 e1 _ fun z' H2 e2 rz => ⟨p, xs, z, j, rfl, rz, (e1.trans e2) _ _ hp, hj, k v H2 (e1.trans e2) (MonE.mono e2 r)⟩⟩
theorem ixN_nat {n i : Nat} (h : i < n) : ixN n (i : Int) = some i := by
  unfold ixN
  rw [if_pos (by omega), if_pos (by omega)]; simp
/-- a list of two ratios, read at a place -/
theorem ev_two {p : Addr} {u0 u1 : V} {q0 q1 : Rat} {i : Nat} {j : Nat} (hj : σ[j]? = some (some (.ref p))) (hp : H p = some (.lst [u0, u1])) (h0 : Rt K q0 u0 H) (h1 : Rt K q1 u1 H) (hi : Eva Same ti σ H (Is (.int (i : Int)))) (hlt : i < 2) :
    Eva Same (tOp (rIxL K) (tVar j) ti) σ H (Rt K (if i = 0 then q0 else q1)) := by
  match i, hlt with
  | 0, _ => exact Eva.imp (ev_ixL (v := u0) (ev_var hj) (SqL.of hp) (fun z => z) hi rfl) fun v H1 e r => by rw [show v = u0 from r]; exact MonW.mono e.wk h0
  | 1, _ => exact Eva.imp (ev_ixL (v := u1) (ev_var hj) (SqL.of hp) (fun z => z) hi rfl) fun v H1 e r => by rw [show v = u1 from r]; exact MonW.mono e.wk h1
theorem set_two {u0 u1 v : V} {i : Nat} (h : i < 2) : [u0, u1].set i v = [if i = 0 then v else u0, if i = 0 then u1 else v] := by
  match i, h with
  | 0, _ => rfl
  | 1, _ => rfl
/-- for x in a tuple that an expression gives -/
theorem st_forT {E : Hp → Hp → Prop} [PreE E] {xs : List V} {g : TG} {tb : TS} {D : Ends} (h : Eva E te σ H (TupV K xs)) (e0 : E H H)
    (k : ∀ a H1, E H H1 → SqT K H1 a xs → ∃ Pv : Nat → L2.St → Hp → Prop, Pv 0 σ H1 ∧ (∀ i σ H, i ≤ xs.length → Pv i σ H → SqT K H a xs) ∧
      (∀ i x σ H, xs[i]? = some x → Pv i σ H → g x σ H fun σ2 H2 => tb { D with nx := Pv (i + 1), ct := Pv (i + 1), bk := D.nx } σ2 H2) ∧ (∀ σ H, Pv xs.length σ H → D.nx σ H)) : tFor (iTup K te) g tb D σ H :=
  h H e0 _ fun v H1 e1 ⟨a, ea, hs⟩ => by
    obtain ⟨Pv, h0, hl, hst, hd⟩ := k a H1 e1 hs
    exact ⟨a, ea, ⟨xs, hs⟩, for_tup (K := K) (a := a) (xs := xs) Pv h0 hl hst hd⟩
theorem two_at {x : V} {i : Nat} (h : [V.int 0, V.int 1][i]? = some x) : i < 2 ∧ x = .int (i : Int) := by
  match i, h with
  | 0, h => exact ⟨by decide, by simpa using h.symm⟩
  | 1, h => exact ⟨by decide, by simpa using h.symm⟩
  | i + 2, h => simp at h
theorem ev_lit2 : Eva Same (tTup (tCons (tC (.int 0)) (tCons (tC (.int 1)) tNil))) σ H (TupV K [.int 0, .int 1]) := by
  refine Eva.imp (ev_tup (ea_cons ev_c (ea_cons ev_c ea_nil)) 2 fun vs H1 r => ?_) fun v H1 e r => ?_
  · obtain ⟨_, _, rfl, _, _, _, rfl, _, rfl⟩ := r; simp
  · obtain ⟨a, vs, H0, rfl, ha, ⟨u, _, rfl, hu, u', _, rfl, hu', rfl⟩, w⟩ := r
    cases hu; cases hu'
    exact ⟨a, rfl, SqT.of ha⟩
/-- xs[i] = f(xs[i], w), xs a list of two -/
theorem put_two {f : Rat → Rat → Rat} {p : Addr} {u0 u1 wv : V} {q0 q1 x : Rat} {j i1 i2 i3 : Nat} {D : Ends} {X : XK} (h3 : σ[i1]? = some (some (.ref p))) (h11 : σ[i2]? = some (some (.int (j : Int)))) (h12 : σ[i3]? = some (some wv)) (hw : Rt K x wv H) (hp : H p = some (.lst [u0, u1])) (g0 : Rt K q0 u0 H) (g1 : Rt K q1 u1 H)
    (hj : j < 2) (sq : Sm (if j = 0 then q0 else q1)) (sx : Sm x) (k : ∀ v0 v1 H1, Same H H1 → Rt K (if j = 0 then f q0 x else q0) v0 H1 → Rt K (if j = 0 then q1 else f q1 x) v1 H1 → D.nx σ (upd H1 p (.lst [v0, v1]))) :
    tAsg (tCall (spR2 K f) [] X (tCons (tOp (rIxL K) (tVar i1) (tVar i2)) (tCons (tVar i3) tNil))) (gSub (tVar i1) (tVar i2) rSetL) D σ H := by
  refine st_setix (R := Rt K (f (if j = 0 then q0 else q1) x)) (z := (j : Int)) (j := j) h3 hp (ev_var h11) (ixN_nat hj) (ev_R2 (ev_two h3 hp g0 g1 (ev_var h11) hj) (ev_varR h12 hw) sq sx) fun v H1 e1 hv => ?_
  rw [set_two hj]
  refine k _ _ _ e1 ?_ ?_
  · by_cases h : j = 0
    · rw [if_pos h, if_pos h]; rw [if_pos h] at hv; exact hv
    · rw [if_neg h, if_neg h]; exact MonW.mono e1.wk g0
  · by_cases h : j = 0
    · rw [if_pos h, if_pos h]; exact MonW.mono e1.wk g1
    · rw [if_neg h, if_neg h]; rw [if_neg h] at hv; exact hv
end
section
variable {P : Program} {w : World} {K : PySem.W.Frag} {mg : Str → Option Value} {base : Heap} {aN : Addr} {uM uW uL : Value} {C fI fM fR fN fH : Addr} {fdM fdR fdN fdH : FuncData}
/-- how the heap stands while the two sums are gathered -/
def UI (K : PySem.W.Frag) (H H3 : Hp) (db dL p : Addr) (od : Obj) (kB kL : List (Key × V)) (q0 q1 : Rat) (H4 : Hp) : Prop :=
  Same H H4 ∧ H4 db = some (.frz od (.dK kB)) ∧ H4 dL = some (.dK kL) ∧ Tp H3 H4 ∧ ∃ u0 u1, H4 p = some (.lst [u0, u1]) ∧ Rt K q0 u0 H4 ∧ Rt K q1 u1 H4
theorem UI.same {H H3 : Hp} {db dL p : Addr} {od : Obj} {kB kL : List (Key × V)} {q0 q1 : Rat} {H4 H5 : Hp} (u : UI K H H3 db dL p od kB kL q0 q1 H4) (e : Same H4 H5) : UI K H H3 db dL p od kB kL q0 q1 H5 := by
  obtain ⟨h1, h2, h3, h4, u0, u1, h5, h6, h7⟩ := u
  exact ⟨h1.trans e, e _ _ h2, e _ _ h3, h4.trans e.tp, u0, u1, e _ _ h5, MonW.mono e.wk h6, MonW.mono e.wk h7⟩
theorem UI.put {H H3 : Hp} {db dL p : Addr} {od : Obj} {kB kL : List (Key × V)} {q0 q1 r0 r1 : Rat} {H4 : Hp} {v0 v1 : V} (u : UI K H H3 db dL p od kB kL q0 q1 H4) (hp : H p = none) (h0 : Rt K r0 v0 H4) (h1 : Rt K r1 v1 H4) : UI K H H3 db dL p od kB kL r0 r1 (upd H4 p (.lst [v0, v1])) := by
  obtain ⟨g1, g2, g3, g4, u0, u1, g5, g6, g7⟩ := u
  have t : Tp H4 (upd H4 p (.lst [v0, v1])) := Tp.putL g5
  refine ⟨Same.mut g1 hp, ?_, ?_, g4.trans t, v0, v1, upd_same, MonT.mono t h0, MonT.mono t h1⟩
  · rw [upd_ne (ne_of g2 g5 (fun z => nomatch z))]; exact g2
  · rw [upd_ne (ne_of g3 g5 (fun z => nomatch z))]; exact g3
theorem str_dec (a b : Str) : decide (V.str a = V.str b) = decide (a = b) := by
  by_cases h : a = b
  · rw [h, decide_eq_true rfl, decide_eq_true rfl]
  · rw [decide_eq_false h, decide_eq_false (fun z => h (V.str.inj z))]
end
theorem nq_mid {pl : PlL} {nm : Str} {j D : Nat} {acc : Rat} {r : Rdg} (h1 : Nq D 6012 acc) (h2 : Nq D 6006 (uncPart pl j r)) : Nq D 6013 (uncMid pl nm j acc r) := by
  unfold uncMid
  split
  · exact h1.add h2 (Nat.le_refl _) (by decide)
  · exact h1.mono (by decide)
section
variable {K : PySem.W.Frag} {σ : L2.St} {X Y : XK}
theorem unc_two {H H3 H4 : Hp} {db dL p ta : Addr} {od : Obj} {kB kL : List (Key × V)} {q0 q1 : Rat} {j : Nat} {nm : Str} {pv : V} {pl : PlL} {r : Rdg} {D : Ends} (hp : H p = none) (u : UI K H H3 db dL p od kB kL q0 q1 H4) (hta : SqT K H4 ta [.int 0, .int 1]) (hj : j < 2)
    (i2 : σ[2]? = some (some (.str nm))) (i3 : σ[3]? = some (some (.ref p))) (i6 : σ[6]? = some (some (.str r.one))) (i7 : σ[7]? = some (some (.str r.other))) (i11 : σ[11]? = some (some (.int (j : Int)))) (i12 : σ[12]? = some (some pv)) (hpv : Rt K (uncPart pl j r) pv H4)
    (s1 : Sm (uncPart pl j r)) (s2 : Sm (if j = 0 then q0 else q1)) (s3 : Sm (uncMid pl nm j (if j = 0 then q0 else q1) r))
    (k : ∀ H5, SqT K H5 ta [.int 0, .int 1] → UI K H H3 db dL p od kB kL (if j = 0 then uncStep pl nm j q0 r else q0) (if j = 0 then q1 else uncStep pl nm j q1 r) H5 → D.nx σ H5) :
    tSeq (tIfS (tTest (tOp rEq (tVar 7) (tVar 2))) (tAsg (tCall (spPlus K) [] X (tCons (tOp (rIxL K) (tVar 3) (tVar 11)) (tCons (tVar 12) tNil))) (gSub (tVar 3) (tVar 11) rSetL)) tNext)
      (tIfS (tTest (tOp rEq (tVar 6) (tVar 2))) (tAsg (tCall (spMinus K) [] Y (tCons (tOp (rIxL K) (tVar 3) (tVar 11)) (tCons (tVar 12) tNil))) (gSub (tVar 3) (tVar 11) rSetL)) tNext) D σ H4 := by
  have keepT : ∀ {A : Hp} {v0 v1 : V}, (∃ u0 u1, A p = some (.lst [u0, u1])) → SqT K A ta [.int 0, .int 1] → SqT K (upd A p (.lst [v0, v1])) ta [.int 0, .int 1] := fun ⟨u0, u1, h⟩ q => (Wk.putL h).sqT q
  have second : ∀ H5, SqT K H5 ta [.int 0, .int 1] → UI K H H3 db dL p od kB kL (if j = 0 then uncMid pl nm j q0 r else q0) (if j = 0 then q1 else uncMid pl nm j q1 r) H5 → Rt K (uncPart pl j r) pv H5 →
      (tIfS (tTest (tOp rEq (tVar 6) (tVar 2))) (tAsg (tCall (spMinus K) [] Y (tCons (tOp (rIxL K) (tVar 3) (tVar 11)) (tCons (tVar 12) tNil))) (gSub (tVar 3) (tVar 11) rSetL)) tNext) D σ H5 := by
    intro H5 ht5 u5 hv5
    refine st_ifL (E := Same) (et_test (ev_eq (ev_var i6) (ev_var i2) rfl)) (Same.refl _) (fun z H6 e6 => ?_) (fun z H6 e6 => ?_)
    · have u6 := u5.same e6
      obtain ⟨v0, v1, p6, g0, g1⟩ := u6.2.2.2.2
      refine put_two i3 i11 i12 (MonW.mono e6.wk hv5) p6 g0 g1 hj (by
        rcases (by omega : j = 0 ∨ j = 1) with rfl | rfl
        · exact s3
        · exact s3) s1 fun w0 w1 H7 e7 k0 k1 => ?_
      have u7 := u6.same e7
      refine k _ (keepT ⟨_, _, u7.2.2.2.2.choose_spec.choose_spec.1⟩ ((e6.trans e7).wk.sqT ht5)) (u7.put hp ?_ ?_)
      · have e : (if j = 0 then uncStep pl nm j q0 r else q0) = (if j = 0 then (if j = 0 then uncMid pl nm j q0 r else q0) - uncPart pl j r else (if j = 0 then uncMid pl nm j q0 r else q0)) := by
          rw [str_dec] at z
          unfold uncStep
          rw [if_pos (of_decide_eq_true z)]
          split <;> rfl
        rw [e]; exact k0
      · have e : (if j = 0 then q1 else uncStep pl nm j q1 r) = (if j = 0 then (if j = 0 then q1 else uncMid pl nm j q1 r) else (if j = 0 then q1 else uncMid pl nm j q1 r) - uncPart pl j r) := by
          rw [str_dec] at z
          unfold uncStep
          rw [if_pos (of_decide_eq_true z)]
          split <;> rfl
        rw [e]; exact k1
    · have u6 := u5.same e6
      rw [str_dec] at z
      have z := of_decide_eq_false z
      have e : ∀ q, uncStep pl nm j q r = uncMid pl nm j q r := fun q => by unfold uncStep; rw [if_neg z]
      rw [e, e] at k
      exact k _ (e6.wk.sqT ht5) u6
  refine st_ifN (E := Same) (et_test (ev_eq (ev_var i7) (ev_var i2) rfl)) (Same.refl _) (fun z H6 e6 => ?_) (fun z H6 e6 => ?_)
  · have u6 := u.same e6
    obtain ⟨v0, v1, p6, g0, g1⟩ := u6.2.2.2.2
    refine put_two i3 i11 i12 (MonW.mono e6.wk hpv) p6 g0 g1 hj s2 s1 fun w0 w1 H7 e7 k0 k1 => ?_
    have u7 := u6.same e7
    have p7 := u7.2.2.2.2.choose_spec.choose_spec.1
    rw [str_dec] at z
    have z := of_decide_eq_true z
    have e : ∀ q, uncMid pl nm j q r = q + uncPart pl j r := fun q => by unfold uncMid; rw [if_pos z]
    refine second _ (keepT ⟨_, _, p7⟩ ((e6.trans e7).wk.sqT hta)) (u7.put hp ?_ ?_) (MonT.mono (Tp.putL p7) (MonW.mono (e6.trans e7).wk hpv))
    · rw [e]; exact k0
    · rw [e]; exact k1
  · rw [str_dec] at z
    have z := of_decide_eq_false z
    have e : ∀ q, uncMid pl nm j q r = q := fun q => by unfold uncMid; rw [if_neg z]
    refine second _ (e6.wk.sqT hta) ?_ (MonW.mono e6.wk hpv)
    have h1 : (if j = 0 then uncMid pl nm j q0 r else q0) = q0 := by rw [e]; split <;> rfl
    have h2 : (if j = 0 then q1 else uncMid pl nm j q1 r) = q1 := by rw [e]; split <;> rfl
    rw [h1, h2]
    exact u.same e6
end
section
variable {P : Program} {w : World} {K : PySem.W.Frag} {mg : Str → Option Value} {base : Heap} {aN : Addr} {uM uW uL : Value} {C fI fM fR fN fH : Addr} {fdM fdR fdN fdH : FuncData}
noncomputable def spUnc (K : PySem.W.Frag) (C : Addr) : Sp := SpG (α := (Wd × PlL) × Str) (fun x vs H => (∃ u v, vs = [u, v, .str x.2] ∧ SurV K C x.1.1 u H ∧ PlV K x.1.2 v H) ∧ x.1.1.Ok ∧ PlOk x.1.2) (fun x => SpV K (uncF x.1.2 x.1.1.rds x.2 0, uncF x.1.2 x.1.1.rds x.2 1))
theorem uncPart_sel (pl : PlL) (way : Nat) (r : Rdg) : uncPart pl way r = (match restO pl r with | some s => (r.wt : Rat) * sel s way | none => 0) := rfl
theorem ok_uncancelled (D : DefAt K mg "uncancelled" s_uncancelled) (U : Uni K mg aN uM uW uL) (Z : Mts P w K mg base C fI fM fR fN fH fdM fdR fdN fdH) (c_rests : Cal P w K mg base 5 "rests" ["survey", "placing"] (spRests K C)) (c_times : Cal P w K mg base 3 "times" ["one", "other"] (spTimes K))
    (c_plus : Cal P w K mg base 3 "plus" ["one", "other"] (spPlus K)) (c_minus : Cal P w K mg base 3 "minus" ["one", "other"] (spMinus K)) (c_whole : Cal P w K mg base 1 "whole" ["number"] (spWhole K)) : Cal P w K mg base 6 "uncancelled" ["survey", "placing", "name"] (spUnc K C) := by
  refine D.cal 5 sc_uncancelled (fun _ _ _ _ _ _ us hl => match us, hl with | [_, _, _], _ => rfl) (fun vs H Q E h => ?_) (fun f cdv A outer s H vs Q E hr h => ?_)
  · obtain ⟨x, ⟨⟨_, _, rfl, _⟩, _⟩, _⟩ := h; rfl
  obtain ⟨⟨⟨W, pl⟩, nm⟩, ⟨⟨v1, v2, rfl, hs, hpl⟩, ok, plok⟩, k⟩ := h
  have hs : SurV K C W v1 H := hs
  have hpl : PlV K pl v2 H := hpl
  have ok : W.Ok := ok
  have plok : PlOk pl := plok
  obtain ⟨M, c_Survey_marks, c_Survey_readings, c_Survey_names, c_Survey_hangs⟩ := Z
  refine ⟨_, (pss_cons (ps_set (i := 3) sc_uncancelled.nd rfl (Or.inl rfl) (pe_lst (pa_cons (pe_glob (by rfl) U.gNOUGHT U.rNOUGHT) (pa_cons (pe_glob (by rfl) U.gNOUGHT U.rNOUGHT) pa_nil))))
      (pss_cons (ps_set (i := 4) sc_uncancelled.nd rfl (Or.inl rfl) (c_rests.call (hr.mono (by decide)) (by rfl) (pa_cons (pv 0) (pa_cons (pv 1) pa_nil))))
      (pss_cons (ps_for PassesOwn.never rfl (pi_items (pe_freeze (pe_meth0 (pv 0) M.cl M.readings c_Survey_readings.F (hr.mono (by decide)) c_Survey_readings.b .nil pass0))) (pg_tup rfl (pgs_cons (pg_name (i := 5) sc_uncancelled.nd rfl (Or.inl rfl)) (pgs_cons (pg_tup rfl (pgs_cons (pg_name (i := 6) sc_uncancelled.nd rfl (Or.inl rfl)) (pgs_cons (pg_name (i := 7) sc_uncancelled.nd rfl (Or.inl rfl)) (pgs_cons (pg_name (i := 8) sc_uncancelled.nd rfl (Or.inl rfl)) (pgs_cons (pg_name (i := 9) sc_uncancelled.nd rfl (Or.inl rfl)) (pgs_cons (pg_name (i := 10) sc_uncancelled.nd rfl (Or.inl rfl)) pgs_nil)))))) pgs_nil))) (pss_one (ps_for PassesOwn.never rfl (pi_tup (pe_tup (pa_cons pe_int (pa_cons pe_int pa_nil)))) (pg_name (i := 11) sc_uncancelled.nd rfl (Or.inl rfl)) (pss_cons (ps_set (i := 12) sc_uncancelled.nd rfl (Or.inl rfl) (pe_ifExp (pt_cmp (pc_din (hu_of hr) (pv 5) (pv 4))) (c_times.call (hr.mono (by decide)) (by rfl) (pa_cons (c_whole.call (hr.mono (by decide)) (by rfl) (pa_cons (pv 10) pa_nil)) (pa_cons (pe_ix ix_tup (pe_dget (hu_of hr) (pv 4) (pv 5) (fun _ _ => rfl)) (pv 11) (fun _ _ => rfl)) pa_nil))) (pe_glob (by rfl) U.gNOUGHT U.rNOUGHT)))
      (pss_cons (ps_if (pt_cmpR op_eq (pv 7) (pv 2) (nomark _)) (pss_one (ps_asg (c_plus.call (hr.mono (by decide)) (by rfl) (pa_cons (pe_ix ix_list (pv 3) (pv 11) (fun _ _ => rfl)) (pa_cons (pv 12) pa_nil))) (pg_sub (pv 3) (pv 11) set_list))) pss_nil)
      (pss_one (ps_if (pt_cmpR op_eq (pv 6) (pv 2) (nomark _)) (pss_one (ps_asg (c_minus.call (hr.mono (by decide)) (by rfl) (pa_cons (pe_ix ix_list (pv 3) (pv 11) (fun _ _ => rfl)) (pa_cons (pv 12) pa_nil))) (pg_sub (pv 3) (pv 11) set_list))) pss_nil)))))))
      (pss_one (ps_ret (pe_callTy call_tuple_of (by rfl) U.tuple (by decide +kernel) (pa_cons (pv 3) pa_nil))))))), ?_⟩
  refine st_seq ⟨(by decide : 2 ≤ sizeLine), fun p hpn => ?_⟩
  have e1 : Same H (upd H p (.lst [.ref aN, .ref aN])) := Same.new hpn
  have p1 : (upd H p (.lst [.ref aN, .ref aN])) p = some (.lst [.ref aN, .ref aN]) := upd_same
  show tSeq _ _ _ _ (upd H p (.lst [.ref aN, .ref aN]))
  generalize upd H p (.lst [.ref aN, .ref aN]) = H1 at e1 p1
  refine st_set (E := Same) (en_rests (ev_varR rfl (MonW.mono e1.wk hs)) (ev_varR rfl (MonW.mono e1.wk hpl)) ok plok).eva (Same.refl _) ?_
  rintro _ H2 e2 ⟨dL, kL, rfl, hdL, qL⟩
  have e02 := e1.trans e2
  have dLp : dL ≠ p := ne_of hdL (e2 _ _ p1) (fun z => nomatch z)
  refine st_forI (K := K) (S := Dc kI (RdV K) W.rds) (ev_freeze (ev_readings (ev_var rfl) (MonW.mono e02.wk hs)) fun d H1 ⟨d', kvs', ed, h1, h2⟩ => by cases ed; exact ⟨kvs', h1, h2⟩) ?_
  intro db kB od H0 H3 e3 hdb hB w03
  have hB3 : Dc kI (RdV K) W.rds kB H3 := hB.mono w03.tup
  obtain ⟨D, D0, D1, hN⟩ := id plok
  have qL3 : Dc kI (SpV K) (restsF pl W.rds) kL H3 := qL.mono e3.tp
  -- the invariant
  refine ⟨fun i σ H4 => (∃ o1 o2 o3 o4 o5 o6 o7 o8, σ = [some v1, some v2, some (.str nm), some (.ref p), some (.ref dL), o1, o2, o3, o4, o5, o6, o7, o8]) ∧ UI K H H3 db dL p od kB kL (uncF pl (W.rds.take i) nm 0) (uncF pl (W.rds.take i) nm 1) H4,
    ⟨⟨none, none, none, none, none, none, none, none, rfl⟩, e02.trans e3, hdb, e3 _ _ hdL, Tp.refl _, _, _, (e2.trans e3) _ _ p1, rt0 U _, rt0 U _⟩, fun i σ' H' q => q.2.2.1, ?_, ?_⟩
  · rintro i x kk vv σ' H4 H5 hk ⟨⟨o1, o2, o3, o4, o5, o6, o7, o8, rfl⟩, ui4⟩ e5 hT
    obtain ⟨⟨n, r⟩, hr, rk, rv⟩ := pget hB3 hk
    have rk : kk = kI n := rk
    subst rk
    have rb := ok.rdb (List.mem_of_getElem? hr)
    have t4 : Tp H3 H4 := ui4.2.2.2.1
    have rv5 : RdV K r vv H5 := MonT.mono (t4.trans e5.tp) (show RdV K r vv H3 from rv)
    refine tg_tup (σ2 := [some v1, some v2, some (.str nm), some (.ref p), some (.ref dL), some (.int n), some (.str r.one), some (.str r.other), some (.int r.ac), some (.int r.up), some (.int r.wt), o7, o8]) hT rfl (fun Q q => ⟨_, _, rfl, _, _, rfl, (tg_tup (σ2 := [some v1, some v2, some (.str nm), some (.ref p), some (.ref dL), some (.int n), some (.str r.one), some (.str r.other), some (.int r.ac), some (.int r.up), some (.int r.wt), o7, o8]) rv5 rfl (fun Q q => ⟨_, _, rfl, _, _, rfl, _, _, rfl, _, _, rfl, _, _, rfl, rfl, q⟩)) _ ⟨rfl, q⟩⟩) _ ?_
    have hnl : (valV kL (kI n)).isSome = (restO pl r).isSome ∧ ∀ s, restO pl r = some s → ∃ vs', valV kL (kI n) = some vs' ∧ SpV K s vs' H3 := by
      have := qL3.val inl_inj n
      have hf : (restsF pl W.rds).find? (fun x => decide (x.1 = n)) = (restO pl r).map fun s => (n, s) := by
        cases hro : restO pl r with
        | none =>
          refine List.find?_eq_none.mpr fun x hx => ?_
          intro z
          have z : x.1 = n := by simpa using z
          rw [restsF_T] at hx
          obtain ⟨t, ht, rfl⟩ := List.mem_map.mp hx
          obtain ⟨m1, m2⟩ := restsT_mem ht
          obtain ⟨⟨n', r'⟩, s'⟩ := t
          have z : n' = n := z
          subst z
          have h1 := ok.find m1
          have h2 := ok.find (List.mem_of_getElem? hr)
          rw [h2] at h1
          cases h1
          rw [show restO pl r = some s' from m2] at hro
          cases hro
        | some s =>
          have hin : (n, s) ∈ restsF pl W.rds := List.mem_filterMap.mpr ⟨(n, r), List.mem_of_getElem? hr, by rw [hro]; rfl⟩
          obtain ⟨⟨n', s'⟩, q, e, hx⟩ := find_mem (k := n) (List.mem_map.mpr ⟨_, hin, rfl⟩)
          have e : n' = n := e
          subst e
          rw [q]
          rw [restsF_T] at hx
          obtain ⟨⟨⟨n2, r2⟩, s2⟩, ht, he⟩ := List.mem_map.mp hx
          obtain ⟨m1, m2⟩ := restsT_mem ht
          have he1 : n2 = n' := congrArg Prod.fst he
          have he2 : s2 = s' := congrArg Prod.snd he
          subst he1 he2
          have h1 := ok.find m1
          rw [ok.find (List.mem_of_getElem? hr)] at h1
          cases h1
          rw [show restO pl r = some s2 from m2] at hro
          cases hro
          rfl
      rw [hf] at this
      cases hro : restO pl r with
      | none => rw [hro] at this; exact ⟨by rw [this]; rfl, fun s h => nomatch h⟩
      | some s => rw [hro] at this; obtain ⟨v, h1, h2⟩ := this; exact ⟨by rw [h1]; rfl, fun s' h => by cases h; exact ⟨v, h1, h2⟩⟩
    have hi22 : i < 22 := by
      have := (List.getElem?_eq_some_iff.mp hr).1
      have := ok.rlen; omega
    -- for way in (0, 1)
    have ui5 := ui4.same e5
    refine st_forT (K := K) (xs := [.int 0, .int 1]) ev_lit2 (Same.refl _) fun ta H6 e6 hta => ?_
    have ui6 := ui5.same e6
    refine ⟨fun j σ H7 => (∃ o7 o8, σ = [some v1, some v2, some (.str nm), some (.ref p), some (.ref dL), some (.int n), some (.str r.one), some (.str r.other), some (.int r.ac), some (.int r.up), some (.int r.wt), o7, o8]) ∧ SqT K H7 ta [.int 0, .int 1] ∧
      UI K H H3 db dL p od kB kL (uncF pl (W.rds.take (if 0 < j then i + 1 else i)) nm 0) (uncF pl (W.rds.take (if 1 < j then i + 1 else i)) nm 1) H7, ⟨⟨o7, o8, rfl⟩, hta, ui6⟩, fun j σ H7 _ q => q.2.1, ?_, ?_⟩
    · rintro j x σ H7 hx ⟨⟨o7, o8, rfl⟩, hta7, ui7⟩
      obtain ⟨hj, rfl⟩ := two_at hx
      have dL7 := ui7.2.2.1
      have t7 : Tp H3 H7 := ui7.2.2.2.1
      refine st_set (E := Same) (R := Rt K (uncPart pl j r)) (ev_if (b := (valV kL (kI n)).isSome) (et_test (ev_din (k := kI n) (ev_var rfl) (ev_var rfl) (.inl dL7))) (fun z => ?_) (fun z => ?_)) (Same.refl _) fun pv H8 e8 hpv => ?_
      · rw [hnl.1] at z
        obtain ⟨s, hs'⟩ := Option.isSome_iff_exists.mp z
        obtain ⟨vs', hv1, hv2⟩ := hnl.2 s hs'
        have nr := nq_restO D1 hN rb hs'
        rw [uncPart_sel, hs']
        refine ev_R2 (ev_whole (ev_var rfl)) (ev_coord (i := j) (Eva.imp (ev_dget (k := kI n) (ev_var rfl) (.inl dL7) (ev_var rfl) hv1) fun v H9 e9 r' => ?_) (ev_var rfl) hj) (sm_int (small_pow (by have := rb.w; omega) (by decide))) ?_
        · rw [show v = vs' from r']; exact MonT.mono (t7.trans e9.tp) hv2
        · unfold sel
          split
          · exact sm_of nr.1 D0 D1 (by decide)
          · exact sm_of nr.2 D0 D1 (by decide)
      · rw [hnl.1] at z
        have z := Option.isNone_iff_eq_none.mp (Option.isSome_eq_false_iff.mp z)
        rw [uncPart_sel, z]
        exact ev_cR (rt0 U _)
      have ui8 := ui7.same e8
      have hta8 := e8.wk.sqT hta7
      have npart := unc_part D1 hN rb j
      have spart : Sm (uncPart pl j r) := sm_of npart D0 D1 (by decide)
      have nacc : ∀ w, Nq D 6012 (uncF pl (W.rds.take i) nm w) := fun w => unc_nq ok nm w D1 hN i
      have sj : ∀ w, Sm (uncF pl (W.rds.take i) nm w) := fun w => sm_of (nacc w) D0 D1 (by decide)
      have smid : ∀ w, Sm (uncMid pl nm w (uncF pl (W.rds.take i) nm w) r) := fun w => sm_of (nq_mid (nacc w) (unc_part D1 hN rb w)) D0 D1 (by decide)
      clear hN D0 D1 nacc npart
      refine unc_two (nm := nm) (r := r) (pl := pl) hpn ui8 hta8 hj rfl rfl rfl rfl rfl rfl hpv spart ?_ ?_ fun H9 ht9 ui9 => ⟨⟨_, _, rfl⟩, ht9, ?_⟩
      · rcases (by omega : j = 0 ∨ j = 1) with rfl | rfl
        · exact sj 0
        · exact sj 1
      · rcases (by omega : j = 0 ∨ j = 1) with rfl | rfl
        · exact smid 0
        · exact smid 1
      · rcases (by omega : j = 0 ∨ j = 1) with rfl | rfl
        · have e := uncF_snoc (pl := pl) nm 0 hr
          have ui9 : UI K H H3 db dL p od kB kL (uncStep pl nm 0 (uncF pl (W.rds.take i) nm 0) r) (uncF pl (W.rds.take i) nm 1) H9 := ui9
          rw [← e] at ui9
          exact ui9
        · have e := uncF_snoc (pl := pl) nm 1 hr
          have ui9 : UI K H H3 db dL p od kB kL (uncF pl (W.rds.take (i + 1)) nm 0) (uncStep pl nm 1 (uncF pl (W.rds.take i) nm 1) r) H9 := ui9
          rw [← e] at ui9
          exact ui9
    · rintro σ H7 ⟨⟨o7, o8, rfl⟩, _, ui7⟩
      exact ⟨⟨_, _, _, _, _, _, _, _, rfl⟩, ui7⟩
  · rintro σ' H4 ⟨⟨o1, o2, o3, o4, o5, o6, o7, o8, rfl⟩, e4, _, _, _, u0, u1, p4, g0, g1⟩
    rw [List.take_of_length_le (by rw [hB3.length]; exact Nat.le_refl _)] at g0 g1
    exact ⟨_, rfl, p, [u0, u1], rfl, .inl ⟨SqL.of p4, fun l hl => k _ _ (e4.trans (Same.new hl)) ⟨u0, u1, ⟨l, rfl, SqT.of upd_same⟩, MonW.mono (Same.new hl).wk g0, MonW.mono (Same.new hl).wk g1⟩⟩⟩
end
end Gm

set_option maxHeartbeats 4000000
namespace Gm
open PySem PySem.Spec PyProof.Rows L2
/-! ### lists of texts as data -/
def dLs (l : List Str) : PyData := .list (l.map PyData.str)
theorem dpa_L {K : PySem.W.Frag} {H : Hp} : ∀ l : List Str, DpAll K H (l.map V.str) (l.map PyData.str)
  | [] => .nil
  | x :: l => .cons (.str x) (dpa_L l)
theorem dp_L {K : PySem.W.Frag} {H : Hp} {l : List Str} {v : V} (h : LstV (l.map V.str) v H) : Dp K H v (dLs l) := by
  obtain ⟨a, rfl, ha⟩ := h
  exact .lst (SqL.of ha) (dpa_L l)
theorem eqvA_L : ∀ l m : List Str, PyData.eqvAll (l.map PyData.str) (m.map PyData.str) = decide (l = m)
  | [], [] => by simp [PyData.eqvAll]
  | [], _ :: _ => by simp [PyData.eqvAll]
  | _ :: _, [] => by simp [PyData.eqvAll]
  | x :: l, y :: m => by
    rw [List.map_cons, List.map_cons, PyData.eqvAll, eqvA_L l m]
    have e : PyData.eqv (.str x) (.str y) = decide (x = y) := by
      rw [PyData.eqv, Bool.eq_iff_iff, beq_iff_eq, decide_eq_true_eq]
    rw [e, ← Bool.decide_and]
    exact decide_eq_decide.mpr (by rw [List.cons.injEq])
theorem eqv_L (l m : List Str) : PyData.eqv (dLs l) (dLs m) = decide (l = m) := by
  unfold dLs
  rw [PyData.eqv, eqvA_L]
theorem lay_L : ∀ l : List Str, (∀ x ∈ l, PyData.strOk x = true) → PyData.canLayAll0 (l.map PyData.str) = true
  | [], _ => by simp [PyData.canLayAll0]
  | x :: l, h => by
    rw [List.map_cons, PyData.canLayAll0, lay_L l fun y hy => h y (List.mem_cons_of_mem _ hy)]
    have : PyData.canLay0 (.str x) = true := by rw [PyData.canLay0]; exact h x List.mem_cons_self
    rw [this]; rfl
theorem dep_L : ∀ l : List Str, PyData.depthAll (l.map PyData.str) = 0
  | [] => by simp [PyData.depthAll]
  | x :: l => by rw [List.map_cons, PyData.depthAll, dep_L l, PyData.depth]; rfl
theorem sh_L {l : List Str} (h : ∀ x ∈ l, PyData.strOk x = true) : SeqAt.shaped (dLs l) = true := by
  unfold SeqAt.shaped dLs
  rw [PyData.canLay0, lay_L l h, PyData.depth, dep_L]; rfl
theorem strOk_of {m : Str} (h : ∀ c ∈ m.cps.toList, c ∈ ("abcdefghijklmnopqrstuvwxyz" : Str).cps.toList) : PyData.strOk m = true := by
  unfold PyData.strOk
  rw [Array.all_eq_true_iff_forall_mem]
  intro c hc
  have h1 := h c (Array.mem_toList_iff.mpr hc)
  have h2 : ∀ c ∈ ("abcdefghijklmnopqrstuvwxyz" : Str).cps.toList, c < 0x110000 := by decide +kernel
  exact decide_eq_true (h2 c h1)
theorem Wd.Ok.strOk {W : Wd} (ok : W.Ok) {m : Str} (h : m ∈ W.names) : PyData.strOk m = true := strOk_of (ok.nm m h).2.2.1
/-! ### balanced -/
def atF (W : Wd) (x : Str × (Rat × Rat)) : Bool := match W.fx x.1 with
  | none => true
  | some p => decide (x.2 = ((p.1 : Rat), (p.2 : Rat)))
theorem atF_none {W : Wd} {m : Str} {s : Rat × Rat} (h : W.fx m = none) : atF W (m, s) = true := by unfold atF; rw [h]
theorem atF_some {W : Wd} {m : Str} {s : Rat × Rat} {p : Int × Int} (h : W.fx m = some p) : atF W (m, s) = decide (s = ((p.1 : Rat), (p.2 : Rat))) := by unfold atF; rw [h]
noncomputable def balF (W : Wd) (pl : PlL) : Bool := decide (srt (pl.map (·.1)) = W.hung) && (pl.all (atF W) && W.free.all fun m => decide ((uncF pl W.rds m 0, uncF pl W.rds m 1) = ((0 : Rat), (0 : Rat))))
structure KeysOk (pl : PlL) : Prop where
  nd : (pl.map (·.1)).Nodup
  so : ∀ x ∈ pl.map (·.1), PyData.strOk x = true
  len : pl.length ≤ 20
theorem lk_of {pl : PlL} (nd : (pl.map (·.1)).Nodup) {m : Str} {s : Rat × Rat} (h : (m, s) ∈ pl) : lk pl m = some s := by
  obtain ⟨⟨m', s'⟩, q, e, hx⟩ := find_mem (k := m) (List.mem_map.mpr ⟨_, h, rfl⟩)
  have e : m' = m := e
  subst e
  obtain ⟨i1, h1⟩ := List.getElem?_of_mem hx
  obtain ⟨i2, h2⟩ := List.getElem?_of_mem h
  have g1 : (pl.map (·.1))[i1]? = some m' := by rw [List.getElem?_map, h1]; rfl
  have g2 : (pl.map (·.1))[i2]? = some m' := by rw [List.getElem?_map, h2]; rfl
  have := nd_ix nd g1 g2
  subst this
  rw [h1] at h2
  cases h2
  unfold lk
  rw [q]; rfl
section
variable {E : Hp → Hp → Prop} [PreE E] {K : PySem.W.Frag} {σ : L2.St} {H H' : Hp} {te : TE}
theorem ev_allB {bs : List Bool} (h : Eva E te σ H (fun v H1 => ∃ a, v = .ref a ∧ SqL K H1 a (bs.map V.bl))) : Eva E (tCB (rAll K) (tCons te tNil)) σ H (Is (.bl (bs.all id))) := fun H1 e Q q =>
  h H1 e _ fun v H2 e2 ⟨a, ea, hs⟩ => ⟨a, bs, by rw [ea], hs, q _ H2 e2 rfl⟩
theorem ev_anyB {bs : List Bool} (h : Eva E te σ H (fun v H1 => ∃ a, v = .ref a ∧ SqL K H1 a (bs.map V.bl))) : Eva E (tCB (rAny K) (tCons te tNil)) σ H (Is (.bl (bs.any id))) := fun H1 e Q q =>
  h H1 e _ fun v H2 e2 ⟨a, ea, hs⟩ => ⟨a, bs, by rw [ea], hs, q _ H2 e2 rfl⟩
end
theorem rt0R {K : PySem.W.Frag} {mg : Str → Option Value} {aN : Addr} {uM uW uL : Value} (U : Uni K mg aN uM uW uL) : ∀ H, Rt K 0 (.ref aN) H := fun H => rt0 U H
section
variable {P : Program} {w : World} {K : PySem.W.Frag} {mg : Str → Option Value} {base : Heap} {aN : Addr} {uM uW uL : Value} {C fI fM fR fN fH : Addr} {fdM fdR fdN fdH : FuncData}
def PreSX (K : PySem.W.Frag) (C : Addr) (x : Wd × PlL) : List V → Hp → Prop := fun vs H => (∃ u v, vs = [u, v] ∧ SurV K C x.1 u H ∧ PlX K x.2 v H) ∧ x.1.Ok ∧ PlOk x.2 ∧ KeysOk x.2
noncomputable def spBal (K : PySem.W.Frag) (C : Addr) : Sp := SpG (α := Wd × PlL) (PreSX K C) (fun x v _ => v = .bl (balF x.1 x.2))
theorem ev_unc {σ : L2.St} {H : Hp} {ta tb tc : TE} {X : XK} {W : Wd} {pl : PlL} {m : Str} (ha : Eva Same ta σ H (SurV K C W)) (hb : Eva Same tb σ H (PlV K pl)) (hc : Eva Same tc σ H (Is (.str m))) (ok : W.Ok) (po : PlOk pl) :
    Eva Same (tCall (spUnc K C) [] X (tCons ta (tCons tb (tCons tc tNil)))) σ H (SpV K (uncF pl W.rds m 0, uncF pl W.rds m 1)) := by
  refine ev_G (α := (Wd × PlL) × Str) ((W, pl), m) (ea_cons ha (ea_cons hb (ea_cons hc ea_nil))) ?_
  rintro vs H' _ ⟨v, r', rfl, hv, v', r'', rfl, hv', v2, r2, rfl, hv2, rfl⟩
  exact ⟨⟨v, v', by rw [show v2 = _ from hv2], hv, hv'⟩, ok, po⟩
theorem ev_free {σ : L2.St} {H : Hp} {ta : TE} {X : XK} {W : Wd} (ha : Eva Same ta σ H (SurV K C W)) (ok : W.Ok) : Eva Same (tCall (spFree K C) [] X (tCons ta tNil)) σ H (LstV (W.free.map V.str)) := by
  refine ev_G (α := Wd) W (ea_cons ha ea_nil) ?_
  rintro vs H' _ ⟨v, r', rfl, hv, rfl⟩
  exact ⟨⟨v, rfl, hv⟩, ok⟩
/-- the hung names as the program lists them -/
theorem ev_hung {σ : L2.St} {H : Hp} {W : Wd} {v : V} {tt te : TE} {wi : TI} {g : TG} {own : List Nat} (hs : SurV K C W v H) (ok : W.Ok) (hi : EvI Same wi σ H ((srt W.names).map V.str).length (fun i x _ => ((srt W.names).map V.str)[i]? = some x))
    (step : ∀ m H', Same H H' → m ∈ W.names → ∃ σ2, TgOk g (.str m) (wipe σ own) H' σ2 ∧ wipe σ2 own = wipe σ own ∧ EvT Same (tTest tt) σ2 H' (W.hg m) ∧ Eva Same te σ2 H' (Is (.str m))) : Eva Same (tLc wi g (tTest tt) te own) σ H (LstV (W.hung.map V.str)) := by
  refine Eva.imp (ev_lc (b := fun i => W.hg ((srt W.names).getD i default)) (R := fun i => Is (.str ((srt W.names).getD i default))) hi (by rw [List.length_map, srt_len]; unfold Wd.names; rw [List.length_map]; have := ok.len; omega) ?_) ?_
  · rintro i x H' hi e y
    have hx : (srt W.names)[i]? = some ((srt W.names).getD i default) := by
      have : i < (srt W.names).length := by simpa using hi
      simp [this]
    rw [List.getElem?_map, hx] at y
    have y := Option.some.inj y
    subst y
    have hm : (srt W.names).getD i default ∈ W.names := srt_mem.mp (List.mem_of_getElem? hx)
    obtain ⟨σ2, h1, h2, h3, h4⟩ := step _ H' e hm
    exact ⟨σ2, h1, h2, h3, fun _ => h4⟩
  · rintro v H2 e2 ⟨D, ys, rfl, hD, hys, _⟩
    refine ⟨D, rfl, ?_⟩
    rw [hD, paired_is hys, List.length_map, Wd.hung_eq]
    exact congrArg (fun l => some (HO.lst l)) (range_filter_getD (fun m => W.hg m) V.str (srt W.names))
theorem ok_balanced (D : DefAt K mg "balanced" s_balanced) (U : Uni K mg aN uM uW uL) (Z : Mts P w K mg base C fI fM fR fN fH fdM fdR fdN fdH) (c_uncancelled : Cal P w K mg base 6 "uncancelled" ["survey", "placing", "name"] (spUnc K C))
    (c_free_marks : Cal P w K mg base 2 "free_marks" ["survey"] (spFree K C)) (c_whole : Cal P w K mg base 1 "whole" ["number"] (spWhole K)) : Cal P w K mg base 7 "balanced" ["survey", "placing"] (spBal K C) := by
  refine D.cal 6 sc_balanced (fun _ _ _ _ _ _ us hl => match us, hl with | [_, _], _ => rfl) (fun vs H Q E h => ?_) (fun f cdv A outer s H vs Q E hr h => ?_)
  · obtain ⟨x, ⟨⟨_, _, rfl, _⟩, _⟩, _⟩ := h; rfl
  obtain ⟨⟨W, pl⟩, ⟨⟨v1, _, rfl, hs, ⟨d, kvs, rfl, hd, hp⟩⟩, ok, plok, ko⟩, k⟩ := h
  have hs : SurV K C W v1 H := hs
  have ok : W.Ok := ok
  have plok : PlOk pl := plok
  have ko : KeysOk pl := ko
  have hp : Dc kS (SpV K) pl kvs H := hp
  have k : ∀ v H', Same H H' → v = .bl (balF W pl) → Q v H' := k
  obtain ⟨M, c_Survey_marks, c_Survey_readings, c_Survey_names, c_Survey_hangs⟩ := Z
  refine ⟨_, (pss_cons (ps_set (i := 2) sc_balanced.nd rfl (Or.inl rfl) (pe_meth0 (pv 0) M.cl M.marks c_Survey_marks.F (hr.mono (by decide)) c_Survey_marks.b .nil pass0))
      (pss_cons (ps_if (pt_cmpR (op_neD hr.units) (pe_callB (call_sortedD rfl) (by rfl) U.sorted (by decide +kernel) (pa_cons (pv 1) pa_nil)) (pe_lc (own := [("name", 3)]) (g := (gName 3)) rfl sc_balanced.nd (pi_list (pe_meth0 (pv 0) M.cl M.names c_Survey_names.F (hr.mono (by decide)) c_Survey_names.b .nil pass0)) (blkOk_by (N := n_balanced) (sc := defScope s_balanced) (own := [("name", 3)]) (by decide +kernel)) (fun _ _ _ _ _ => (pg_name (i := 3) sc_balanced.nd rfl (Or.inl rfl))) (fun _ _ _ _ _ => pts_one (pt_val (pe_meth (pv 0) M.cl M.hangs c_Survey_hangs.F (hr.mono (by decide)) c_Survey_hangs.b .nil pass0 (pa_cons (pv 3) pa_nil)))) (fun _ _ _ _ _ => (pv 3))) (nomark _)) (pss_one (ps_ret pe_bl)) pss_nil)
      (pss_cons (ps_lock (ps_for PassesOwn.never rfl (pi_keys (pv 1)) (pg_name (i := 3) sc_balanced.nd rfl (Or.inl rfl)) (pss_one (ps_if (PW.pt (pw_and (pt_cmpR op_notN (pe_dget (hu_of hr) (pv 2) (pv 3) (fun _ _ => rfl)) pe_non (nomark _)) (pw_and1 (pt_cmpR (op_neD hr.units) (pe_dget (hu_of hr) (pv 1) (pv 3) (fun _ _ => rfl)) (pe_tup (pa_cons (c_whole.call (hr.mono (by decide)) (by rfl) (pa_cons (pe_ix ix_tup (pe_dget (hu_of hr) (pv 2) (pv 3) (fun _ _ => rfl)) pe_int (fun _ _ => rfl)) pa_nil)) (pa_cons (c_whole.call (hr.mono (by decide)) (by rfl) (pa_cons (pe_ix ix_tup (pe_dget (hu_of hr) (pv 2) (pv 3) (fun _ _ => rfl)) pe_int (fun _ _ => rfl)) pa_nil)) pa_nil))) (nomark _))))) (pss_one (ps_ret pe_bl)) pss_nil))))
      (pss_one (ps_ret (pe_callB (cr_all rfl) (by rfl) U.all (by decide +kernel) (pa_cons (pe_lc (own := [("name", 3)]) (g := (gName 3)) rfl sc_balanced.nd (pi_list (c_free_marks.call (hr.mono (by decide)) (by rfl) (pa_cons (pv 0) pa_nil))) (blkOk_by (N := n_balanced) (sc := defScope s_balanced) (own := [("name", 3)]) (by decide +kernel)) (fun _ _ _ _ _ => (pg_name (i := 3) sc_balanced.nd rfl (Or.inl rfl))) (fun _ _ _ _ _ => pts_nil) (fun _ _ _ _ _ => (pe_cmpR (op_eqDK (K := K) hr.units rfl) (c_uncancelled.call (hr.mono (by decide)) (by rfl) (pa_cons (pv 0) (pa_cons (pv 1) (pa_cons (pv 3) pa_nil)))) (pe_tup (pa_cons (pe_glob (by rfl) U.gNOUGHT U.rNOUGHT) (pa_cons (pe_glob (by rfl) U.gNOUGHT U.rNOUGHT) pa_nil))) (nomark _)))) pa_nil))))))), ?_⟩
  refine st_setN (ev_marks (ev_var rfl) hs) ?_
  rintro dM H1 e1 nM ⟨_, kP, ed, hdM, hkP⟩
  cases ed
  have hks : kvs.map (·.1) = (pl.map (·.1)).map Sum.inr := by rw [hp.keys, List.map_map]; rfl
  have so1 : ∀ x ∈ srt (pl.map (·.1)), PyData.strOk x = true := fun x hx => ko.so x (srt_mem.mp hx)
  have so2 : ∀ x ∈ W.hung, PyData.strOk x = true := fun x hx => ok.strOk (Wd.hung_mem.mp hx).1
  refine st_ifN (E := Same) (b := !decide (srt (pl.map (·.1)) = W.hung)) (EvT.is (et_test (ev_neD (R := LstV ((srt (pl.map (·.1))).map V.str)) (S := LstV (W.hung.map V.str)) (d := dLs (srt (pl.map (·.1)))) (e := dLs W.hung)
    (Eva.imp (ev_sortedD (ks := pl.map (·.1)) (ev_var rfl) (.inl (e1 _ _ hd)) hks (by rw [List.length_map]; have := ko.len; omega)) fun v H2 _ ⟨a, ea, ha, _⟩ => ⟨a, ea, ha⟩)
    (ev_hung (v := v1) (MonW.mono e1.wk hs) ok (ei_list (Eva.imp (ev_names (ev_var rfl) (MonW.mono e1.wk hs) ok) (fun v H2 _ ⟨a, ea, ha⟩ => ⟨a, ea, SqL.of ha, fun z => z⟩))) fun m H' e hm => ⟨_, tg_name, rfl, et_test (ev_hangs (ev_var rfl) (MonW.mono (e1.trans e).wk hs) (ev_var rfl) hm), ev_var rfl⟩)
    (fun _ _ => dp_L) (fun _ _ => dp_L) (sh_L so1) (sh_L so2))) (by rw [eqv_L])) (Same.refl _) (fun z H2 e2 => ?_) (fun z H2 e2 => ?_)
  · refine st_ret (E := Same) (R := Is (.bl false)) ev_c (Same.refl _) fun v H3 e3 r => k v H3 ((e1.trans e2).trans e3) ?_
    have z : decide (srt (pl.map (·.1)) = W.hung) = false := by simpa using z
    rw [show v = _ from r]; unfold balF; rw [z]; rfl
  have z : decide (srt (pl.map (·.1)) = W.hung) = true := by simpa using z
  have zz := of_decide_eq_true z
  have e02 := e1.trans e2
  refine st_forK (kvs := kvs) (e02 _ _ hd) rfl fun od => ?_
  have inn : ∀ m ∈ pl.map (·.1), m ∈ W.names := fun m hm => (Wd.hung_mem.mp (by rw [← zz]; exact srt_mem.mpr hm)).1
  refine ⟨fun i σ H3 => (∃ o, σ = [some v1, some (.ref d), some (.ref dM), o]) ∧ Same (upd H2 d (.frz od (.dK kvs))) H3 ∧ (pl.take i).all (atF W) = true, ⟨⟨none, rfl⟩, Same.refl _, rfl⟩, fun i σ' H' q => q.2.1 _ _ upd_same, ?_, ?_⟩
  · rintro i kk vv σ' H3 hk ⟨⟨o, rfl⟩, e3, al⟩
    obtain ⟨⟨m, s⟩, hm, rk, rv⟩ := pget hp hk
    have rk : kk = kS m := rk
    subst rk
    have wl : Wk H2 (upd H2 d (.frz od (.dK kvs))) := Wk.lock (e02 _ _ hd)
    have w3 := (e02.wk.trans wl).trans e3.wk
    have hd3 := e3 _ _ (upd_same (o := .frz od (.dK kvs)) (H := H2) (a := d))
    have hmem : (m, s) ∈ pl := List.mem_of_getElem? hm
    have hmn : m ∈ W.names := inn m (List.mem_map.mpr ⟨_, hmem, rfl⟩)
    have hlk : lk pl m = some s := lk_of ko.nd hmem
    have dMd : dM ≠ d := fun e => by rw [e, hd] at nM; cases nM
    have hdM3 : H3 dM = some (.dK kP) := e3 _ _ (by rw [upd_ne dMd]; exact e2 _ _ hdM)
    obtain ⟨⟨m', o'⟩, vm, hx1, em, hv1, hv2, hf⟩ := hkP.has inr_inj hmn
    have em : m' = m := em
    subst em
    have hfx := Wd.fx_none hf
    have e13 : Tp H1 H3 := fun a xs h => e3.wk.tup _ _ (wl.tup _ _ (e2.wk.tup _ _ h))
    have hv3 : AtV K o' vm H3 := MonT.mono e13 hv2
    have fin : ∀ H4, Same H3 H4 → atF W (m', s) = true → (pl.take (i + 1)).all (atF W) = true := fun H4 _ h => by
      rw [List.take_succ, hm, List.all_append, al, Option.toList]
      simp only [List.all_cons, List.all_nil, h, Bool.and_self]
    show tIfS _ _ _ _ [some v1, some (.ref d), some (.ref dM), some (.str m')] H3
    have hmk : ∀ H4, Same H3 H4 → Eva Same (tDGet (tVar 2) (tVar 3)) [some v1, some (.ref d), some (.ref dM), some (.str m')] H4 (Is vm) := fun H4 e4 => ev_dget (k := kS m') (ev_var rfl) (.inl (e4 _ _ hdM3)) (ev_var rfl) hv1
    refine st_ifL (E := Same) (b := !atF W (m', s)) ?_ (Same.refl _) (fun z H5 e5 => ?_) (fun z H5 e5 => ⟨⟨_, rfl⟩, e3.trans e5, fin H5 e5 (by simpa using z)⟩)
    · cases o' with
      | none =>
        rw [atF_none hfx]
        cases (show vm = .non from hv3)
        exact EvT.is (et_and (et_test (ev_notN (hmk H3 (Same.refl _)))) (b := true) fun z => nomatch z) rfl
      | some p =>
        rw [atF_some hfx]
        have hvp : TupV K [.int p.1, .int p.2] vm H3 := hv3
        have hmp : ∀ H4, Same H3 H4 → Eva Same (tDGet (tVar 2) (tVar 3)) [some v1, some (.ref d), some (.ref dM), some (.str m')] H4 (TupV K [.int p.1, .int p.2]) := fun H4 e4 => Eva.imp (hmk H4 e4) fun v H5 e r => by rw [show v = vm from r]; exact MonW.mono (e4.trans e).wk hvp
        have hvn : decide (vm = V.non) = false := by obtain ⟨a, rfl, _⟩ := hvp; rfl
        refine EvT.is (et_and (a := !decide (vm = V.non)) (b := !decide (s = ((p.1 : Rat), (p.2 : Rat)))) (et_test (ev_notN (hmk H3 (Same.refl _)))) fun _ => EvT.is (et_test (ev_neD (R := SpV K s) (S := SpV K ((p.1 : Rat), (p.2 : Rat))) (ev_spot (ev_var rfl) (.inr ⟨od, hd3⟩) (hp.mono w3.tup) (ev_var rfl) hlk)
          (ev_newspot (ev_whole (ev_ixT (hmp H3 (Same.refl _)) ev_c rfl)) (ev_whole (ev_ixT (hmp H3 (Same.refl _)) ev_c rfl))) (fun _ _ => dp_S) (fun _ _ => dp_S) (sh_S _) (sh_S _))) (by rw [eqv_S])) (by rw [hvn]; rfl)
    · have z : atF W (m', s) = false := by simpa using z
      refine st_ret (E := Same) (R := Is (.bl false)) ev_c (Same.refl _) fun v H6 e6 r => ⟨((e3.trans e5).trans e6) _ _ upd_same, k v _ (e02.trans (Same.lock (e02 _ _ hd) ((e3.trans e5).trans e6))) ?_⟩
      rw [show v = _ from r]; unfold balF
      have : pl.all (atF W) = false := by
        rw [Bool.eq_false_iff]
        intro h
        rw [List.all_eq_true] at h
        rw [h _ hmem] at z; cases z
      rw [this]; simp
  · rintro σ' H3 ⟨⟨o, rfl⟩, e3, al⟩
    rw [List.take_of_length_le (by rw [hp.length]; exact Nat.le_refl _)] at al
    have e04 : Same H (upd H3 d (.dK kvs)) := e02.trans (Same.lock (e02 _ _ hd) e3)
    generalize upd H3 d (.dK kvs) = H4 at e04
    refine st_ret (E := Same) (ev_allB (bs := W.free.map fun m => decide ((uncF pl W.rds m 0, uncF pl W.rds m 1) = ((0 : Rat), (0 : Rat)))) (Eva.imp (ev_lc (n := (W.free.map V.str).length) (b := fun _ => true) (R := fun i => Is (.bl (decide ((uncF pl W.rds (W.free.getD i default) 0, uncF pl W.rds (W.free.getD i default) 1) = ((0 : Rat), (0 : Rat))))))
      (ei_list (Eva.imp (ev_free (ev_varR rfl (MonW.mono e04.wk hs)) ok) (fun v H2 _ ⟨a, ea, ha⟩ => ⟨a, ea, SqL.of ha, fun z => z⟩))) (by rw [List.length_map]; have := Wd.free_len ok; omega) ?_) ?_)) (Same.refl _) fun v H5 e5 r => k v H5 (e04.trans e5) ?_
    · rintro i x H' hi e y
      have hx : W.free[i]? = some (W.free.getD i default) := by
        have : i < W.free.length := by simpa using hi
        simp [this]
      rw [List.getElem?_map, hx] at y
      have y := Option.some.inj y
      subst y
      generalize W.free.getD i default = m
      refine ⟨_, tg_name, rfl, fun H5 e5 Q q => q H5 (Same.refl _), fun _ => Eva.is (ev_eqD (R := SpV K (uncF pl W.rds m 0, uncF pl W.rds m 1)) (S := SpV K (0, 0)) (ev_unc (ev_varR rfl (MonW.mono (e04.trans e).wk hs)) (ev_varR (R := PlV K pl) rfl ⟨d, kvs, rfl, .inl ((e04.trans e) _ _ hd), hp.mono (e04.trans e).tp⟩) (ev_var rfl) ok plok) (ev_newspot (ev_cR (rt0R U _)) (ev_cR (rt0R U _))) (fun _ _ => dp_S) (fun _ _ => dp_S) (sh_S _) (sh_S _)) (by rw [eqv_S])⟩
    · rintro v H2 e2 ⟨D, ys, rfl, hD, hys, _⟩
      refine ⟨D, rfl, SqL.of ?_⟩
      rw [hD, paired_is hys, List.length_map]
      have := range_filter_getD (fun _ => true) (fun m => V.bl (decide ((uncF pl W.rds m 0, uncF pl W.rds m 1) = ((0 : Rat), (0 : Rat))))) W.free
      rw [List.filter_eq_self.mpr (fun _ _ => rfl : ∀ a ∈ W.free, (fun _ => true) a = true)] at this
      rw [List.map_map]
      exact congrArg (fun l => some (HO.lst l)) this
    · rw [show v = _ from r]; unfold balF
      rw [z, al, List.all_map]; rfl
end
end Gm

set_option maxHeartbeats 4000000
namespace Gm
/-! ### sums -/
def Sg : Nat → (Nat → Rat) → Rat
  | 0, _ => 0
  | n + 1, f => Sg n f + f n
theorem Sg_congr {f g : Nat → Rat} : ∀ {n : Nat}, (∀ j, j < n → f j = g j) → Sg n f = Sg n g
  | 0, _ => rfl
  | n + 1, h => by rw [Sg, Sg, Sg_congr fun j hj => h j (Nat.lt_succ_of_lt hj), h n (Nat.lt_succ_self n)]
theorem Sg_add (f g : Nat → Rat) : ∀ n, Sg n (fun j => f j + g j) = Sg n f + Sg n g
  | 0 => by simp only [Sg]; rw [Rat.add_zero]
  | n + 1 => by simp only [Sg]; rw [Sg_add f g n]; grind
theorem Sg_smul (c : Rat) (f : Nat → Rat) : ∀ n, Sg n (fun j => c * f j) = c * Sg n f
  | 0 => by simp only [Sg]; rw [Rat.mul_zero]
  | n + 1 => by simp only [Sg]; rw [Sg_smul c f n]; grind
theorem Sg_zero {f : Nat → Rat} : ∀ {n : Nat}, (∀ j, j < n → f j = 0) → Sg n f = 0
  | 0, _ => rfl
  | n + 1, h => by rw [Sg, Sg_zero fun j hj => h j (Nat.lt_succ_of_lt hj), h n (Nat.lt_succ_self n), Rat.add_zero]
theorem Sg_one {f : Nat → Rat} {k : Nat} : ∀ {n : Nat}, k < n → (∀ j, j < n → j ≠ k → f j = 0) → Sg n f = f k
  | n + 1, hk, h => by
    rw [Sg]
    by_cases e : k = n
    · subst e
      rw [Sg_zero fun j hj => h j (Nat.lt_succ_of_lt hj) (Nat.ne_of_lt hj), Rat.zero_add]
    · rw [Sg_one (n := n) (by omega) fun j hj => h j (Nat.lt_succ_of_lt hj), h n (Nat.lt_succ_self n) (fun z => e z.symm), Rat.add_zero]
theorem Sg_two {f : Nat → Rat} {k l : Nat} : ∀ {n : Nat}, k < l → l < n → (∀ j, j < n → j ≠ k → j ≠ l → f j = 0) → Sg n f = f k + f l
  | n + 1, hkl, hl, h => by
    rw [Sg]
    by_cases e : l = n
    · subst e
      rw [Sg_one (n := l) hkl fun j hj hne => h j (Nat.lt_succ_of_lt hj) hne (Nat.ne_of_lt hj)]
    · rw [Sg_two (n := n) hkl (by omega) fun j hj => h j (Nat.lt_succ_of_lt hj), h n (Nat.lt_succ_self n) (by omega) (fun z => e z.symm), Rat.add_zero]
/-! ### rows -/
def cl (rows : List (List Rat)) (k j : Nat) : Rat := (rows.getD k []).getD j 0
/-- a row against a vector -/
def dt (n : Nat) (row : List Rat) (y : Nat → Rat) : Rat := Sg n fun j => row.getD j 0 * y j
def takenOff (row other : List Rat) (at_ : Nat) : List Rat := List.zipWith (fun a b => a - row.getD at_ 0 / other.getD at_ 0 * b) row other
theorem getD_set {α : Type} (l : List α) (i k : Nat) (x d : α) : (l.set i x).getD k d = if i = k ∧ i < l.length then x else l.getD k d := by
  rw [List.getD_eq_getElem?_getD, List.getElem?_set, List.getD_eq_getElem?_getD]
  by_cases e : i = k
  · subst e
    by_cases h : i < l.length
    · rw [if_pos rfl, if_pos h, if_pos ⟨rfl, h⟩]; rfl
    · rw [if_pos rfl, if_neg h, if_neg (fun z => h z.2), List.getElem?_eq_none (by omega)]
  · rw [if_neg e, if_neg (fun z => e z.1)]
theorem getD_lt {α : Type} {l : List α} {k : Nat} (d : α) (h : k < l.length) : l[k]? = some (l.getD k d) := by
  rw [List.getD_eq_getElem?_getD, List.getElem?_eq_getElem h]; rfl
theorem off_len {row other : List Rat} {at_ : Nat} (h : row.length = other.length) : (takenOff row other at_).length = row.length := by
  unfold takenOff; rw [List.length_zipWith, h, Nat.min_self]
theorem off_get {row other : List Rat} {at_ j : Nat} (h : row.length = other.length) (hj : j < row.length) : (takenOff row other at_).getD j 0 = row.getD j 0 - row.getD at_ 0 / other.getD at_ 0 * other.getD j 0 := by
  unfold takenOff
  have h1 := getD_lt 0 hj
  have h2 := getD_lt 0 (show j < other.length by omega)
  conv => lhs; rw [List.getD_eq_getElem?_getD, List.getElem?_zipWith, h1, h2]
  rfl
theorem dt_off {row other : List Rat} {at_ N : Nat} (y : Nat → Rat) (h1 : row.length = N) (h2 : other.length = N) : dt N (takenOff row other at_) y = dt N row y - row.getD at_ 0 / other.getD at_ 0 * dt N other y := by
  unfold dt
  rw [← Sg_smul]
  have e : Sg N (fun j => (takenOff row other at_).getD j 0 * y j) = Sg N (fun j => row.getD j 0 * y j + (-1 : Rat) * (row.getD at_ 0 / other.getD at_ 0 * (other.getD j 0 * y j))) := Sg_congr fun j hj => by
    rw [off_get (by omega) (by omega)]; grind
  rw [e, Sg_add, Sg_smul]; grind
/-! ### how the numbers grow -/
def bb : Nat → Nat
  | 0 => 14
  | a + 1 => 2 * bb a + 1
def ss : Nat → Nat
  | 0 => 0
  | a + 1 => ss a + bb a
theorem bb_le : ∀ {a : Nat}, a ≤ 8 → bb a ≤ 3839 := fun {a} h => by
  have : ∀ a, a < 9 → bb a ≤ 3839 := by decide
  exact this a (by omega)
theorem ss_le : ∀ {a : Nat}, a ≤ 8 → ss a ≤ 3817 := fun {a} h => by
  have : ∀ a, a < 9 → ss a ≤ 3817 := by decide
  exact this a (by omega)
/-- one number of a reckoned row -/
theorem nq_off {D t b : Nat} {q r p u : Rat} {Pm : Int} (hp : p * (t : Rat) = (Pm : Rat)) (h0 : p ≠ 0) (hb : Pm.natAbs ≤ 2 ^ b) (hq : Nq D b q) (hr : Nq D b r) (hu : Nq t b u) : Nq (D * Pm.natAbs) (2 * b + 1) (q - r / p * u) := by
  obtain ⟨mq, eq, lq⟩ := hq
  obtain ⟨mr, er, lr⟩ := hr
  obtain ⟨mu, eu, lu⟩ := hu
  have key : (q - r / p * u) * (D : Rat) * (Pm : Rat) = ((mq * Pm - mr * mu : Int) : Rat) := by
    rw [Rat.intCast_sub, Rat.intCast_mul, Rat.intCast_mul, ← hp, ← eq, ← er, ← eu]
    have : r / p * p = r := Rat.div_mul_cancel h0
    grind
  have hle : ∀ {x y : Int}, x.natAbs ≤ 2 ^ b → y.natAbs ≤ 2 ^ b → (x * y).natAbs ≤ 2 ^ (2 * b) := fun {x y} hx hy => by
    rw [Int.natAbs_mul, show 2 * b = b + b by omega, Nat.pow_add]
    exact Nat.mul_le_mul hx hy
  have l1 := hle lq hb
  have l2 := hle lr lu
  have l3 : (2 : Nat) ^ (2 * b + 1) = 2 ^ (2 * b) + 2 ^ (2 * b) := by rw [Nat.pow_succ]; omega
  by_cases s : 0 ≤ Pm
  · refine ⟨mq * Pm - mr * mu, ?_, by rw [l3]; omega⟩
    rw [← key, Rat.natCast_mul, ← Rat.intCast_natCast (Pm.natAbs), show ((Pm.natAbs : Nat) : Int) = Pm by omega]
    grind
  · refine ⟨-(mq * Pm - mr * mu), ?_, by rw [l3]; omega⟩
    rw [Rat.intCast_neg, ← key, Rat.natCast_mul, ← Rat.intCast_natCast (Pm.natAbs), show ((Pm.natAbs : Nat) : Int) = -Pm by omega, Rat.intCast_neg]
    grind
/-- the share, and the share of a number -/
theorem nq_share {D t b c : Nat} {r p : Rat} {Pm : Int} (hp : p * (t : Rat) = (Pm : Rat)) (h0 : p ≠ 0) (ht : t ≤ 2 ^ c) (hr : Nq D b r) : Nq (D * Pm.natAbs) (b + c) (r / p) := by
  obtain ⟨mr, er, lr⟩ := hr
  have key : (r / p) * (D : Rat) * (Pm : Rat) = ((mr * (t : Int) : Int) : Rat) := by
    rw [Rat.intCast_mul, Rat.intCast_natCast, ← hp, ← er]
    have : r / p * p = r := Rat.div_mul_cancel h0
    grind
  have l1 : (mr * (t : Int)).natAbs ≤ 2 ^ (b + c) := by
    rw [Int.natAbs_mul, Int.natAbs_natCast, Nat.pow_add]
    exact Nat.mul_le_mul lr ht
  by_cases s : 0 ≤ Pm
  · refine ⟨mr * (t : Int), ?_, l1⟩
    rw [← key, Rat.natCast_mul, ← Rat.intCast_natCast (Pm.natAbs), show ((Pm.natAbs : Nat) : Int) = Pm by omega]
    grind
  · refine ⟨-(mr * (t : Int)), ?_, by omega⟩
    rw [Rat.intCast_neg, ← key, Rat.natCast_mul, ← Rat.intCast_natCast (Pm.natAbs), show ((Pm.natAbs : Nat) : Int) = -Pm by omega, Rat.intCast_neg]
    grind
theorem nq_shareu {D t b : Nat} {r p u : Rat} {Pm : Int} (hp : p * (t : Rat) = (Pm : Rat)) (h0 : p ≠ 0) (hr : Nq D b r) (hu : Nq t b u) : Nq (D * Pm.natAbs) (2 * b) (r / p * u) := by
  obtain ⟨mr, er, lr⟩ := hr
  obtain ⟨mu, eu, lu⟩ := hu
  have key : (r / p * u) * (D : Rat) * (Pm : Rat) = ((mr * mu : Int) : Rat) := by
    rw [Rat.intCast_mul, ← hp, ← er, ← eu]
    have : r / p * p = r := Rat.div_mul_cancel h0
    grind
  have l1 : (mr * mu).natAbs ≤ 2 ^ (2 * b) := by
    rw [Int.natAbs_mul, show 2 * b = b + b by omega, Nat.pow_add]
    exact Nat.mul_le_mul lr lu
  by_cases s : 0 ≤ Pm
  · refine ⟨mr * mu, ?_, l1⟩
    rw [← key, Rat.natCast_mul, ← Rat.intCast_natCast (Pm.natAbs), show ((Pm.natAbs : Nat) : Int) = Pm by omega]
    grind
  · refine ⟨-(mr * mu), ?_, by omega⟩
    rw [Rat.intCast_neg, ← key, Rat.natCast_mul, ← Rat.intCast_natCast (Pm.natAbs), show ((Pm.natAbs : Nat) : Int) = -Pm by omega, Rat.intCast_neg]
    grind
end Gm

set_option maxHeartbeats 4000000
namespace Gm
def swp (rows : List (List Rat)) (a f : Nat) : List (List Rat) := (rows.set a (rows.getD f [])).set f (rows.getD a [])
def swi (a f k : Nat) : Nat := if k = f then a else if k = a then f else k
def elimTo (rows : List (List Rat)) (a k : Nat) : List (List Rat) := rows.mapIdx fun i row => if i < k ∧ i ≠ a then takenOff row (rows.getD a []) a else row
theorem swp_get {rows : List (List Rat)} {a f k : Nat} (ha : a < rows.length) (hf : f < rows.length) : (swp rows a f).getD k [] = rows.getD (swi a f k) [] := by
  unfold swp swi
  rw [getD_set, getD_set, List.length_set]
  by_cases h1 : f = k
  · subst h1; rw [if_pos ⟨rfl, hf⟩, if_pos rfl]
  · rw [if_neg (fun z : f = k ∧ f < rows.length => h1 z.1), if_neg (fun z : k = f => h1 z.symm)]
    by_cases h2 : a = k
    · subst h2; rw [if_pos ⟨rfl, ha⟩, if_pos rfl]
    · rw [if_neg (fun z : a = k ∧ a < rows.length => h2 z.1), if_neg (fun z : k = a => h2 z.symm)]
theorem swp_len (rows : List (List Rat)) (a f : Nat) : (swp rows a f).length = rows.length := by unfold swp; rw [List.length_set, List.length_set]
theorem elim_len (rows : List (List Rat)) (a k : Nat) : (elimTo rows a k).length = rows.length := by unfold elimTo; rw [List.length_mapIdx]
theorem elim_get (rows : List (List Rat)) (a k i : Nat) (hi : i < rows.length) : (elimTo rows a k).getD i [] = if i < k ∧ i ≠ a then takenOff (rows.getD i []) (rows.getD a []) a else rows.getD i [] := by
  unfold elimTo
  rw [List.getD_eq_getElem?_getD, List.getElem?_mapIdx, getD_lt [] hi]
  rfl
theorem list_ext_getD {α : Type} {d : α} {l m : List α} (h : l.length = m.length) (e : ∀ i, i < l.length → l.getD i d = m.getD i d) : l = m := by
  refine List.ext_getElem? fun i => ?_
  by_cases hi : i < l.length
  · rw [getD_lt d hi, getD_lt d (show i < m.length by omega), e i hi]
  · rw [List.getElem?_eq_none (by omega), List.getElem?_eq_none (by omega)]
theorem elim_zero (rows : List (List Rat)) (a : Nat) : elimTo rows a 0 = rows := list_ext_getD (d := []) (elim_len _ _ _) fun i hi => by
  rw [elim_get _ _ _ _ (by rw [elim_len] at hi; exact hi), if_neg (fun z => by omega)]
theorem off_zero {row other : List Rat} {a : Nat} (h : row.length = other.length) (h0 : row.getD a 0 = 0) : takenOff row other a = row := list_ext_getD (d := 0) (off_len h) fun i hi => by
  rw [off_len h] at hi
  rw [off_get h hi, h0]; grind
theorem elim_set {rows : List (List Rat)} {a k : Nat} (hk : k < rows.length) (ne : k ≠ a) : elimTo rows a (k + 1) = (elimTo rows a k).set k (takenOff (rows.getD k []) (rows.getD a []) a) := list_ext_getD (d := []) (by rw [List.length_set, elim_len, elim_len]) fun i hi => by
  rw [elim_len] at hi
  rw [getD_set, elim_get _ _ _ _ hi, elim_get _ _ _ _ hi, elim_len]
  by_cases e : k = i
  · subst e; rw [if_pos ⟨by omega, ne⟩, if_pos ⟨rfl, hk⟩]
  · rw [if_neg (fun z : k = i ∧ k < rows.length => e z.1)]
    by_cases h : i < k ∧ i ≠ a
    · rw [if_pos h, if_pos ⟨by omega, h.2⟩]
    · rw [if_neg h, if_neg (fun z => h ⟨by omega, z.2⟩)]
theorem elim_keep {rows : List (List Rat)} {a k : Nat} (hk : k < rows.length) (h : k = a ∨ (cl rows k a = 0 ∧ (rows.getD k []).length = (rows.getD a []).length)) : elimTo rows a (k + 1) = elimTo rows a k := list_ext_getD (d := []) (by rw [elim_len, elim_len]) fun i hi => by
  rw [elim_len] at hi
  rw [elim_get _ _ _ _ hi, elim_get _ _ _ _ hi]
  by_cases e : i = k
  · subst e
    rw [if_neg (fun z : i < i ∧ i ≠ a => by omega)]
    rcases h with h | ⟨h, hl⟩
    · rw [if_neg (fun z => z.2 h)]
    · split
      · exact off_zero hl h
      · rfl
  · by_cases h : i < k ∧ i ≠ a
    · rw [if_pos h, if_pos ⟨by omega, h.2⟩]
    · rw [if_neg h, if_neg (fun z => h ⟨by omega, z.2⟩)]
structure EInv (n : Nat) (rows0 rows : List (List Rat)) (a : Nat) : Prop where
  len : rows.length = n
  rl : ∀ k, k < n → (rows.getD k []).length = n + 1
  col : ∀ c, c < a → ∀ k, k < n → k ≠ c → cl rows k c = 0
  dia : ∀ c, c < a → cl rows c c ≠ 0
  sol : ∀ y, (∀ k, k < n → dt (n + 1) (rows.getD k []) y = 0) ↔ (∀ k, k < n → dt (n + 1) (rows0.getD k []) y = 0)
  nq : ∀ k, k < n → ∃ D, 0 < D ∧ D ≤ 2 ^ ss a ∧ ∀ j, j ≤ n → Nq D (bb a) (cl rows k j)
/-- only nought solves it with nought at the right -/
def NonS (n : Nat) (rows : List (List Rat)) : Prop := ∀ y : Nat → Rat, y n = 0 → (∀ k, k < n → dt (n + 1) (rows.getD k []) y = 0) → ∀ j, j < n → y j = 0
theorem EInv.pivot {n a : Nat} {rows0 rows : List (List Rat)} (I : EInv n rows0 rows a) (ha : a < n) (ns : NonS n rows0) : ∃ k, a ≤ k ∧ k < n ∧ cl rows k a ≠ 0 := by
  refine Classical.byContradiction fun hc => ?_
  have h0 : ∀ k, a ≤ k → k < n → cl rows k a = 0 := fun k h1 h2 => Classical.byContradiction fun h => hc ⟨k, h1, h2, h⟩
  have hy := ns (fun j => if j < a then -(cl rows j a) / cl rows j j else if j = a then 1 else 0) (by
    show (if n < a then _ else if n = a then _ else _) = _
    rw [if_neg (by omega), if_neg (by omega)]) ((I.sol _).mp fun k hk => ?_) a ha
  · have hy : (if a < a then _ else if a = a then (1 : Rat) else 0) = 0 := hy
    rw [if_neg (by omega), if_pos rfl] at hy
    exact absurd hy (by decide)
  · show Sg (n + 1) (fun j => cl rows k j * (if j < a then -(cl rows j a) / cl rows j j else if j = a then 1 else 0)) = 0
    by_cases hka : k < a
    · rw [Sg_two (k := k) (l := a) hka (by omega) fun j hj h1 h2 => ?_]
      · rw [if_pos hka, if_neg (by omega), if_pos rfl]
        have := I.dia k hka
        rw [Rat.mul_comm, Rat.div_mul_cancel this]; grind
      · by_cases h : j < a
        · rw [I.col j h k hk (fun z => h1 z.symm), Rat.zero_mul]
        · rw [if_neg h, if_neg h2, Rat.mul_zero]
    · refine Sg_zero fun j hj => ?_
      by_cases h : j < a
      · rw [I.col j h k hk (by omega), Rat.zero_mul]
      · by_cases e : j = a
        · subst e; rw [h0 k (by omega) hk, Rat.zero_mul]
        · rw [if_neg h, if_neg e, Rat.mul_zero]
theorem swi_lt {a f k n : Nat} (ha : a < n) (hf : f < n) (hk : k < n) : swi a f k < n := by unfold swi; split; exact ha; split; exact hf; exact hk
theorem swi_swi (a f k : Nat) : swi a f (swi a f k) = k := by
  unfold swi
  by_cases h1 : k = f
  · subst h1
    rw [if_pos rfl]
    by_cases h2 : a = k
    · rw [if_pos h2, h2]
    · rw [if_neg h2, if_pos rfl]
  · rw [if_neg h1]
    by_cases h2 : k = a
    · rw [if_pos h2, if_pos rfl, h2]
    · rw [if_neg h2, if_neg h1, if_neg h2]
theorem EInv.swap {n a f : Nat} {rows0 rows : List (List Rat)} (I : EInv n rows0 rows a) (ha : a < n) (h1 : a ≤ f) (hf : f < n) : EInv n rows0 (swp rows a f) a := by
  have g : ∀ k, (swp rows a f).getD k [] = rows.getD (swi a f k) [] := fun k => swp_get (by rw [I.len]; exact ha) (by rw [I.len]; exact hf)
  have gc : ∀ k j, cl (swp rows a f) k j = cl rows (swi a f k) j := fun k j => by unfold cl; rw [g]
  refine ⟨by rw [swp_len]; exact I.len, fun k hk => by rw [g]; exact I.rl _ (swi_lt ha hf hk), fun c hc k hk hne => ?_, fun c hc => ?_, fun y => ?_, fun k hk => ?_⟩
  · rw [gc]
    refine I.col c hc _ (swi_lt ha hf hk) ?_
    unfold swi; split
    · omega
    · split
      · omega
      · exact hne
  · rw [gc]
    have : swi a f c = c := by unfold swi; rw [if_neg (by omega), if_neg (by omega)]
    rw [this]; exact I.dia c hc
  · rw [← I.sol y]
    constructor
    · intro h k hk
      have := h (swi a f k) (swi_lt ha hf hk)
      rw [g, swi_swi] at this; exact this
    · intro h k hk
      rw [g]; exact h _ (swi_lt ha hf hk)
  · obtain ⟨D, h1, h2, h3⟩ := I.nq _ (swi_lt ha hf hk)
    exact ⟨D, h1, h2, fun j hj => by rw [gc]; exact h3 j hj⟩
theorem EInv.step {n a : Nat} {rows0 rows : List (List Rat)} (I : EInv n rows0 rows a) (ha : a < n) (hp : cl rows a a ≠ 0) : EInv n rows0 (elimTo rows a n) (a + 1) := by
  have g : ∀ k, k < n → (elimTo rows a n).getD k [] = if k ≠ a then takenOff (rows.getD k []) (rows.getD a []) a else rows.getD k [] := fun k hk => by
    rw [elim_get _ _ _ _ (by rw [I.len]; exact hk)]
    by_cases e : k ≠ a
    · rw [if_pos e, if_pos ⟨hk, e⟩]
    · rw [if_neg e, if_neg (fun z => e z.2)]
  have ga : (elimTo rows a n).getD a [] = rows.getD a [] := by rw [g a ha, if_neg (fun z => z rfl)]
  have gn : ∀ k, k < n → k ≠ a → (elimTo rows a n).getD k [] = takenOff (rows.getD k []) (rows.getD a []) a := fun k hk e => by rw [g k hk, if_pos e]
  have hl : ∀ k, k < n → (rows.getD k []).length = (rows.getD a []).length := fun k hk => by rw [I.rl k hk, I.rl a ha]
  have gc : ∀ k j, k < n → j < n + 1 → k ≠ a → cl (elimTo rows a n) k j = cl rows k j - cl rows k a / cl rows a a * cl rows a j := fun k j hk hj e => by
    have h1 : cl (elimTo rows a n) k j = ((elimTo rows a n).getD k []).getD j 0 := rfl
    rw [h1, gn k hk e]
    exact off_get (hl k hk) (by rw [I.rl k hk]; exact hj)
  have gca : ∀ j, cl (elimTo rows a n) a j = cl rows a j := fun j => by unfold cl; rw [ga]
  refine ⟨by rw [elim_len]; exact I.len, fun k hk => ?_, fun c hc k hk hne => ?_, fun c hc => ?_, fun y => ?_, fun k hk => ?_⟩
  · by_cases e : k = a
    · subst e; rw [ga]; exact I.rl k hk
    · rw [gn k hk e, off_len (hl k hk)]; exact I.rl k hk
  · by_cases e : k = a
    · subst e; rw [gca]; exact I.col c (by omega) k hk hne
    · rw [gc k c hk (by omega) e]
      by_cases ec : c = a
      · subst ec; rw [Rat.div_mul_cancel hp]; grind
      · rw [I.col c (by omega) k hk hne, I.col c (by omega) a ha (fun z => ec z.symm)]; grind
  · by_cases ec : c = a
    · subst ec; rw [gca]; exact hp
    · rw [gc c c (by omega) (by omega) ec, I.col c (by omega) a ha (fun z => ec z.symm)]
      have := I.dia c (by omega)
      intro z; apply this; rw [← z]; grind
  · rw [← I.sol y]
    have ed : ∀ k, k < n → k ≠ a → dt (n + 1) ((elimTo rows a n).getD k []) y = dt (n + 1) (rows.getD k []) y - cl rows k a / cl rows a a * dt (n + 1) (rows.getD a []) y := fun k hk e => by
      rw [gn k hk e, dt_off y (I.rl k hk) (I.rl a ha)]; rfl
    constructor
    · intro h k hk
      by_cases e : k = a
      · subst e; have := h k hk; rw [ga] at this; exact this
      · have h1 := h k hk
        have h2 := h a ha
        rw [ga] at h2
        rw [ed k hk e, h2] at h1
        rw [← h1]; grind
    · intro h k hk
      by_cases e : k = a
      · subst e; rw [ga]; exact h k hk
      · rw [ed k hk e, h a ha, h k hk]; grind
  · obtain ⟨D, h1, h2, h3⟩ := I.nq k hk
    obtain ⟨t, t1, t2, t3⟩ := I.nq a ha
    by_cases e : k = a
    · subst e
      refine ⟨D, h1, Nat.le_trans h2 (Nat.pow_le_pow_right (by decide) (by show ss k ≤ ss k + bb k; omega)), fun j hj => ?_⟩
      rw [gca]; exact (h3 j hj).mono (by show bb k ≤ 2 * bb k + 1; omega)
    · obtain ⟨Pm, ep, lp⟩ := t3 a (by omega)
      have pne : Pm ≠ 0 := fun z => by
        subst z
        have tz : (t : Rat) ≠ 0 := fun z => by
          have : ((t : Nat) : Rat).num = 0 := by rw [z]; rfl
          simp at this; omega
        have hz : cl rows a a * (t : Rat) = 0 := ep
        rcases Rat.mul_eq_zero.mp hz with h | h
        · exact hp h
        · exact tz h
      refine ⟨D * Pm.natAbs, Nat.mul_pos h1 (by omega), ?_, fun j hj => ?_⟩
      · show _ ≤ 2 ^ (ss a + bb a)
        rw [Nat.pow_add]; exact Nat.mul_le_mul h2 lp
      · rw [gc k j hk (by omega) e]
        exact nq_off ep hp lp (h3 j hj) (h3 a (by omega)) (t3 j hj)
/-- what the cleared rows say -/
theorem EInv.done {n : Nat} {rows0 rows : List (List Rat)} (I : EInv n rows0 rows n) : ∀ k, k < n → dt (n + 1) (rows0.getD k []) (fun j => if j < n then cl rows j n / cl rows j j else -1) = 0 := by
  refine (I.sol _).mp fun k hk => ?_
  show Sg (n + 1) (fun j => cl rows k j * (if j < n then cl rows j n / cl rows j j else -1)) = 0
  rw [Sg_two (k := k) (l := n) hk (by omega) fun j hj h1 h2 => by rw [I.col j (by omega) k hk (fun z => h1 z.symm), Rat.zero_mul]]
  rw [if_pos hk, if_neg (by omega), Rat.mul_comm, Rat.div_mul_cancel (I.dia k hk)]; grind
end Gm

set_option maxHeartbeats 4000000
namespace Gm
/-! ### a common denominator -/
def cs : Nat → Nat → Nat
  | 0, _ => 0
  | n + 1, b => cs n (2 * b + 1) + b
def cm : Nat → Nat → Nat
  | 0, _ => 0
  | n + 1, b => cm n (2 * b + 1) + b + 4
theorem cs_cm : ∀ n b, cs n b ≤ cm n b
  | 0, _ => Nat.le_refl _
  | n + 1, b => by have := cs_cm n (2 * b + 1); unfold cs cm; omega
theorem Sg_nqB {D c : Nat} {f : Nat → Rat} : ∀ {n : Nat}, (∀ j, j < n → Nq D c (f j)) → ∃ m : Int, Sg n f * (D : Rat) = (m : Rat) ∧ m.natAbs ≤ n * 2 ^ c
  | 0, _ => ⟨0, by simp only [Sg]; rw [Rat.zero_mul]; rfl, by simp⟩
  | n + 1, h => by
    obtain ⟨m, e, l⟩ := Sg_nqB fun j hj => h j (Nat.lt_succ_of_lt hj)
    obtain ⟨m', e', l'⟩ := h n (Nat.lt_succ_self n)
    refine ⟨m + m', by rw [Sg, Rat.add_mul, e, e', Rat.intCast_add], ?_⟩
    rw [Nat.add_mul, Nat.one_mul]; omega
theorem Sg_nq {D c k n : Nat} {f : Nat → Rat} (h : ∀ j, j < n → Nq D c (f j)) (hn : n ≤ 2 ^ k) : Nq D (c + k) (Sg n f) := by
  obtain ⟨m, e, l⟩ := Sg_nqB h
  refine ⟨m, e, Nat.le_trans l ?_⟩
  rw [Nat.pow_add, Nat.mul_comm (2 ^ c)]
  exact Nat.mul_le_mul_right _ hn
theorem nq_quot {D c : Nat} {x a N : Rat} {Pm : Int} (hx : x * a = N) (ha : a = (Pm : Rat)) (h : Nq D c N) : Nq (D * Pm.natAbs) c x := by
  obtain ⟨m, e, l⟩ := h
  have key : x * (D : Rat) * (Pm : Rat) = (m : Rat) := by rw [← e, ← hx, ← ha]; grind
  by_cases s : 0 ≤ Pm
  · refine ⟨m, ?_, l⟩
    rw [← key, Rat.natCast_mul, ← Rat.intCast_natCast (Pm.natAbs), show ((Pm.natAbs : Nat) : Int) = Pm by omega]; grind
  · refine ⟨-m, ?_, by omega⟩
    rw [Rat.intCast_neg, ← key, Rat.natCast_mul, ← Rat.intCast_natCast (Pm.natAbs), show ((Pm.natAbs : Nat) : Int) = -Pm by omega, Rat.intCast_neg]; grind
def skp (p i : Nat) : Nat := if i < p then i else i + 1
theorem skp_onto {n p i : Nat} (hi : i < n + 1) (hp : p < n + 1) (h : i ≠ p) : ∃ i', i' < n ∧ skp p i' = i := by
  by_cases e : i < p
  · exact ⟨i, by omega, by unfold skp; rw [if_pos e]⟩
  · exact ⟨i - 1, by omega, by unfold skp; rw [if_neg (by omega)]; omega⟩
theorem skp_lt {n p i : Nat} (hi : i < n) : skp p i < n + 1 := by unfold skp; split <;> omega
def NonM (n : Nat) (A : Nat → Nat → Rat) : Prop := ∀ v : Nat → Rat, (∀ i, i < n → Sg n (fun j => A i j * v j) = 0) → ∀ j, j < n → v j = 0
theorem Sg_comb (n : Nat) (f g v : Nat → Rat) (a c : Rat) : Sg n (fun j => (f j * a - c * g j) * v j) = a * Sg n (fun j => f j * v j) - c * Sg n (fun j => g j * v j) := by
  have e : Sg n (fun j => (f j * a - c * g j) * v j) = Sg n (fun j => a * (f j * v j) + (-c) * (g j * v j)) := Sg_congr fun j _ => by grind
  rw [e, Sg_add, Sg_smul, Sg_smul]; grind
theorem cden : ∀ (n : Nat), n ≤ 8 → ∀ (b : Nat) (A : Nat → Nat → Rat), (∀ i j, i < n → j < n → Nq 1 b (A i j)) → NonM n A →
    ∃ D, 0 < D ∧ D ≤ 2 ^ cs n b ∧ ∀ B x : Nat → Rat, (∀ i, i < n → Nq 1 b (B i)) → (∀ i, i < n → Sg n (fun j => A i j * x j) = B i) → ∀ j, j < n → Nq D (cm n b) (x j)
  | 0, _, b, A, _, _ => ⟨1, by decide, by simp [cs], fun _ _ _ _ j hj => absurd hj (by omega)⟩
  | n + 1, hn, b, A, hA, ns => by
    have hpv : ∃ p, p < n + 1 ∧ A p n ≠ 0 := Classical.byContradiction fun hc => by
      have h0 : ∀ p, p < n + 1 → A p n = 0 := fun p hp => Classical.byContradiction fun h => hc ⟨p, hp, h⟩
      have := ns (fun j => if j = n then 1 else 0) (fun i hi => by
        rw [Sg_one (k := n) (by omega) fun j _ hne => by rw [if_neg hne, Rat.mul_zero]]
        rw [h0 i hi, Rat.zero_mul]) n (by omega)
      have this : (if n = n then (1 : Rat) else 0) = 0 := this
      rw [if_pos rfl] at this
      exact absurd this (by decide)
    obtain ⟨p, hp, pn⟩ := hpv
    obtain ⟨Pm, ep, lp⟩ := hA p n hp (by omega)
    have ep : A p n = (Pm : Rat) := by rw [← ep]; grind
    have pne : Pm ≠ 0 := fun z => pn (by rw [ep, z]; rfl)
    have h1 : ∀ {x y z u : Rat}, Nq 1 b x → Nq 1 b y → Nq 1 b z → Nq 1 b u → Nq 1 (2 * b + 1) (x * y - z * u) := fun {x y z u} hx hy hz hu => by
      have a1 : Nq 1 (b + b) (x * y) := hx.mul hy
      have a2 : Nq 1 (b + b) (z * u) := hz.mul hu
      exact a1.sub a2 (by omega) (by omega)
    obtain ⟨D, d0, dl, dx⟩ := cden n (by omega) (2 * b + 1) (fun i j => A (skp p i) j * A p n - A (skp p i) n * A p j)
      (fun i j hi hj => h1 (hA _ _ (skp_lt hi) (by omega)) (hA _ _ hp (by omega)) (hA _ _ (skp_lt hi) (by omega)) (hA _ _ hp (by omega)))
      (fun v hv j hj => by
        have := ns (fun j => if j < n then v j else -(Sg n fun j => A p j * v j) / A p n) (fun i hi => by
          have e : ∀ i, Sg (n + 1) (fun j => A i j * (if j < n then v j else -(Sg n fun j => A p j * v j) / A p n)) = Sg n (fun j => A i j * v j) + A i n * (-(Sg n fun j => A p j * v j) / A p n) := fun i => by
            rw [Sg, if_neg (by omega)]
            congr 1
            exact Sg_congr fun j hj => by rw [if_pos hj]
          rw [e]
          by_cases hip : i = p
          · subst hip
            rw [Rat.mul_comm, Rat.div_mul_cancel pn]; grind
          · obtain ⟨i', hi', rfl⟩ := skp_onto hi hp hip
            have h2 := hv i' hi'
            rw [Sg_comb] at h2
            have h3 : (Sg n (fun j => A (skp p i') j * v j) + A (skp p i') n * (-(Sg n fun j => A p j * v j) / A p n)) * A p n = 0 := by
              rw [Rat.add_mul, Rat.mul_assoc, Rat.div_mul_cancel pn, ← h2]; grind
            rcases Rat.mul_eq_zero.mp h3 with h | h
            · exact h
            · exact absurd h pn) j (by omega)
        have this : (if j < n then v j else _) = 0 := this
        rw [if_pos hj] at this
        exact this)
    refine ⟨D * Pm.natAbs, Nat.mul_pos d0 (by omega), ?_, fun B x hB hx => ?_⟩
    · show _ ≤ 2 ^ (cs n (2 * b + 1) + b)
      rw [Nat.pow_add]; exact Nat.mul_le_mul dl lp
    have hx' := dx (fun i => B (skp p i) * A p n - A (skp p i) n * B p) x (fun i hi => h1 (hB _ (skp_lt hi)) (hA _ _ hp (by omega)) (hA _ _ (skp_lt hi) (by omega)) (hB _ hp)) (fun i hi => by
      rw [Sg_comb]
      have e1 := hx _ (skp_lt (p := p) hi)
      have e2 := hx p hp
      rw [Sg] at e1 e2
      grind)
    have cle := cs_cm n (2 * b + 1)
    intro j hj
    by_cases hjn : j < n
    · exact ((hx' j hjn).scale (k := Pm.natAbs) lp |> fun h => by rw [Nat.mul_comm] at h; exact h.mono (by show _ ≤ cm n (2 * b + 1) + b + 4; omega))
    · have : j = n := by omega
      subst this
      have e2 := hx p hp
      rw [Sg] at e2
      refine nq_quot (N := B p - Sg j (fun i => A p i * x i)) (a := A p j) (by grind) ep ?_
      have s1 : Nq D (b + cm j (2 * b + 1)) (B p) := by
        have := (hB p hp).scale (k := D) (c := cm j (2 * b + 1)) (Nat.le_trans dl (Nat.pow_le_pow_right (by decide) cle))
        rw [Nat.mul_one] at this; exact this
      have s2 : Nq D (b + cm j (2 * b + 1) + 3) (Sg j (fun i => A p i * x i)) := Sg_nq (k := 3) (fun i hi => by
        have := (hA p i hp (by omega)).mul (hx' i hi)
        rw [Nat.one_mul] at this; exact this) (by omega)
      exact (s1.sub s2 (e := b + cm j (2 * b + 1) + 3) (by omega) (by omega)).mono (by show _ ≤ cm j (2 * b + 1) + b + 4; omega)
end Gm

set_option maxHeartbeats 4000000
namespace Gm
open PySem PySem.Spec PyProof.Rows L2
/-! ### sums over names and over readings -/
def smL (F : List Str) (g : Str → Rat) : Rat := match F with
  | [] => 0
  | m :: F => g m + smL F g
def smR (rds : List (Int × Rdg)) (g : Rdg → Rat) : Rat := match rds with
  | [] => 0
  | x :: rds => g x.2 + smR rds g
/-- what a mark gets: + as the other end, - as the one end -/
def pm (m : Str) (r : Rdg) (q : Rat) : Rat := (if r.other = m then q else 0) - (if r.one = m then q else 0)
def sgR (rds : List (Int × Rdg)) (f : Rdg → Rat) (m : Str) : Rat := smR rds fun r => pm m r (f r)
theorem smL_congr {F : List Str} {f g : Str → Rat} (h : ∀ m ∈ F, f m = g m) : smL F f = smL F g := by
  induction F with
  | nil => rfl
  | cons a F ih => rw [smL, smL, h a List.mem_cons_self, ih fun m hm => h m (List.mem_cons_of_mem _ hm)]
theorem smL_add (F : List Str) (f g : Str → Rat) : smL F (fun m => f m + g m) = smL F f + smL F g := by
  induction F with
  | nil => simp only [smL]; rw [Rat.add_zero]
  | cons a F ih => simp only [smL]; rw [ih]; grind
theorem smL_zero {F : List Str} {f : Str → Rat} (h : ∀ m ∈ F, f m = 0) : smL F f = 0 := by
  induction F with
  | nil => rfl
  | cons a F ih => rw [smL, h a List.mem_cons_self, ih fun m hm => h m (List.mem_cons_of_mem _ hm), Rat.add_zero]
theorem smL_pick {F : List Str} (nd : F.Nodup) (b : Str) (g : Str → Rat) (off : b ∉ F → g b = 0) : smL F (fun m => if b = m then g m else 0) = g b := by
  induction F with
  | nil => rw [smL, off (by simp)]
  | cons a F ih =>
    rw [List.nodup_cons] at nd
    rw [smL]
    by_cases e : b = a
    · subst e
      rw [if_pos rfl, smL_zero (fun m hm => if_neg (fun z : b = m => nd.1 (by rw [z]; exact hm))), Rat.add_zero]
    · rw [if_neg e, Rat.zero_add]
      exact ih nd.2 fun h => off fun z => (List.mem_cons.mp z).elim e h
theorem smR_congr {rds : List (Int × Rdg)} {f g : Rdg → Rat} (h : ∀ n r, (n, r) ∈ rds → f r = g r) : smR rds f = smR rds g := by
  induction rds with
  | nil => rfl
  | cons a F ih => rw [smR, smR, h a.1 a.2 List.mem_cons_self, ih fun n r hm => h n r (List.mem_cons_of_mem _ hm)]
theorem smR_add (rds : List (Int × Rdg)) (f g : Rdg → Rat) : smR rds (fun m => f m + g m) = smR rds f + smR rds g := by
  induction rds with
  | nil => simp only [smR]; rw [Rat.add_zero]
  | cons a F ih => simp only [smR]; rw [ih]; grind
theorem smR_smul (rds : List (Int × Rdg)) (c : Rat) (f : Rdg → Rat) : smR rds (fun m => c * f m) = c * smR rds f := by
  induction rds with
  | nil => simp only [smR]; rw [Rat.mul_zero]
  | cons a F ih => simp only [smR]; rw [ih]; grind
theorem smR_nn {rds : List (Int × Rdg)} {f : Rdg → Rat} (h : ∀ n r, (n, r) ∈ rds → 0 ≤ f r) : 0 ≤ smR rds f := by
  induction rds with
  | nil => exact Rat.le_refl
  | cons a F ih =>
    rw [smR]
    have h1 := h a.1 a.2 List.mem_cons_self
    have h2 := ih fun n r hm => h n r (List.mem_cons_of_mem _ hm)
    grind
theorem smR_nz {rds : List (Int × Rdg)} {f : Rdg → Rat} (h : ∀ n r, (n, r) ∈ rds → 0 ≤ f r) (h0 : smR rds f = 0) : ∀ n r, (n, r) ∈ rds → f r = 0 := by
  induction rds with
  | nil => intro n r h; simp at h
  | cons a F ih =>
    rw [smR] at h0
    have h1 := h a.1 a.2 List.mem_cons_self
    have h2 : 0 ≤ smR F f := smR_nn fun n r hm => h n r (List.mem_cons_of_mem _ hm)
    have h3 : f a.2 = 0 := by grind
    have h4 : smR F f = 0 := by grind
    intro n r hr
    rcases List.mem_cons.mp hr with e | hr
    · cases e; exact h3
    · exact ih (fun n r hm => h n r (List.mem_cons_of_mem _ hm)) h4 n r hr
/-- summation by parts -/
theorem by_parts {F : List Str} (nd : F.Nodup) {v : Str → Rat} (off : ∀ m, m ∉ F → v m = 0) (f : Rdg → Rat) (rds : List (Int × Rdg)) : smL F (fun m => v m * sgR rds f m) = smR rds (fun r => f r * (v r.other - v r.one)) := by
  induction rds with
  | nil => exact smL_zero fun m _ => by show v m * 0 = 0; rw [Rat.mul_zero]
  | cons x rds ih =>
    rw [smR, ← ih]
    have e : smL F (fun m => v m * sgR (x :: rds) f m) = smL F (fun m => ((if x.2.other = m then v m * f x.2 else 0) + (if x.2.one = m then -(v m * f x.2) else 0)) + v m * sgR rds f m) := smL_congr fun m _ => by
      have e2 : sgR (x :: rds) f m = pm m x.2 (f x.2) + sgR rds f m := rfl
      rw [e2]; unfold pm
      split <;> split <;> grind
    rw [e, smL_add, smL_add, smL_pick nd _ (fun m => v m * f x.2) (fun h => by rw [off _ h, Rat.zero_mul]), smL_pick nd _ (fun m => -(v m * f x.2)) (fun h => by rw [off _ h]; grind)]
    grind
theorem sq_nn (x : Rat) : 0 ≤ x * x := by
  rcases (Rat.le_total (a := 0) (b := x)) with h | h
  · exact Rat.mul_nonneg h h
  · have h1 : 0 ≤ -x := by grind
    have h2 := Rat.mul_nonneg h1 h1
    have e : -x * -x = x * x := by grind
    rw [e] at h2; exact h2
theorem energy {rds : List (Int × Rdg)} (hw : ∀ n r, (n, r) ∈ rds → 1 ≤ r.wt) {F : List Str} (nd : F.Nodup) {v : Str → Rat} (off : ∀ m, m ∉ F → v m = 0)
    (h : ∀ m ∈ F, sgR rds (fun r => (r.wt : Rat) * (v r.other - v r.one)) m = 0) : ∀ n r, (n, r) ∈ rds → v r.other = v r.one := by
  have h0 := by_parts nd off (fun r => (r.wt : Rat) * (v r.other - v r.one)) rds
  rw [smL_zero fun m hm => by rw [h m hm, Rat.mul_zero]] at h0
  have wp : ∀ n r, (n, r) ∈ rds → (0 : Rat) < (r.wt : Rat) := fun n r hr => by
    have := hw n r hr
    have h1 : ((0 : Int) : Rat) < ((r.wt : Int) : Rat) := Rat.intCast_lt_intCast.mpr (by omega)
    exact h1
  intro n r hr
  have hz := smR_nz (f := fun r => (r.wt : Rat) * (v r.other - v r.one) * (v r.other - v r.one)) (fun n r hr => by
    have h1 := Rat.le_of_lt (wp n r hr)
    have h2 := sq_nn (v r.other - v r.one)
    have h3 := Rat.mul_nonneg h1 h2
    rw [Rat.mul_assoc]; exact h3) h0.symm n r hr
  have hz : (r.wt : Rat) * (v r.other - v r.one) * (v r.other - v r.one) = 0 := hz
  have hwp := wp n r hr
  have hg : v r.other - v r.one = 0 := by
    rcases Rat.mul_eq_zero.mp hz with h | h
    · rcases Rat.mul_eq_zero.mp h with h | h
      · rw [h] at hwp; exact absurd hwp (by decide)
      · exact h
    · exact h
  grind
namespace Wd
theorem fx_mem {W : Wd} (ok : W.Ok) {m : Str} {o : Option (Int × Int)} (h : (m, o) ∈ W.mks) : W.fx m = o := by
  obtain ⟨⟨m', o'⟩, q, e, hx⟩ := find_mem (k := m) (List.mem_map.mpr ⟨_, h, rfl⟩)
  have e : m' = m := e
  subst e
  obtain ⟨i1, h1⟩ := List.getElem?_of_mem hx
  obtain ⟨i2, h2⟩ := List.getElem?_of_mem h
  have g1 : (W.mks.map (·.1))[i1]? = some m' := by rw [List.getElem?_map, h1]; rfl
  have g2 : (W.mks.map (·.1))[i2]? = some m' := by rw [List.getElem?_map, h2]; rfl
  have := nd_ix ok.nd g1 g2
  subst this
  rw [h1] at h2
  cases h2
  exact fx_none q
theorem hang_nought {W : Wd} {v : Str → Rat} (hr : ∀ n r, (n, r) ∈ W.rds → v r.other = v r.one) (hf : ∀ m p, (m, some p) ∈ W.mks → v m = 0) {m : Str} (h : W.Hang m) : v m = 0 := by
  induction h with
  | fix h => exact hf _ _ h
  | fwd h _ ih => rw [hr _ _ h]; exact ih
  | bwd h _ ih => rw [← hr _ _ h]; exact ih
/-- no shift of the free marks leaves all sums as they are, but none at all -/
theorem still {W : Wd} (ok : W.Ok) {v : Str → Rat} (off : ∀ m, m ∉ W.free → v m = 0) (h : ∀ m ∈ W.free, sgR W.rds (fun r => (r.wt : Rat) * (v r.other - v r.one)) m = 0) : ∀ m, v m = 0 := by
  have he := energy (fun n r hr => (ok.rdb hr).w.1) (free_nodup ok) off h
  intro m
  by_cases hm : m ∈ W.free
  · refine hang_nought he (fun m p hp => off m fun z => ?_) (hung_mem.mp (free_mem.mp hm).1).2
    have := (free_mem.mp z).2
    rw [fx_mem ok hp] at this; cases this
  · exact off m hm
theorem hung_ends {W : Wd} (ok : W.Ok) {n : Int} {r : Rdg} (h : (n, r) ∈ W.rds) : r.one ∈ W.hung ↔ r.other ∈ W.hung := by
  have hn := ok.rd n r h
  rw [hung_mem, hung_mem]
  exact ⟨fun z => ⟨hn.2.1, .fwd h z.2⟩, fun z => ⟨hn.1, .bwd h z.2⟩⟩
end Wd
/-! ### uncF as a sum -/
theorem uncStep_pm (pl : PlL) (m : Str) (way : Nat) (acc : Rat) (r : Rdg) : uncStep pl m way acc r = acc + pm m r (uncPart pl way r) := by
  unfold uncStep uncMid pm
  split <;> split <;> grind
theorem uncF_fold (pl : PlL) (m : Str) (way : Nat) : ∀ (rds : List (Int × Rdg)) (acc : Rat), rds.foldl (fun acc x => uncStep pl m way acc x.2) acc = acc + sgR rds (uncPart pl way) m
  | [], acc => by show acc = acc + 0; rw [Rat.add_zero]
  | x :: rds, acc => by
    rw [List.foldl_cons, uncF_fold pl m way rds, uncStep_pm]
    have : sgR (x :: rds) (uncPart pl way) m = pm m x.2 (uncPart pl way x.2) + sgR rds (uncPart pl way) m := rfl
    rw [this]; grind
theorem uncF_sg (pl : PlL) (rds : List (Int × Rdg)) (m : Str) (way : Nat) : uncF pl rds m way = sgR rds (uncPart pl way) m := by
  unfold uncF; rw [uncF_fold]; grind
theorem sgR_congr {rds : List (Int × Rdg)} {f g : Rdg → Rat} {m : Str} (h : ∀ n r, (n, r) ∈ rds → r.one = m ∨ r.other = m → f r = g r) : sgR rds f m = sgR rds g m := smR_congr fun n r hr => by
  unfold pm
  by_cases h1 : r.other = m
  · rw [h n r hr (.inr h1)]
  · by_cases h2 : r.one = m
    · rw [h n r hr (.inl h2)]
    · rw [if_neg h1, if_neg h1, if_neg h2, if_neg h2]
theorem sgR_sub (rds : List (Int × Rdg)) (f g : Rdg → Rat) (m : Str) : sgR rds (fun r => f r - g r) m = sgR rds f m - sgR rds g m := by
  have e : sgR rds (fun r => f r - g r) m = smR rds (fun r => pm m r (f r) + (-1 : Rat) * pm m r (g r)) := smR_congr fun n r _ => by
    unfold pm; split <;> split <;> grind
  rw [e, smR_add, smR_smul]; unfold sgR; grind
end Gm

set_option maxHeartbeats 4000000
namespace Gm
open PySem PySem.Spec PyProof.Rows L2
def ixF : List Str → Str → Nat
  | [], _ => 0
  | a :: F, m => if a = m then 0 else ixF F m + 1
theorem ixF_get : ∀ {F : List Str} {m : Str}, m ∈ F → F[ixF F m]? = some m
  | a :: F, m, h => by
    unfold ixF
    by_cases e : a = m
    · rw [if_pos e, e]; rfl
    · rw [if_neg e]
      have : m ∈ F := (List.mem_cons.mp h).elim (fun z => absurd z.symm e) id
      simpa using ixF_get this
theorem ixF_lt {F : List Str} {m : Str} (h : m ∈ F) : ixF F m < F.length := (List.getElem?_eq_some_iff.mp (ixF_get h)).1
theorem ixF_of {F : List Str} (nd : F.Nodup) {m : Str} {i : Nat} (h : F[i]? = some m) : ixF F m = i := nd_ix nd (ixF_get (List.mem_of_getElem? h)) h
/-! ### the sums of the program -/
def addAt (row : List Rat) (k : Nat) (q : Rat) : List Rat := row.set k (row.getD k 0 + q)
theorem addAt_len (row : List Rat) (k : Nat) (q : Rat) : (addAt row k q).length = row.length := List.length_set
theorem addAt_get (row : List Rat) (k j : Nat) (q : Rat) : (addAt row k q).getD j 0 = row.getD j 0 + (if k = j ∧ k < row.length then q else 0) := by
  unfold addAt
  rw [getD_set]
  by_cases h : k = j ∧ k < row.length
  · rw [if_pos h, if_pos h, h.1]
  · rw [if_neg h, if_neg h, Rat.add_zero]
theorem dt_addAt {N k : Nat} {row : List Rat} (q : Rat) (y : Nat → Rat) (hl : row.length = N) (hk : k < N) : dt N (addAt row k q) y = dt N row y + q * y k := by
  unfold dt
  have e : Sg N (fun j => (addAt row k q).getD j 0 * y j) = Sg N (fun j => row.getD j 0 * y j + (if k = j then q * y j else 0)) := Sg_congr fun j hj => by
    rw [addAt_get]
    by_cases h : k = j
    · rw [if_pos ⟨h, by omega⟩, if_pos h]; grind
    · rw [if_neg (fun z => h z.1), if_neg h]; grind
  rw [e, Sg_add, Sg_one (k := k) hk fun j _ hne => if_neg fun z => hne z.symm, if_pos rfl]
def halfRow (F : List Str) (fq : Str → Rat) (w s : Rat) (e : Str) (i : Nat) (row : List Rat) : List Rat :=
  if e ∈ F then addAt (addAt (addAt row i w) F.length s) (ixF F e) (-w) else addAt (addAt (addAt row i w) F.length s) F.length (w * fq e)
def halfS (F : List Str) (fq : Str → Rat) (w s : Rat) (e m : Str) (rows : List (List Rat)) : List (List Rat) :=
  if m ∈ F then rows.set (ixF F m) (halfRow F fq w s e (ixF F m) (rows.getD (ixF F m) [])) else rows
def stepS (F : List Str) (fq : Str → Rat) (way : Nat) (rows : List (List Rat)) (r : Rdg) : List (List Rat) :=
  halfS F fq (r.wt : Rat) ((-1 * r.wt * r.sz way : Int) : Rat) r.other r.one (halfS F fq (r.wt : Rat) ((1 * r.wt * r.sz way : Int) : Rat) r.one r.other rows)
def rows0 (n : Nat) : List (List Rat) := List.replicate n (List.replicate (n + 1) 0)
def sumRows (F : List Str) (fq : Str → Rat) (way : Nat) (rds : List (Int × Rdg)) : List (List Rat) := rds.foldl (fun rows x => stepS F fq way rows x.2) (rows0 F.length)
/-- the shape of the rows -/
structure Shp (n : Nat) (rows : List (List Rat)) : Prop where
  len : rows.length = n
  rl : ∀ k, k < n → (rows.getD k []).length = n + 1
theorem halfRow_len (F : List Str) (fq : Str → Rat) (w s : Rat) (e : Str) (i : Nat) (row : List Rat) : (halfRow F fq w s e i row).length = row.length := by
  unfold halfRow; split <;> rw [addAt_len, addAt_len, addAt_len]
theorem Shp.half {F : List Str} {fq : Str → Rat} {w s : Rat} {e m : Str} {rows : List (List Rat)} (h : Shp F.length rows) : Shp F.length (halfS F fq w s e m rows) := by
  unfold halfS
  split
  · rename_i hm
    refine ⟨by rw [List.length_set]; exact h.len, fun k hk => ?_⟩
    rw [getD_set]
    split
    · rename_i hc
      rw [halfRow_len]; exact h.rl _ (by rw [hc.1]; exact hk)
    · exact h.rl k hk
  · exact h
theorem Shp.step {F : List Str} {fq : Str → Rat} {way : Nat} {rows : List (List Rat)} {r : Rdg} (h : Shp F.length rows) : Shp F.length (stepS F fq way rows r) := h.half.half
theorem Shp.zero (n : Nat) : Shp n (rows0 n) := by
  refine ⟨List.length_replicate, fun k hk => ?_⟩
  unfold rows0
  rw [List.getD_eq_getElem?_getD, List.getElem?_replicate, if_pos hk]
  exact List.length_replicate
theorem shp_fold {F : List Str} {fq : Str → Rat} {way : Nat} : ∀ (rds : List (Int × Rdg)) (rows : List (List Rat)), Shp F.length rows → Shp F.length (rds.foldl (fun rows x => stepS F fq way rows x.2) rows)
  | [], _, h => h
  | x :: rds, rows, h => by rw [List.foldl_cons]; exact shp_fold rds _ h.step
theorem sumRows_shp (F : List Str) (fq : Str → Rat) (way : Nat) (rds : List (Int × Rdg)) : Shp F.length (sumRows F fq way rds) := shp_fold rds _ (Shp.zero _)
/-! what a row says -/
def XX (F : List Str) (fq : Str → Rat) (y : Nat → Rat) (t : Rat) (m : Str) : Rat := if m ∈ F then y (ixF F m) else t * fq m
theorem dt_halfRow {F : List Str} {fq : Str → Rat} {w s t : Rat} {e m : Str} {row : List Rat} {y : Nat → Rat} (hl : row.length = F.length + 1) (hm : m ∈ F) (hy : y F.length = -t) :
    dt (F.length + 1) (halfRow F fq w s e (ixF F m) row) y = dt (F.length + 1) row y + (w * (XX F fq y t m - XX F fq y t e) - t * s) := by
  have h1 : dt (F.length + 1) (addAt (addAt row (ixF F m) w) F.length s) y = dt (F.length + 1) row y + w * y (ixF F m) + s * y F.length := by
    rw [dt_addAt s y (by rw [addAt_len]; exact hl) (by omega), dt_addAt w y hl (by have := ixF_lt hm; omega)]
  have l2 : (addAt (addAt row (ixF F m) w) F.length s).length = F.length + 1 := by rw [addAt_len, addAt_len]; exact hl
  unfold halfRow XX
  rw [if_pos hm]
  split
  · rename_i he
    rw [dt_addAt _ y l2 (by have := ixF_lt he; omega), h1, hy]; grind
  · rw [dt_addAt _ y l2 (by omega), h1, hy]; grind
theorem dt_half {F : List Str} (nd : F.Nodup) {fq : Str → Rat} {w s t : Rat} {e m : Str} {rows : List (List Rat)} {y : Nat → Rat} (h : Shp F.length rows) (hy : y F.length = -t) {i : Nat} {f : Str} (hi : F[i]? = some f) :
    dt (F.length + 1) ((halfS F fq w s e m rows).getD i []) y = dt (F.length + 1) (rows.getD i []) y + (if m = f then w * (XX F fq y t m - XX F fq y t e) - t * s else 0) := by
  have hil : i < F.length := (List.getElem?_eq_some_iff.mp hi).1
  unfold halfS
  by_cases hm : m ∈ F
  · rw [if_pos hm, getD_set, h.len]
    by_cases hf : m = f
    · subst hf
      have e1 := ixF_of nd hi
      rw [if_pos ⟨e1, ixF_lt hm⟩, if_pos rfl, dt_halfRow (by rw [e1]; exact h.rl i hil) hm hy, e1]
    · have : ixF F m ≠ i := fun z => hf (by
        have := ixF_get hm
        rw [z, hi] at this
        exact (Option.some.inj this).symm)
      rw [if_neg (fun z => this z.1), if_neg hf, Rat.add_zero]
  · rw [if_neg hm, if_neg (fun z => hm (by rw [z]; exact List.mem_of_getElem? hi)), Rat.add_zero]
def eqR (F : List Str) (fq : Str → Rat) (way : Nat) (y : Nat → Rat) (t : Rat) (r : Rdg) : Rat := (r.wt : Rat) * (XX F fq y t r.other - XX F fq y t r.one) - t * ((r.wt : Rat) * (r.sz way : Rat))
theorem dt_step {F : List Str} (nd : F.Nodup) {fq : Str → Rat} {way : Nat} {t : Rat} {rows : List (List Rat)} {y : Nat → Rat} {r : Rdg} (h : Shp F.length rows) (hy : y F.length = -t) {i : Nat} {f : Str} (hi : F[i]? = some f) :
    dt (F.length + 1) ((stepS F fq way rows r).getD i []) y = dt (F.length + 1) (rows.getD i []) y + pm f r (eqR F fq way y t r) := by
  unfold stepS
  rw [dt_half nd h.half hy hi, dt_half nd h hy hi]
  unfold pm eqR
  rw [Rat.intCast_mul, Rat.intCast_mul, Rat.intCast_mul, Rat.intCast_mul]
  have e1 : ((1 : Int) : Rat) = 1 := rfl
  have e2 : ((-1 : Int) : Rat) = -1 := rfl
  rw [e1, e2]
  split <;> split <;> grind
theorem dt_fold {F : List Str} (nd : F.Nodup) {fq : Str → Rat} {way : Nat} {t : Rat} {y : Nat → Rat} (hy : y F.length = -t) {i : Nat} {f : Str} (hi : F[i]? = some f) : ∀ (rds : List (Int × Rdg)) (rows : List (List Rat)), Shp F.length rows →
    dt (F.length + 1) ((rds.foldl (fun rows x => stepS F fq way rows x.2) rows).getD i []) y = dt (F.length + 1) (rows.getD i []) y + sgR rds (eqR F fq way y t) f
  | [], rows, _ => by show _ = _ + 0; rw [Rat.add_zero]; rfl
  | x :: rds, rows, h => by
    rw [List.foldl_cons, dt_fold nd hy hi rds _ h.step, dt_step nd h hy hi]
    have : sgR (x :: rds) (eqR F fq way y t) f = pm f x.2 (eqR F fq way y t x.2) + sgR rds (eqR F fq way y t) f := rfl
    rw [this]; grind
theorem getD_rep {α : Type} (n k : Nat) (x d : α) : (List.replicate n x).getD k d = if k < n then x else d := by
  rw [List.getD_eq_getElem?_getD, List.getElem?_replicate]
  split <;> rfl
theorem cl_zero (n k j : Nat) : cl (rows0 n) k j = 0 := by
  unfold cl rows0
  rw [getD_rep]
  split
  · rw [getD_rep]; split <;> rfl
  · rfl
theorem dt_sum {F : List Str} (nd : F.Nodup) {fq : Str → Rat} {way : Nat} {t : Rat} {y : Nat → Rat} (hy : y F.length = -t) {i : Nat} {f : Str} (hi : F[i]? = some f) (rds : List (Int × Rdg)) :
    dt (F.length + 1) ((sumRows F fq way rds).getD i []) y = sgR rds (eqR F fq way y t) f := by
  unfold sumRows
  rw [dt_fold nd hy hi rds _ (Shp.zero _)]
  have : dt (F.length + 1) ((rows0 F.length).getD i []) y = 0 := Sg_zero fun j _ => by
    have := cl_zero F.length i j
    unfold cl at this
    rw [this, Rat.zero_mul]
  rw [this, Rat.zero_add]
/-! how great its numbers are -/
def IB (c : Nat) (q : Rat) : Prop := ∃ m : Int, q = (m : Rat) ∧ m.natAbs ≤ c
theorem IB.add {c d : Nat} {p q : Rat} (h : IB c p) (g : IB d q) : IB (c + d) (p + q) := by
  obtain ⟨m, rfl, l⟩ := h; obtain ⟨n, rfl, k⟩ := g
  exact ⟨m + n, by rw [Rat.intCast_add], by omega⟩
theorem IB.mono {c d : Nat} {p : Rat} (h : IB c p) (l : c ≤ d) : IB d p := by obtain ⟨m, e, k⟩ := h; exact ⟨m, e, by omega⟩
theorem IB.zero {c : Nat} : IB c 0 := ⟨0, rfl, by simp⟩
theorem IB.nq {c b : Nat} {q : Rat} (h : IB c q) (l : c ≤ 2 ^ b) : Nq 1 b q := by obtain ⟨m, e, k⟩ := h; exact ⟨m, by rw [e]; grind, by omega⟩
theorem ib_addAt {row : List Rat} {k c d : Nat} {q : Rat} (h : ∀ j, IB c (row.getD j 0)) (hq : IB d q) : ∀ j, IB (c + d) ((addAt row k q).getD j 0) := fun j => by
  rw [addAt_get]
  split
  · exact (h j).add hq
  · exact (h j).add IB.zero
theorem ib_half {F : List Str} {fq : Str → Rat} {w s : Rat} {e m : Str} {rows : List (List Rat)} {c : Nat} (hw : IB 9 w) (hs : IB 108 s) (hf : IB 180 (w * fq e)) (h : ∀ k j, IB c (cl rows k j)) : ∀ k j, IB (c + 297) (cl (halfS F fq w s e m rows) k j) := fun k j => by
  unfold cl halfS
  split
  · rw [getD_set]
    split
    · unfold halfRow
      have a1 := ib_addAt (k := F.length) (ib_addAt (k := ixF F m) (row := rows.getD (ixF F m) []) (fun j => h (ixF F m) j) hw) hs
      split
      · refine (ib_addAt (d := 180) a1 ?_ j).mono (by omega)
        obtain ⟨z, e, l⟩ := hw
        exact ⟨-z, by rw [e, Rat.intCast_neg], by omega⟩
      · exact (ib_addAt a1 hf j).mono (by omega)
    · exact (h k j).mono (by omega)
  · exact (h k j).mono (by omega)
structure FqB (fq : Str → Rat) : Prop where
  b : ∀ m, IB 20 (fq m)
theorem IB.mul {c d : Nat} {p q : Rat} (h : IB c p) (g : IB d q) : IB (c * d) (p * q) := by
  obtain ⟨m, rfl, l⟩ := h; obtain ⟨n, rfl, k⟩ := g
  exact ⟨m * n, by rw [Rat.intCast_mul], by rw [Int.natAbs_mul]; exact Nat.mul_le_mul l k⟩
theorem sz_le {r : Rdg} (rb : RdB r) (way : Nat) : (r.sz way).natAbs ≤ 12 := by
  have := rb.a; have := rb.u
  unfold Rdg.sz; split <;> omega
theorem ib_step {F : List Str} {fq : Str → Rat} (fb : FqB fq) {way c : Nat} {rows : List (List Rat)} {r : Rdg} (rb : RdB r) (h : ∀ k j, IB c (cl rows k j)) : ∀ k j, IB (c + 594) (cl (stepS F fq way rows r) k j) := fun k j => by
  have hw : IB 9 (r.wt : Rat) := ⟨r.wt, rfl, by have := rb.w; omega⟩
  have h2 : ∀ s : Int, s.natAbs ≤ 1 → IB 108 ((s * r.wt * r.sz way : Int) : Rat) := fun s hs => ⟨_, rfl, by
    rw [Int.natAbs_mul, Int.natAbs_mul]
    have h1 := sz_le rb way
    have h3 : r.wt.natAbs ≤ 9 := by have := rb.w; omega
    calc s.natAbs * r.wt.natAbs * (r.sz way).natAbs ≤ 1 * 9 * 12 := Nat.mul_le_mul (Nat.mul_le_mul hs h3) h1
      _ = 108 := rfl⟩
  have hf : ∀ m, IB 180 ((r.wt : Rat) * fq m) := fun m => hw.mul (fb.b m)
  exact (ib_half hw (h2 (-1) (by decide)) (hf _) (ib_half hw (h2 1 (by decide)) (hf _) h) k j).mono (by omega)
theorem ib_fold {F : List Str} {fq : Str → Rat} (fb : FqB fq) {way : Nat} : ∀ (rds : List (Int × Rdg)) (rows : List (List Rat)) (c : Nat), (∀ n r, (n, r) ∈ rds → RdB r) → (∀ k j, IB c (cl rows k j)) → ∀ k j, IB (c + 594 * rds.length) (cl (rds.foldl (fun rows x => stepS F fq way rows x.2) rows) k j)
  | [], rows, c, _, h, k, j => (h k j).mono (by simp)
  | x :: rds, rows, c, hr, h, k, j => by
    rw [List.foldl_cons]
    exact (ib_fold fb rds _ (c + 594) (fun n r hm => hr n r (List.mem_cons_of_mem _ hm)) (ib_step fb (hr x.1 x.2 List.mem_cons_self) h) k j).mono (by rw [List.length_cons]; omega)
theorem ib_sum {W : Wd} (ok : W.Ok) (F : List Str) {fq : Str → Rat} (fb : FqB fq) (way : Nat) (i : Nat) : ∀ k j, IB 13068 (cl (sumRows F fq way (W.rds.take i)) k j) := fun k j => by
  have := ib_fold (F := F) fb (way := way) (W.rds.take i) (rows0 F.length) 0 (fun n r h => ok.rdb (List.mem_of_mem_take h)) (fun k j => by rw [cl_zero]; exact IB.zero) k j
  refine this.mono ?_
  have := ok.rlen
  rw [List.length_take]; omega
end Gm

set_option maxHeartbeats 4000000
namespace Gm
open PySem PySem.Spec PyProof.Rows L2
/-- the fixed places one way -/
def fqW (W : Wd) (way : Nat) (m : Str) : Rat := match W.fx m with
  | some p => ((if way = 0 then p.1 else p.2 : Int) : Rat)
  | none => 0
theorem fx_some_mem {W : Wd} {m : Str} {p : Int × Int} (h : W.fx m = some p) : (m, some p) ∈ W.mks := by
  unfold Wd.fx at h
  cases e : W.mks.find? (fun p => decide (p.1 = m)) with
  | none => rw [e] at h; cases h
  | some x =>
    rw [e] at h
    have h1 := List.find?_some e
    have h2 := List.mem_of_find?_eq_some e
    have h1 : x.1 = m := by simpa using h1
    have h : x.2 = some p := h
    rw [← h1, ← h]; exact h2
theorem fqW_b {W : Wd} (ok : W.Ok) (way : Nat) : FqB (fqW W way) := ⟨fun m => by
  unfold fqW
  cases e : W.fx m with
  | none => exact IB.zero
  | some p =>
    have := ok.at_ m p.1 p.2 (fx_some_mem e)
    refine ⟨_, rfl, ?_⟩
    split <;> omega⟩
/-- the rows of the program's sums -/
noncomputable def rowsW (W : Wd) (way : Nat) : List (List Rat) := sumRows W.free (fqW W way) way W.rds
theorem free_len7 {W : Wd} (ok : W.Ok) : W.free.length ≤ 7 := by
  by_cases h : W.free = []
  · rw [h]; decide
  · obtain ⟨m, hm⟩ := List.exists_mem_of_ne_nil _ h
    have hh := (Wd.hung_mem.mp (Wd.free_mem.mp hm).1).2
    have : ∃ f p, (f, some p) ∈ W.mks := by
      clear hm h
      induction hh with
      | fix h => exact ⟨_, _, h⟩
      | fwd _ _ ih => exact ih
      | bwd _ _ ih => exact ih
    obtain ⟨f, p, hf⟩ := this
    have hlt : W.free.length < (srt W.names).length := by
      rw [Wd.free_eq]
      refine List.length_filter_lt_length_iff_exists.mpr ⟨f, srt_mem.mpr (List.mem_map.mpr ⟨_, hf, rfl⟩), ?_⟩
      rw [Wd.fx_mem ok hf]; simp
    rw [srt_len] at hlt
    unfold Wd.names at hlt
    rw [List.length_map] at hlt
    have := ok.len
    omega
theorem eqR_zero (F : List Str) (fq : Str → Rat) (way : Nat) (y : Nat → Rat) (r : Rdg) : eqR F fq way y 0 r = (r.wt : Rat) * (XX F fq y 0 r.other - XX F fq y 0 r.one) := by
  unfold eqR; grind
theorem XX_off {F : List Str} {fq : Str → Rat} {y : Nat → Rat} {m : Str} (h : m ∉ F) : XX F fq y 0 m = 0 := by
  unfold XX; rw [if_neg h, Rat.zero_mul]
theorem XX_at {F : List Str} (nd : F.Nodup) {fq : Str → Rat} {y : Nat → Rat} {t : Rat} {i : Nat} {m : Str} (h : F[i]? = some m) : XX F fq y t m = y i := by
  unfold XX; rw [if_pos (List.mem_of_getElem? h), ixF_of nd h]
theorem rowsW_nonS {W : Wd} (ok : W.Ok) (way : Nat) : NonS W.free.length (rowsW W way) := by
  intro y hy h j hj
  have nd := Wd.free_nodup ok
  have hs := Wd.still ok (v := XX W.free (fqW W way) y 0) (fun m hm => XX_off hm) (fun m hm => by
    have hi := ixF_get hm
    have := dt_sum nd (fq := fqW W way) (way := way) (t := 0) (y := y) (by rw [hy]; rfl) hi W.rds
    have h2 := h _ (ixF_lt hm)
    have e : (fun r : Rdg => (r.wt : Rat) * (XX W.free (fqW W way) y 0 r.other - XX W.free (fqW W way) y 0 r.one)) = eqR W.free (fqW W way) way y 0 := funext fun r => (eqR_zero _ _ _ _ r).symm
    rw [e, ← this]; exact h2)
  have hg := getD_lt (l := W.free) (default : Str) hj
  have := hs (W.free.getD j default)
  rw [XX_at nd hg] at this
  exact this
/-- the matrix; it is the same both ways -/
noncomputable def mtW (W : Wd) (i j : Nat) : Rat := sgR W.rds (eqR W.free (fqW W 0) 0 (fun k => if k = j then 1 else 0) 0) (W.free.getD i default)
theorem mt_cl {W : Wd} (ok : W.Ok) (way : Nat) {i j : Nat} (hi : i < W.free.length) (hj : j < W.free.length) : cl (rowsW W way) i j = mtW W i j := by
  have nd := Wd.free_nodup ok
  have h := dt_sum nd (fq := fqW W way) (way := way) (t := 0) (y := fun k => if k = j then 1 else 0) (by rw [if_neg (by omega)]; rfl) (getD_lt default hi) W.rds
  have e : dt (W.free.length + 1) ((sumRows W.free (fqW W way) way W.rds).getD i []) (fun k => if k = j then 1 else 0) = cl (rowsW W way) i j := by
    unfold dt
    rw [Sg_one (k := j) (by omega) fun k _ hne => by
      show _ * (if k = j then (1 : Rat) else 0) = 0
      rw [if_neg hne, Rat.mul_zero]]
    show _ * (if j = j then (1 : Rat) else 0) = _
    rw [if_pos rfl, Rat.mul_one]; rfl
  rw [← e, h]
  unfold mtW
  refine sgR_congr fun n r _ _ => ?_
  rw [eqR_zero, eqR_zero]
  have : ∀ m, XX W.free (fqW W way) (fun k => if k = j then 1 else 0) 0 m = XX W.free (fqW W 0) (fun k => if k = j then 1 else 0) 0 m := fun m => by unfold XX; split <;> grind
  rw [this, this]
theorem rowsW_nq {W : Wd} (ok : W.Ok) (way : Nat) (k j : Nat) : Nq 1 14 (cl (rowsW W way) k j) := by
  have := ib_sum ok W.free (fqW_b ok way) way W.rds.length k j
  rw [List.take_length] at this
  exact this.nq (by decide)
theorem mt_nonM {W : Wd} (ok : W.Ok) : NonM W.free.length (mtW W) := by
  intro v hv j hj
  have := rowsW_nonS ok 0 (fun j => if j < W.free.length then v j else 0) (if_neg (by omega)) (fun k hk => by
    unfold dt
    rw [Sg]
    dsimp only
    rw [if_neg (Nat.lt_irrefl _), Rat.mul_zero, Rat.add_zero]
    refine Eq.trans (Sg_congr fun i hi => ?_) (hv k hk)
    rw [if_pos hi, ← mt_cl ok 0 hk hi]; rfl) j hj
  have this : (if j < W.free.length then v j else 0) = 0 := this
  rw [if_pos hj] at this; exact this
/-- a solution -/
def SolW (W : Wd) (way : Nat) (x : Nat → Rat) : Prop := ∀ k, k < W.free.length → dt (W.free.length + 1) ((rowsW W way).getD k []) (fun j => if j < W.free.length then x j else -1) = 0
theorem cs_le : ∀ n, n ≤ 7 → cs n 14 ≤ 1898 := fun n h => by
  have : ∀ n, n < 8 → cs n 14 ≤ 1898 := by decide
  exact this n (by omega)
theorem cm_le : ∀ n, n ≤ 7 → cm n 14 ≤ 1926 := fun n h => by
  have : ∀ n, n < 8 → cm n 14 ≤ 1926 := by decide
  exact this n (by omega)
theorem sol_den {W : Wd} (ok : W.Ok) : ∃ D, 0 < D ∧ D ≤ 2 ^ 1898 ∧ ∀ way x, SolW W way x → ∀ j, j < W.free.length → Nq D 1926 (x j) := by
  have l7 := free_len7 ok
  obtain ⟨D, d0, dl, h⟩ := cden W.free.length (by omega) 14 (mtW W) (fun i j hi hj => by rw [← mt_cl ok 0 hi hj]; exact rowsW_nq ok 0 i j) (mt_nonM ok)
  refine ⟨D, d0, Nat.le_trans dl (Nat.pow_le_pow_right (show 0 < 2 from Nat.two_pos) (cs_le _ l7)), fun way x hx j hj => (h (fun i => cl (rowsW W way) i W.free.length) x (fun i _ => rowsW_nq ok way i _) (fun i hi => ?_) j hj).mono (cm_le _ l7)⟩
  have := hx i hi
  unfold dt at this
  rw [Sg] at this
  dsimp only at this
  rw [if_neg (Nat.lt_irrefl _)] at this
  have e : Sg W.free.length (fun j => mtW W i j * x j) = Sg W.free.length (fun j => ((rowsW W way).getD i []).getD j 0 * (if j < W.free.length then x j else -1)) := Sg_congr fun j hj => by
    rw [if_pos hj, ← mt_cl ok way hi hj]; rfl
  have e2 : cl (rowsW W way) i W.free.length = ((rowsW W way).getD i []).getD W.free.length 0 := rfl
  rw [e, e2]; grind
/-! ### the least placing -/
structure AdjP (W : Wd) (pl : PlL) : Prop where
  keys : pl.map (·.1) = W.hung
  bnd : ∃ D, 0 < D ∧ D ≤ 2 ^ 1898 ∧ ∀ x ∈ pl, Nq D 1926 x.2.1 ∧ Nq D 1926 x.2.2
  fixed : pl.all (atF W) = true
  unc : ∀ m ∈ W.free, uncF pl W.rds m 0 = 0 ∧ uncF pl W.rds m 1 = 0
/-- where a mark is placed one way -/
noncomputable def posW (W : Wd) (way : Nat) (x : Nat → Rat) (m : Str) : Rat := if m ∈ W.free then x (ixF W.free m) else fqW W way m
noncomputable def plW (W : Wd) (x y : Nat → Rat) : PlL := W.hung.map fun m => (m, (posW W 0 x m, posW W 1 y m))
theorem lk_map {l : List Str} {f : Str → Rat × Rat} {m : Str} (h : m ∈ l) : lk (l.map fun m => (m, f m)) m = some (f m) := by
  induction l with
  | nil => simp at h
  | cons a l ih =>
    unfold lk
    rw [List.map_cons, List.find?_cons]
    by_cases e : a = m
    · subst e; simp
    · rw [decide_eq_false e]
      have := ih ((List.mem_cons.mp h).elim (fun z => absurd z.symm e) id)
      unfold lk at this; exact this
theorem unc_posW {W : Wd} (ok : W.Ok) {x y : Nat → Rat} (way : Nat) {m : Str} (hm : m ∈ W.free) (hs : SolW W way (if way = 0 then x else y)) (hw : way < 2) : uncF (plW W x y) W.rds m way = 0 := by
  have nd := Wd.free_nodup ok
  have hi := ixF_get hm
  have h := dt_sum nd (fq := fqW W way) (way := way) (t := 1) (y := fun j => if j < W.free.length then (if way = 0 then x else y) j else -1) (if_neg (by omega)) hi W.rds
  have h2 := hs _ (ixF_lt hm)
  unfold rowsW at h2
  rw [h2] at h
  rw [uncF_sg, h]
  refine sgR_congr fun n r hr ht => ?_
  have he := Wd.hung_ends ok hr
  have hmh := (Wd.free_mem.mp hm).1
  have h1 : r.one ∈ W.hung := by
    rcases ht with e | e
    · rw [e]; exact hmh
    · exact he.mpr (by rw [e]; exact hmh)
  have h3 : r.other ∈ W.hung := he.mp h1
  have er : restO (plW W x y) r = some (restF r (posW W 0 x r.one, posW W 1 y r.one) (posW W 0 x r.other, posW W 1 y r.other)) := by
    unfold restO plW
    rw [lk_map h1, lk_map h3]
  rw [uncPart_sel, er]
  have ex : ∀ m, XX W.free (fqW W way) (fun j => if j < W.free.length then (if way = 0 then x else y) j else -1) 1 m = posW W way (if way = 0 then x else y) m := fun m => by
    unfold XX posW
    split
    · rename_i hf; exact if_pos (ixF_lt hf)
    · rw [Rat.one_mul]
  unfold eqR
  rw [ex, ex]
  rcases (by omega : way = 0 ∨ way = 1) with e | e
  · subst e
    show _ * sel _ 0 = _
    rw [restF_sel]
    show (r.wt : Rat) * (posW W 0 x r.other - posW W 0 x r.one - (r.sz 0 : Rat)) = (r.wt : Rat) * (posW W 0 x r.other - posW W 0 x r.one) - 1 * ((r.wt : Rat) * (r.sz 0 : Rat))
    grind
  · subst e
    show _ * sel _ 1 = _
    rw [restF_sel]
    show (r.wt : Rat) * (posW W 1 y r.other - posW W 1 y r.one - (r.sz 1 : Rat)) = (r.wt : Rat) * (posW W 1 y r.other - posW W 1 y r.one) - 1 * ((r.wt : Rat) * (r.sz 1 : Rat))
    grind
theorem fqW_nq {W : Wd} (ok : W.Ok) {D : Nat} (hD : D ≤ 2 ^ 1898) (way : Nat) (m : Str) : Nq D 1926 (fqW W way m) := by
  obtain ⟨z, e, l⟩ := (fqW_b ok way).b m
  rw [e]
  exact (Nq.int (d := 1898) (b := 5) z hD (Nat.le_trans l (by decide))).mono (by decide)
theorem plW_adj {W : Wd} (ok : W.Ok) {x y : Nat → Rat} (hx : SolW W 0 x) (hy : SolW W 1 y) : AdjP W (plW W x y) := by
  refine ⟨by unfold plW; rw [List.map_map]; exact List.map_id' _, ?_, ?_, fun m hm => ⟨unc_posW ok 0 hm hx (by decide), unc_posW ok 1 hm hy (by decide)⟩⟩
  · obtain ⟨D, d0, dl, h⟩ := sol_den ok
    refine ⟨D, d0, dl, fun z hz => ?_⟩
    obtain ⟨m, hm, rfl⟩ := List.mem_map.mp hz
    show Nq D 1926 (posW W 0 x m) ∧ Nq D 1926 (posW W 1 y m)
    unfold posW
    split
    · rename_i hf; exact ⟨h 0 x hx _ (ixF_lt hf), h 1 y hy _ (ixF_lt hf)⟩
    · exact ⟨fqW_nq ok dl 0 m, fqW_nq ok dl 1 m⟩
  · rw [List.all_eq_true]
    intro z hz
    obtain ⟨m, hm, rfl⟩ := List.mem_map.mp hz
    cases e : W.fx m with
    | none => exact atF_none e
    | some p =>
      rw [atF_some e]
      have hn : m ∉ W.free := fun z => by rw [(Wd.free_mem.mp z).2] at e; cases e
      refine decide_eq_true ?_
      unfold posW
      rw [if_neg hn, if_neg hn]
      unfold fqW
      rw [e]; rfl
end Gm

set_option maxHeartbeats 4000000
namespace Gm
open PySem PySem.Spec PyProof.Rows L2
/-- a list of ratios -/
def RwV (K : PySem.W.Frag) (row : List Rat) : V → Hp → Prop := fun v H => ∃ p vs, v = .ref p ∧ H p = some (.lst vs) ∧ Paired (fun u q => Rt K q u H) vs row
instance {K : PySem.W.Frag} {row : List Rat} : MonL (RwV K row) := ⟨fun w ⟨p, vs, e, h, q⟩ => ⟨p, vs, e, w.lst _ _ h, paired_mono (R := fun q => Rt K q) w.wk.tup q⟩⟩
theorem nqS {D b d : Nat} {q : Rat} (h : Nq D b q) (h0 : 0 < D) (hd : D ≤ 2 ^ d) (h1 : d < 4400) (h2 : b < 4400) : Sm q ∧ q.num.natAbs < 2 ^ 4400 := by
  refine ⟨h.sm (d := d + 1) h0 (Nat.lt_of_le_of_lt hd (Nat.pow_lt_pow_right (by decide) (by omega))) (by omega) (by omega), ?_⟩
  exact Nat.lt_of_le_of_lt (h.den h0).2 (Nat.pow_lt_pow_right (by decide) h2)
/-- a row can be taken off -/
structure OffOk (row other : List Rat) (at_ : Nat) : Prop where
  l1 : row.length = other.length
  l2 : at_ < row.length
  l3 : row.length ≤ 100
  nz : other.getD at_ 0 ≠ 0
  sz : ∃ D t a, 0 < D ∧ 0 < t ∧ D ≤ 2 ^ ss a ∧ t ≤ 2 ^ ss a ∧ a ≤ 7 ∧ (∀ j, j < row.length → Nq D (bb a) (row.getD j 0)) ∧ ∀ j, j < row.length → Nq t (bb a) (other.getD j 0)
structure OffSm (row other : List Rat) (at_ : Nat) : Prop where
  r : ∀ j, j < row.length → Sm (row.getD j 0)
  o : ∀ j, j < row.length → Sm (other.getD j 0)
  n : (other.getD at_ 0).num.natAbs < 2 ^ 4400
  s : Sm (row.getD at_ 0 / other.getD at_ 0)
  u : ∀ j, j < row.length → Sm (row.getD at_ 0 / other.getD at_ 0 * other.getD j 0)
theorem OffOk.sm {row other : List Rat} {at_ : Nat} (h : OffOk row other at_) : OffSm row other at_ := by
  obtain ⟨D, t, a, D0, t0, Dl, tl, ha, hr, ho⟩ := h.sz
  have b1 := bb_le (a := a) (by omega)
  have b2 := bb_le (a := a + 1) (by omega)
  have s1 := ss_le (a := a) (by omega)
  have s2 := ss_le (a := a + 1) (by omega)
  obtain ⟨Pm, ep, lp⟩ := ho at_ h.l2
  have pne : Pm ≠ 0 := fun z => by
    subst z
    have tz : (t : Rat) ≠ 0 := fun z => by
      have : ((t : Nat) : Rat).num = 0 := by rw [z]; rfl
      simp at this; omega
    have hz : other.getD at_ 0 * (t : Rat) = 0 := ep
    rcases Rat.mul_eq_zero.mp hz with e | e
    · exact h.nz e
    · exact tz e
  have dp : 0 < D * Pm.natAbs := Nat.mul_pos D0 (by omega)
  have dl : D * Pm.natAbs ≤ 2 ^ ss (a + 1) := by
    show _ ≤ 2 ^ (ss a + bb a)
    rw [Nat.pow_add]; exact Nat.mul_le_mul Dl lp
  have b3 : bb a + ss a < 4400 := by
    have : ss (a + 1) = ss a + bb a := rfl
    omega
  have b4 : 2 * bb a < 4400 := by
    have : bb (a + 1) = 2 * bb a + 1 := rfl
    omega
  exact ⟨fun j hj => (nqS (hr j hj) D0 Dl (by omega) (by omega)).1, fun j hj => (nqS (ho j hj) t0 tl (by omega) (by omega)).1, (nqS (ho at_ h.l2) t0 tl (by omega) (by omega)).2,
    (nqS (nq_share ep h.nz tl (hr at_ h.l2)) dp dl (by omega) b3).1, fun j hj => (nqS (nq_shareu ep h.nz (hr at_ h.l2) (ho j hj)) dp dl (by omega) b4).1⟩
theorem paired_getD {K : PySem.W.Frag} {H : Hp} {f : Nat → Rat} {n : Nat} {ys : List V} (h : Paired (fun y i => Rt K (f i) y H) ys (List.range n)) {l : List Rat} (hl : l.length = n) (hf : ∀ i, i < n → f i = l.getD i 0) : Paired (fun u q => Rt K q u H) ys l := by
  refine paired_of (by rw [h.length, List.length_range, hl]) fun i a b ha hb => ?_
  have hi : i < n := by rw [← hl]; exact (List.getElem?_eq_some_iff.mp hb).1
  obtain ⟨k, hk, r⟩ := pget h ha
  rw [List.getElem?_range hi] at hk
  cases hk
  rw [hf i hi] at r
  rw [getD_lt 0 (by rw [hl]; exact hi)] at hb
  cases hb
  exact r
section
variable {K : PySem.W.Frag} {σ : L2.St} {H H' : Hp} {te ta tb : TE} {R : V → Hp → Prop}
/-- an item of a list of ratios -/
theorem ev_rw {row : List Rat} {i : Int} {j : Nat} (ha : Eva Same ta σ H (RwV K row)) (hi : Eva Same tb σ H (Is (.int i))) (hj : ixN row.length i = some j) (hl : j < row.length) : Eva Same (tOp (rIxL K) ta tb) σ H (Rt K (row.getD j 0)) := fun H1 e Q q =>
  ha H1 e _ fun x H2 e2 rx => hi H2 (e.trans e2) _ fun y H3 e3 ry => by
    obtain ⟨p, vs, rfl, hp, hv⟩ := rx
    obtain ⟨v, hv1, hv2⟩ := pgetR hv (getD_lt 0 hl)
    refine ⟨p, vs, i, v, rfl, ry, SqL.of (e3 _ _ hp), ?_, q v H3 (e2.trans e3) (MonW.mono e3.wk hv2)⟩
    unfold atI
    rw [hv.length, hj]; exact hv1
end
section
variable {K : PySem.W.Frag} {σ : L2.St} {H H' : Hp} {te ta tb : TE} {R : V → Hp → Prop}
/-- a comprehension's list is new -/
theorem ev_lcN {wi : TI} {n : Nat} {Y : Nat → V → Hp → Prop} {g : TG} {tt : TT} {own : List Nat} (hI : EvI Same wi σ H n Y) (hn : n ≤ 100000) (R : Nat → V → Hp → Prop) [hR : ∀ i, MonW (R i)]
    (step : ∀ i x H', i < n → Same H H' → Y i x H' → ∃ σ2, TgOk g x (wipe σ own) H' σ2 ∧ wipe σ2 own = wipe σ own ∧ EvT Same tt σ2 H' true ∧ Eva Same te σ2 H' (R i)) :
    EvaN (tLc wi g tt te own) σ H (fun v H' => ∃ D ys, v = .ref D ∧ H' D = some (.lst ys) ∧ Paired (fun y i => R i y H') ys (List.range n)) := fun H1 e Q q =>
  hI H1 e _ fun J H2 e2 jk D hD => by
    have e12 := e.trans e2
    refine ⟨fun i m H' => m = n - i ∧ i ≤ n ∧ Same H2 H' ∧ ∃ acc, H' D = some (.lst acc) ∧ Paired (fun y i => R i y H') acc (List.range i), ⟨n, by simp, Nat.zero_le _, Same.new hD, [], upd_same, .nil⟩, ?_⟩
    rintro i m H' ⟨rfl, hi, e3, acc, ha, hp⟩
    by_cases hlt : i < n
    · refine .inr ⟨((jk H' e3).2 i hlt).1, fun H'' => i + 1 ≤ n ∧ Same H2 H'' ∧ ∃ acc, H'' D = some (.lst acc) ∧ Paired (fun y i => R i y H'') acc (List.range (i + 1)), fun H'' w => ⟨n - (i + 1), by omega, rfl, w⟩, fun x H4 y => ?_⟩
      obtain ⟨e4, yx⟩ := ((jk H' e3).2 i hlt).2 x H4 y
      have e24 := e3.trans e4
      obtain ⟨σ2, tg, hw, hb, hv⟩ := step i x H4 hlt (e12.trans e24) yx
      refine tg _ ⟨hw, hb H4 (Same.refl _) _ fun H5 e5 => ?_⟩
      have e25 := e24.trans e5
      have ha5 : H5 D = some (.lst acc) := (e4.trans e5) _ _ ha
      have hp5 := pimp (fun y i (r : R i y H') => MonW.mono (e4.trans e5).wk r) hp
      have hlen : acc.length ≤ i := by rw [hp.length, List.length_range]; exact Nat.le_refl _
      refine iteT (hv H5 e5 _ fun y H6 e6 ry => ⟨acc, e6 _ _ ha5, Nat.lt_of_le_of_lt (Nat.le_trans hlen (Nat.le_trans hi hn)) (by decide), hlt, Same.mut (e25.trans e6) hD, acc ++ [y], upd_same, ?_⟩)
      have w6 : Wk H6 (upd H6 D (.lst (acc ++ [y]))) := Wk.putL (e6 _ _ ha5)
      rw [List.range_succ]
      refine papp (pimp (fun y i (r : R i y H5) => MonW.mono (e6.wk.trans w6) r) hp5) (.cons (MonW.mono w6 ry) .nil)
    · have en : i = n := by omega
      subst en
      exact .inl ⟨(jk H' e3).1, q _ H' (e2.trans e3) (e2.free hD) ⟨D, acc, rfl, ha, hp⟩⟩
/-- a list of rows, each in a place of its own -/
def RowAt (K : PySem.W.Frag) (H : Hp) (p : Addr) (row : List Rat) : Prop := ∃ vs, H p = some (.lst vs) ∧ Paired (fun u q => Rt K q u H) vs row
theorem RowAt.same {H H' : Hp} {p : Addr} {row : List Rat} (h : RowAt K H p row) (e : Same H H') : RowAt K H' p row := by
  obtain ⟨vs, h1, h2⟩ := h
  exact ⟨vs, e _ _ h1, paired_mono (R := fun q => Rt K q) e.tp h2⟩
theorem RowAt.put {H : Hp} {p d : Addr} {row : List Rat} {xs ys : List V} (h : RowAt K H p row) (ne : p ≠ d) (hd : H d = some (.lst xs)) : RowAt K (upd H d (.lst ys)) p row := by
  obtain ⟨vs, h1, h2⟩ := h
  exact ⟨vs, by rw [upd_ne ne]; exact h1, paired_mono (R := fun q => Rt K q) (Tp.putL hd) h2⟩
structure RwsA (K : PySem.W.Frag) (rows : List (List Rat)) (D : Addr) (ps : List Addr) (H : Hp) : Prop where
  d : H D = some (.lst (ps.map V.ref))
  nd : (D :: ps).Nodup
  r : Paired (RowAt K H) ps rows
theorem RwsA.same {rows : List (List Rat)} {D : Addr} {ps : List Addr} {H H' : Hp} (h : RwsA K rows D ps H) (e : Same H H') : RwsA K rows D ps H' := ⟨e _ _ h.d, h.nd, pimp (fun _ _ r => r.same e) h.r⟩
theorem pimpM {α β : Type} {F G : α → β → Prop} : ∀ {l : List α} {m : List β}, (∀ a ∈ l, ∀ b, F a b → G a b) → Paired F l m → Paired G l m
  | _, _, _, .nil => .nil
  | _, _, h, .cons r t => .cons (h _ List.mem_cons_self _ r) (pimpM (fun a ha => h a (List.mem_cons_of_mem _ ha)) t)
/-- a comprehension that makes rows -/
theorem ev_lcR {wi : TI} {n : Nat} {Y : Nat → V → Hp → Prop} {g : TG} {tt : TT} {own : List Nat} (hI : EvI Same wi σ H n Y) (hn : n ≤ 100000) (rows : List (List Rat)) (hl : rows.length = n)
    (step : ∀ i x H', i < n → Same H H' → Y i x H' → ∃ σ2, TgOk g x (wipe σ own) H' σ2 ∧ wipe σ2 own = wipe σ own ∧ EvT Same tt σ2 H' true ∧ EvaN te σ2 H' (RwV K (rows.getD i []))) :
    EvaN (tLc wi g tt te own) σ H (fun v H' => ∃ D ps, v = .ref D ∧ RwsA K rows D ps H' ∧ ∀ p ∈ D :: ps, H p = none) := fun H1 e Q q =>
  hI H1 e _ fun J H2 e2 jk D hD => by
    have e12 := e.trans e2
    refine ⟨fun i m H' => m = n - i ∧ i ≤ n ∧ Same H2 H' ∧ ∃ ps, RwsA K (rows.take i) D ps H' ∧ ∀ p ∈ D :: ps, H2 p = none, ⟨n, by simp, Nat.zero_le _, Same.new hD, [], ⟨upd_same, by simp, .nil⟩, fun p hp => by rw [List.mem_singleton.mp hp]; exact hD⟩, ?_⟩
    rintro i m H' ⟨rfl, hi, e3, ps, ra, hf⟩
    by_cases hlt : i < n
    · refine .inr ⟨((jk H' e3).2 i hlt).1, fun H'' => i + 1 ≤ n ∧ Same H2 H'' ∧ ∃ ps, RwsA K (rows.take (i + 1)) D ps H'' ∧ ∀ p ∈ D :: ps, H2 p = none, fun H'' w => ⟨n - (i + 1), by omega, rfl, w⟩, fun x H4 y => ?_⟩
      obtain ⟨e4, yx⟩ := ((jk H' e3).2 i hlt).2 x H4 y
      have e24 := e3.trans e4
      obtain ⟨σ2, tg, hw, hb, hv⟩ := step i x H4 hlt (e12.trans e24) yx
      refine tg _ ⟨hw, hb H4 (Same.refl _) _ fun H5 e5 => ?_⟩
      have e25 := e24.trans e5
      have ra5 := (ra.same e4).same e5
      have hlen : ps.length ≤ i := by rw [ra.r.length, List.length_take]; omega
      refine iteT (hv H5 e5 _ fun d H6 e6 nd6 ry => ?_)
      obtain ⟨_, vs, ed, hd, hvs⟩ := ry
      cases ed
      have ra6 := ra5.same e6
      have dn : d ∉ D :: ps := fun hm => by
        have key : ∃ o, H5 d = some o := by
          rcases List.mem_cons.mp hm with rfl | hm
          · exact ⟨_, ra5.d⟩
          · obtain ⟨row, _, vs', h', _⟩ := paired_mem ra5.r hm
            exact ⟨_, h'⟩
        obtain ⟨o, ho⟩ := key
        rw [ho] at nd6; cases nd6
      have dD : d ≠ D := fun z => dn (by rw [z]; exact List.mem_cons_self)
      refine ⟨_, ra6.d, by rw [List.length_map]; exact Nat.lt_of_le_of_lt (Nat.le_trans hlen (Nat.le_trans hi hn)) (by decide), hlt, Same.mut (e25.trans e6) hD, ps ++ [d], ⟨?_, ?_, ?_⟩, ?_⟩
      · rw [List.map_append]; exact upd_same
      · have h1 := ra.nd
        rw [List.nodup_cons] at h1 ⊢
        refine ⟨fun hm => ?_, ?_⟩
        · rcases List.mem_append.mp hm with hm | hm
          · exact h1.1 hm
          · exact dD (List.mem_singleton.mp hm).symm
        · rw [List.nodup_append]
          exact ⟨h1.2, by simp, fun a ha b hb => by rw [List.mem_singleton.mp hb]; intro z; exact dn (by rw [← z]; exact List.mem_cons_of_mem _ ha)⟩
      · rw [List.take_succ, getD_lt [] (by omega)]
        refine papp (pimpM (fun p hp row r => r.put (fun z => ?_) ra6.d) ra6.r) (.cons (RowAt.put ⟨vs, hd, hvs⟩ dD ra6.d) .nil)
        have := ra.nd
        rw [List.nodup_cons] at this
        exact this.1 (by rw [← z]; exact hp)
      · intro p hp
        rcases List.mem_cons.mp hp with rfl | hp
        · exact hD
        · rcases List.mem_append.mp hp with hp | hp
          · exact hf p (List.mem_cons_of_mem _ hp)
          · rw [List.mem_singleton.mp hp]; exact e25.free nd6
    · have en : i = n := by omega
      subst en
      rw [List.take_of_length_le (by omega)] at ra
      exact .inl ⟨(jk H' e3).1, q _ H' (e2.trans e3) (e2.free hD) ⟨D, ps, rfl, ra, fun p hp => e12.free (hf p hp)⟩⟩
end
section
variable {P : Program} {w : World} {K : PySem.W.Frag} {mg : Str → Option Value} {base : Heap} {aN : Addr} {uM uW uL : Value} {C fI fM fR fN fH : Addr} {fdM fdR fdN fdH : FuncData}
def spOff (K : PySem.W.Frag) : Sp := SpN (α := (List Rat × List Rat) × Nat) (fun x vs H => (∃ u v, vs = [u, v, .int (x.2 : Int)] ∧ RwV K x.1.1 u H ∧ RwV K x.1.2 v H) ∧ OffOk x.1.1 x.1.2 x.2) (fun x => RwV K (takenOff x.1.1 x.1.2 x.2))
theorem ok_taken_off (D : DefAt K mg "taken_off" s_taken_off) (U : Uni K mg aN uM uW uL) (c_divided : Cal P w K mg base 3 "divided" ["one", "other"] (spDivided K)) (c_minus : Cal P w K mg base 3 "minus" ["one", "other"] (spMinus K)) (c_times : Cal P w K mg base 3 "times" ["one", "other"] (spTimes K)) :
    Cal P w K mg base 4 "taken_off" ["row", "other", "at"] (spOff K) := by
  refine D.cal 3 sc_taken_off (fun _ _ _ _ _ _ us hl => match us, hl with | [_, _, _], _ => rfl) (fun vs H Q E h => ?_) (fun f cdv A outer s H vs Q E hr h => ?_)
  · obtain ⟨x, ⟨⟨_, _, rfl, _⟩, _⟩, _⟩ := h; rfl
  obtain ⟨⟨⟨row, other⟩, at_⟩, ⟨⟨u, v, rfl, hu, hv⟩, oo⟩, k⟩ := h
  have hu : RwV K row u H := hu
  have hv : RwV K other v H := hv
  have oo : OffOk row other at_ := oo
  have sm := oo.sm
  have l2 := oo.l2
  have l1 := oo.l1
  refine ⟨_, (pss_cons (ps_set (i := 3) sc_taken_off.nd rfl (Or.inr rfl) (c_divided.call (hr.mono (by decide)) (by rfl) (pa_cons (pe_ix ix_list (pv 0) (pv 2) (fun _ _ => rfl)) (pa_cons (pe_ix ix_list (pv 1) (pv 2) (fun _ _ => rfl)) pa_nil))))
      (pss_one (ps_ret (pe_lc (own := [("one", 4), ("two", 5)]) (g := (gTup K 2 (gCons (gName 4) (gCons (gName 5) gNil)))) rfl sc_taken_off.nd (pi_zip (by rfl) U.zip (pa_cons (pv 0) (pa_cons (pv 1) pa_nil))) (blkOk_by (N := n_taken_off) (sc := defScope s_taken_off) (own := [("one", 4), ("two", 5)]) (by decide +kernel)) (fun _ _ _ _ _ => (pg_tup rfl (pgs_cons (pg_name (i := 4) sc_taken_off.nd rfl (Or.inl rfl)) (pgs_cons (pg_name (i := 5) sc_taken_off.nd rfl (Or.inl rfl)) pgs_nil)))) (fun _ _ _ _ _ => pts_nil) (fun _ _ _ _ _ => (c_minus.call (hr.mono (by decide)) (by rfl) (pa_cons (pv 4) (pa_cons (c_times.call (hr.mono (by decide)) (by rfl) (pa_cons (pv 3) (pa_cons (pv 5) pa_nil))) pa_nil)))))))), ?_⟩
  refine st_set (E := Same) (R := Rt K (row.getD at_ 0 / other.getD at_ 0)) (ev_div (ev_rw (ev_varR rfl hu) (ev_var rfl) (ixN_nat l2) l2) (ev_rw (ev_varR rfl hv) (ev_var rfl) (ixN_nat (by omega)) (by omega)) (sm.r _ l2) (sm.o _ l2) oo.nz sm.n) (Same.refl _) fun sv H1 e1 hsv => ?_
  refine st_retN (ev_lcN (n := row.length) (R := fun i => Rt K ((takenOff row other at_).getD i 0)) (Y := fun i x H' => ∃ a b, TupV K [a, b] x H' ∧ Rt K (row.getD i 0) a H' ∧ Rt K (other.getD i 0) b H') ?_ (by have := oo.l3; omega) ?_) ?_
  · obtain ⟨p, vs, rfl, hp, hpv⟩ := MonL.mono e1.wkL hu
    obtain ⟨p', vs', rfl, hp', hpv'⟩ := MonL.mono e1.wkL hv
    have hlv : vs.length = row.length := hpv.length
    rw [← hlv]
    intro H2 e2 R r
    refine ei_zip (E := Same) (xs := vs) (ys := vs') (fun H3 e3 Q q => ⟨_, rfl, _, rfl, q _ H3 (Same.refl _) ⟨p, p', rfl, SqL.of ((e2.trans e3) _ _ hp), SqL.of ((e2.trans e3) _ _ hp'), fun z => z, fun z => z⟩⟩) (by rw [hpv.length, hpv'.length]; exact l1) H2 (Same.refl _) R fun J H4 e4 jk => r J H4 e4 fun H5 e5 => ⟨(jk H5 e5).1, fun i hi => ⟨((jk H5 e5).2 i hi).1, fun x H6 y => ?_⟩⟩
    obtain ⟨e6, a, b, ha, hb, hT⟩ := ((jk H5 e5).2 i hi).2 x H6 y
    refine ⟨e6, a, b, hT, ?_, ?_⟩
    · obtain ⟨q, hq, hr'⟩ := pget hpv ha
      rw [getD_lt 0 (by omega)] at hq
      cases hq
      exact MonW.mono (((e2.trans e4).trans e5).trans e6).wk hr'
    · obtain ⟨q, hq, hr'⟩ := pget hpv' hb
      rw [getD_lt 0 (by omega)] at hq
      cases hq
      exact MonW.mono (((e2.trans e4).trans e5).trans e6).wk hr'
  · rintro i x H' hi e ⟨a, b, hT, ha, hb⟩
    refine ⟨_, tg_tup hT rfl (fun Q q => ⟨_, _, rfl, _, _, rfl, rfl, q⟩), rfl, fun H5 e5 Q q => q H5 (Same.refl _), ?_⟩
    rw [off_get l1 hi]
    exact ev_R2 (ev_varR rfl ha) (ev_R2 (ev_varR rfl (MonW.mono e.wk hsv)) (ev_varR rfl hb) sm.s (sm.o i hi)) (sm.r i hi) (sm.u i hi)
  · rintro d H2 e2 nd ⟨D, ys, ed, hD, hys⟩
    cases ed
    exact k _ _ (e1.trans e2) (e1.free nd) ⟨d, ys, rfl, hD, paired_getD hys (off_len l1) fun i _ => rfl⟩
end
end Gm

set_option maxHeartbeats 4000000
namespace Gm
open PySem PySem.Spec PyProof.Rows L2
section
variable {K : PySem.W.Frag} {σ : L2.St} {H H' : Hp} {te ta tb ti : TE} {R : V → Hp → Prop}
theorem st_forR1 {g : TG} {tb : TS} {D : Ends} {n : Nat} (h : Eva Same te σ H (Is (.int (n : Int)))) (hn : n < 1000000)
    (k : ∀ H1, Same H H1 → ∃ Pv : Nat → L2.St → Hp → Prop, Pv 0 σ H1 ∧ (∀ i σ H, i < n → Pv i σ H → g (.int (i : Int)) σ H fun σ2 H2 => tb { D with nx := Pv (i + 1), ct := Pv (i + 1), bk := D.nx } σ2 H2) ∧ (∀ σ H, Pv n σ H → D.nx σ H)) :
    tFor (iRng1 (tCons te tNil)) g tb D σ H := h H (Same.refl _) _ fun v H1 e1 rv => by
  obtain ⟨Pv, h0, hs, hd⟩ := k H1 e1
  refine ⟨n, by rw [show v = _ from rv], by omega, by omega, ?_⟩
  have := for_range (lo := 0) (n := n) Pv h0 (fun i σ H hi p => by rw [Int.zero_add]; exact hs i σ H hi p) hd
  exact this
/-- xs[i] = a new thing -/
theorem st_setixN {p : Addr} {xs : List V} {i : Nat} {z : Int} {j : Nat} {D : Ends} (hi : σ[i]? = some (some (.ref p))) (hp : H p = some (.lst xs)) (hz : Eva Same ti σ H (Is (.int z))) (hj : ixN xs.length z = some j) (hv : EvaN te σ H R)
    (k : ∀ d H1 H2, Same H H1 → Same H1 H2 → H d = none → R (.ref d) H1 → D.nx σ (upd H2 p (.lst (xs.set j (.ref d))))) : tAsg te (gSub (tVar i) ti rSetL) D σ H :=
  hv H (Same.refl _) _ fun d H1 e1 n r => ⟨_, hi, hz H1 e1 _ fun z' H2 e2 rz => ⟨p, xs, z, j, rfl, rz, (e1.trans e2) _ _ hp, hj, k d H1 H2 e1 e2 n r⟩⟩
/-- the rows, in a list of one's own -/
def RwX (K : PySem.W.Frag) (row : List Rat) (p : Addr) : V → Hp → Prop := fun v H => RwV K row v H ∧ v ≠ .ref p
instance {row : List Rat} {p : Addr} : MonL (RwX K row p) := ⟨fun w h => ⟨MonL.mono w h.1, h.2⟩⟩
def OutH (K : PySem.W.Frag) (rows : List (List Rat)) (p : Addr) (us : List V) (H : Hp) : Prop := H p = some (.lst us) ∧ Paired (fun u row => RwX K row p u H) us rows
theorem OutH.same {rows : List (List Rat)} {p : Addr} {us : List V} {H H' : Hp} (h : OutH K rows p us H) (e : Same H H') : OutH K rows p us H' := ⟨e _ _ h.1, pimp (fun _ _ r => MonL.mono e.wkL r) h.2⟩
theorem RwX.put {row : List Rat} {p : Addr} {u : V} {H : Hp} {us ys : List V} (h : RwX K row p u H) (hp : H p = some (.lst us)) : RwX K row p u (upd H p (.lst ys)) := by
  obtain ⟨⟨a, vs, rfl, h1, h2⟩, ne⟩ := h
  exact ⟨⟨a, vs, rfl, by rw [upd_ne (fun z => ne (by rw [z]))]; exact h1, paired_mono (R := fun q => Rt K q) (Tp.putL hp) h2⟩, ne⟩
theorem OutH.set {rows : List (List Rat)} {row : List Rat} {p : Addr} {us : List V} {H : Hp} {u : V} (h : OutH K rows p us H) (hu : RwX K row p u H) (i : Nat) : OutH K (rows.set i row) p (us.set i u) (upd H p (.lst (us.set i u))) :=
  ⟨upd_same, pset (F := fun x row => RwX K row p x (upd H p (.lst (us.set i u)))) (hu.put h.1) i (pimp (fun _ _ (r : RwX K _ p _ H) => RwX.put r h.1) h.2)⟩
theorem OutH.at {rows : List (List Rat)} {p : Addr} {us : List V} {H : Hp} (h : OutH K rows p us H) {i : Nat} (hi : i < rows.length) : ∃ u, us[i]? = some u ∧ RwX K (rows.getD i []) p u H := pgetR h.2 (getD_lt [] hi)
theorem ev_row {rows : List (List Rat)} {p : Addr} {us : List V} {i : Nat} (ha : Eva Same ta σ H (Is (.ref p))) (h : OutH K rows p us H) (hb : Eva Same tb σ H (Is (.int (i : Int)))) (hi : i < rows.length) : Eva Same (tOp (rIxL K) ta tb) σ H (RwX K (rows.getD i []) p) := by
  obtain ⟨u, hu, hr⟩ := h.at hi
  refine Eva.imp (ev_ixL (v := u) ha (SqL.of h.1) (fun z => z) hb (by unfold atI; rw [ixN_nat (by rw [h.2.length]; exact hi)]; exact hu)) fun v H1 e r => ?_
  rw [show v = u from r]; exact MonL.mono e.wkL hr
theorem RwX.v {row : List Rat} {p : Addr} : ∀ v H1, Same H H1 → RwX K row p v H1 → RwV K row v H1 := fun _ _ _ h => h.1
/-- a number of the rows -/
theorem ev_cell {rows : List (List Rat)} {p : Addr} {us : List V} {i j : Nat} {tc : TE} (ha : Eva Same ta σ H (Is (.ref p))) (h : OutH K rows p us H) (hb : Eva Same tb σ H (Is (.int (i : Int)))) (hi : i < rows.length) (hc : Eva Same tc σ H (Is (.int (j : Int)))) (hj : j < (rows.getD i []).length) :
    Eva Same (tOp (rIxL K) (tOp (rIxL K) ta tb) tc) σ H (Rt K (cl rows i j)) := ev_rw (Eva.imp (ev_row ha h hb hi) RwX.v) hc (ixN_nat hj) hj
theorem ev_lenL {p : Addr} {us : List V} (h : Eva Same te σ H (Is (.ref p))) (hp : H p = some (.lst us)) :
    Eva Same (tCB (fun xs H Q => ∃ p ys, xs = [.ref p] ∧ (SqL K H p ys ∨ SqT K H p ys) ∧ Q (.int ys.length) H) (tCons te tNil)) σ H (Is (.int (us.length : Int))) := fun H1 e Q q =>
  h H1 e _ fun v H2 e2 r => ⟨p, us, by rw [show v = _ from r], .inl (SqL.of ((e.trans e2) _ _ hp)), q _ H2 e2 rfl⟩
/-- list(row) -/
theorem en_listof {row : List Rat} (h : Eva Same te σ H (RwV K row)) :
    EvaN (tCB (fun xs H Q => ∃ p ys, xs = [.ref p] ∧ (SqL K H p ys ∨ SqT K H p ys) ∧ ∀ l, H l = none → Q (.ref l) (upd H l (.lst ys))) (tCons te tNil)) σ H (RwV K row) := fun H1 e Q q =>
  h H1 e _ fun v H2 e2 ⟨p, vs, ev, hp, hv⟩ => ⟨p, vs, by rw [ev], .inl (SqL.of hp), fun l hl => q l _ (e2.trans (Same.new hl)) (e2.free hl) ⟨l, vs, rfl, upd_same, paired_mono (R := fun q => Rt K q) (Same.new hl).tp hv⟩⟩
/-- rows[a], rows[f] = rows[f], rows[a] -/
theorem st_swap {p : Addr} {us : List V} {ua uf : V} {a f : Nat} {D : Ends} (h0 : σ[0]? = some (some (.ref p))) (h1 : σ[1]? = some (some (.int (a : Int)))) (h2 : σ[2]? = some (some (.int (f : Int)))) (hp : H p = some (.lst us)) (ha : us[a]? = some ua) (hf : us[f]? = some uf)
    (k : ∀ H1, Same H H1 → D.nx σ (upd H1 p (.lst ((us.set a uf).set f ua)))) :
    tAsg (tTup (tCons (tOp (rIxL K) (tVar 0) (tVar 2)) (tCons (tOp (rIxL K) (tVar 0) (tVar 1)) tNil))) (gTup K 2 (gCons (gSub (tVar 0) (tVar 1) rSetL) (gCons (gSub (tVar 0) (tVar 2) rSetL) gNil))) D σ H := by
  have la : a < us.length := (List.getElem?_eq_some_iff.mp ha).1
  have lf : f < us.length := (List.getElem?_eq_some_iff.mp hf).1
  refine ⟨_, h0, _, h2, p, us, _, uf, rfl, rfl, SqL.of hp, (by unfold atI; rw [ixN_nat lf]; exact hf), _, h0, _, h1, p, us, _, ua, rfl, rfl, SqL.of hp, (by unfold atI; rw [ixN_nat la]; exact ha), (by show 2 ≤ sizeLine; decide), fun t ht => ?_⟩
  have e1 : Same H (upd H t (.tup [uf, ua])) := Same.new ht
  have t1 : (upd H t (.tup [uf, ua])) t = some (.tup [uf, ua]) := upd_same
  generalize upd H t (.tup [uf, ua]) = H1 at e1 t1
  refine ⟨t, _, rfl, SqT.of t1, rfl, uf, _, rfl, _, h0, _, h1, p, us, _, a, rfl, rfl, e1 _ _ hp, ixN_nat la, ua, _, rfl, _, h0, _, h2, p, us.set a uf, _, f, rfl, rfl, upd_same, ixN_nat (by rw [List.length_set]; exact lf), rfl, ?_⟩
  have : upd (upd H1 p (.lst (us.set a uf))) p (.lst ((us.set a uf).set f ua)) = upd H1 p (.lst ((us.set a uf).set f ua)) := by
    funext x
    by_cases e : x = p
    · rw [e, upd_same, upd_same]
    · rw [upd_ne e, upd_ne e, upd_ne e]
  rw [this]
  exact k H1 e1
end
/-- rows that can be solved -/
structure Good (rows : List (List Rat)) : Prop where
  n7 : rows.length ≤ 7
  shp : Shp rows.length rows
  ns : NonS rows.length rows
  nq : ∀ k j, k < rows.length → j ≤ rows.length → Nq 1 14 (cl rows k j)
theorem Good.inv {rows : List (List Rat)} (g : Good rows) : EInv rows.length rows rows 0 :=
  ⟨rfl, g.shp.rl, fun c hc => absurd hc (by omega), fun c hc => absurd hc (by omega), fun _ => Iff.rfl, fun k hk => ⟨1, by decide, by decide, fun j hj => g.nq k j hk hj⟩⟩
def Solves (rows : List (List Rat)) (xs : List Rat) : Prop := xs.length = rows.length ∧ ∀ k, k < rows.length → dt (rows.length + 1) (rows.getD k []) (fun j => if j < rows.length then xs.getD j 0 else -1) = 0
theorem EInv.off {n a k : Nat} {rows0 rows : List (List Rat)} (I : EInv n rows0 rows a) (hn : n ≤ 7) (ha : a < n) (hk : k < n) (hp : cl rows a a ≠ 0) : OffOk (rows.getD k []) (rows.getD a []) a := by
  obtain ⟨D, D0, Dl, hD⟩ := I.nq k hk
  obtain ⟨t, t0, tl, ht⟩ := I.nq a ha
  refine ⟨by rw [I.rl k hk, I.rl a ha], by rw [I.rl k hk]; omega, by rw [I.rl k hk]; omega, hp, D, t, a, D0, t0, Dl, tl, by omega, fun j hj => hD j ?_, fun j hj => ht j ?_⟩
  · rw [I.rl k hk] at hj; omega
  · rw [I.rl k hk] at hj; omega
/-- the rows' own list in the heap: a list of lists -/
def RwsV (K : PySem.W.Frag) (rows : List (List Rat)) : V → Hp → Prop := fun v H => ∃ p us, v = .ref p ∧ H p = some (.lst us) ∧ Paired (fun u row => RwV K row u H) us rows
instance {K : PySem.W.Frag} {rows : List (List Rat)} : MonL (RwsV K rows) := ⟨fun w ⟨p, us, e, h, q⟩ => ⟨p, us, e, w.lst _ _ h, pimp (fun _ _ r => MonL.mono w r) q⟩⟩
theorem RwsA.out {K : PySem.W.Frag} {rows : List (List Rat)} {D : Addr} {ps : List Addr} {H : Hp} (h : RwsA K rows D ps H) : OutH K rows D (ps.map V.ref) H := by
  refine ⟨h.d, ?_⟩
  have key : ∀ {ps : List Addr} {rows : List (List Rat)}, D ∉ ps → Paired (RowAt K H) ps rows → Paired (fun u row => RwX K row D u H) (ps.map V.ref) rows := by
    intro ps
    induction ps with
    | nil => intro rows _ h; cases h; exact .nil
    | cons p ps ih =>
      intro rows hn h
      cases h with
      | cons r t =>
        obtain ⟨vs, h1, h2⟩ := r
        exact .cons ⟨⟨p, vs, rfl, h1, h2⟩, fun z => hn (by rw [← V.ref.inj z]; exact List.mem_cons_self)⟩ (ih (fun z => hn (List.mem_cons_of_mem _ z)) t)
  have nd := h.nd
  rw [List.nodup_cons] at nd
  exact key nd.1 h.r
section
variable {P : Program} {w : World} {K : PySem.W.Frag} {mg : Str → Option Value} {base : Heap} {aN : Addr} {uM uW uL : Value} {C fI fM fR fN fH : Addr} {fdM fdR fdN fdH : FuncData}
def spSolved (K : PySem.W.Frag) : Sp := SpG (α := List (List Rat)) (fun rows vs H => (∃ v, vs = [v] ∧ RwsV K rows v H) ∧ Good rows) (fun rows v H => ∃ xs, RwV K xs v H ∧ Solves rows xs)
theorem head_mem {α : Type} {l : List α} {x : α} (h : x ∈ l) : ∃ y, l[0]? = some y ∧ y ∈ l := by
  cases l with
  | nil => simp at h
  | cons a l => exact ⟨a, rfl, List.mem_cons_self⟩
theorem ok_solved (D : DefAt K mg "solved" s_solved) (U : Uni K mg aN uM uW uL) (c_divided : Cal P w K mg base 3 "divided" ["one", "other"] (spDivided K)) (c_taken_off : Cal P w K mg base 4 "taken_off" ["row", "other", "at"] (spOff K)) :
    Cal P w K mg base 5 "solved" ["rows"] (spSolved K) := by
  refine D.cal 4 sc_solved (fun _ _ _ _ _ _ us hl => match us, hl with | [_], _ => rfl) (fun vs H Q E h => ?_) (fun f cdv A outer s H vs Q E hr h => ?_)
  · obtain ⟨x, ⟨⟨_, rfl, _⟩, _⟩, _⟩ := h; rfl
  obtain ⟨rows0, ⟨⟨_, rfl, p0, us0, rfl, hp0, hus0⟩, gd⟩, k⟩ := h
  have hus0 : Paired (fun u row => RwV K row u H) us0 rows0 := hus0
  have gd : Good rows0 := gd
  have n7 := gd.n7
  refine ⟨_, (pss_cons (ps_set (i := 0) sc_solved.nd rfl (Or.inr rfl) (pe_lc (own := [("row", 4)]) (g := (gName 4)) rfl sc_solved.nd (pi_list (pv 0)) (blkOk_by (N := n_solved) (sc := defScope s_solved) (own := [("row", 4)]) (by decide +kernel)) (fun _ _ _ _ _ => (pg_name (i := 4) sc_solved.nd rfl (Or.inl rfl))) (fun _ _ _ _ _ => pts_nil) (fun _ _ _ _ _ => (pe_callTy (call_list_ofK (K := K) rfl) (by rfl) U.list (by decide +kernel) (pa_cons (pv 4) pa_nil)))))
      (pss_cons (ps_for PassesOwn.never rfl (pi_range1 (by rfl) U.range (pa_cons (pe_callB call_len_seq (by rfl) U.len PySem.boot_len (pa_cons (pv 0) pa_nil)) pa_nil)) (pg_name (i := 1) sc_solved.nd rfl (Or.inr rfl)) (pss_cons (ps_set (i := 2) sc_solved.nd rfl (Or.inl rfl) (pe_ix ix_list (pe_lc (own := [("k", 3)]) (g := (gName 3)) rfl sc_solved.nd (pi_range2 (by rfl) U.range (pa_cons (pv 1) (pa_cons (pe_callB call_len_seq (by rfl) U.len PySem.boot_len (pa_cons (pv 0) pa_nil)) pa_nil))) (blkOk_by (N := n_solved) (sc := defScope s_solved) (own := [("k", 3)]) (by decide +kernel)) (fun _ _ _ _ _ => (pg_name (i := 3) sc_solved.nd rfl (Or.inl rfl))) (fun _ _ _ _ _ => pts_one (pt_cmpR (op_neDK (K := K) hr.units rfl) (pe_ix (ix_listK (K := K) rfl) (pe_ix (ix_listK (K := K) rfl) (pv 0) (pv 3) (fun _ _ => rfl)) (pv 1) (fun _ _ => rfl)) (pe_glob (by rfl) U.gNOUGHT U.rNOUGHT) (nomark _))) (fun _ _ _ _ _ => (pv 3))) pe_int (fun _ _ => rfl)))
      (pss_cons (ps_asg (pe_tup (pa_cons (pe_ix ix_list (pv 0) (pv 2) (fun _ _ => rfl)) (pa_cons (pe_ix ix_list (pv 0) (pv 1) (fun _ _ => rfl)) pa_nil))) (pg_tup rfl (pgs_cons (pg_sub (pv 0) (pv 1) set_list) (pgs_cons (pg_sub (pv 0) (pv 2) set_list) pgs_nil))))
      (pss_one (ps_for PassesOwn.never rfl (pi_range1 (by rfl) U.range (pa_cons (pe_callB call_len_seq (by rfl) U.len PySem.boot_len (pa_cons (pv 0) pa_nil)) pa_nil)) (pg_name (i := 3) sc_solved.nd rfl (Or.inl rfl)) (pss_one (ps_if (PW.pt (pw_and (pt_cmpR op_ne (pv 3) (pv 1) (nomark _)) (pw_and1 (pt_cmpR (op_neD hr.units) (pe_ix ix_list (pe_ix ix_list (pv 0) (pv 3) (fun _ _ => rfl)) (pv 1) (fun _ _ => rfl)) (pe_glob (by rfl) U.gNOUGHT U.rNOUGHT) (nomark _))))) (pss_one (ps_asg (c_taken_off.call (hr.mono (by decide)) (by rfl) (pa_cons (pe_ix ix_list (pv 0) (pv 3) (fun _ _ => rfl)) (pa_cons (pe_ix ix_list (pv 0) (pv 1) (fun _ _ => rfl)) (pa_cons (pv 1) pa_nil)))) (pg_sub (pv 0) (pv 3) set_list))) pss_nil)))))))
      (pss_one (ps_ret (pe_lc (own := [("k", 3), ("row", 4)]) (g := (gTup K 2 (gCons (gName 3) (gCons (gName 4) gNil)))) rfl sc_solved.nd (pi_enum (by rfl) U.enumerate (pa_cons (pv 0) pa_nil)) (blkOk_by (N := n_solved) (sc := defScope s_solved) (own := [("k", 3), ("row", 4)]) (by decide +kernel)) (fun _ _ _ _ _ => (pg_tup rfl (pgs_cons (pg_name (i := 3) sc_solved.nd rfl (Or.inl rfl)) (pgs_cons (pg_name (i := 4) sc_solved.nd rfl (Or.inl rfl)) pgs_nil)))) (fun _ _ _ _ _ => pts_nil) (fun _ _ _ _ _ => (c_divided.call (hr.mono (by decide)) (by rfl) (pa_cons (pe_ix (ix_listK (K := K) rfl) (pv 4) (pe_un un_neg pe_int) (fun _ _ => rfl)) (pa_cons (pe_ix (ix_listK (K := K) rfl) (pv 4) (pv 3) (fun _ _ => rfl)) pa_nil))))))))), ?_⟩
  refine st_setN (ev_lcR (K := K) (n := us0.length) (Y := fun i x _ => us0[i]? = some x) (rows := rows0) ?_ (by rw [hus0.length]; omega) hus0.length.symm ?_) ?_
  · intro H2 e2 R r
    exact ei_list (E := Same) (K := K) (xs := us0) (fun H3 e3 Q q => ⟨_, rfl, q _ H3 (Same.refl _) ⟨p0, rfl, SqL.of ((e2.trans e3) _ _ hp0), fun z => z⟩⟩) H2 (Same.refl _) R r
  · rintro i x H' hi e hx
    obtain ⟨row, hrow, hr'⟩ := pget hus0 hx
    rw [getD_lt [] (by rw [← hus0.length]; exact hi)] at hrow
    cases hrow
    exact ⟨_, tg_name, rfl, fun H5 e5 Q q => q H5 (Same.refl _), en_listof (ev_varR rfl (MonL.mono e.wkL hr'))⟩
  rintro p H1 e1 np ⟨_, ps, ed, ra, _⟩
  cases ed
  have ou := ra.out
  generalize ps.map V.ref = us at ou
  -- the outer loop
  have hlen : us.length = rows0.length := ou.2.length
  refine st_seq (st_forR1 (n := us.length) (ev_lenL (ev_var rfl) ou.1) (by omega) fun H2 e2 => ?_)
  refine ⟨fun a σ H3 => ∃ o1 o2 o3 o4 rows us', σ = [some (.ref p), o1, o2, o3, o4] ∧ Same H H3 ∧ OutH K rows p us' H3 ∧ EInv rows0.length rows0 rows a, ⟨none, none, none, none, rows0, us, rfl, e1.trans e2, ou.same e2, gd.inv⟩, ?_, ?_⟩
  · rintro a σ H3 ha ⟨o1, o2, o3, o4, rows, us', rfl, e3, ou3, I⟩
    have ha : a < rows0.length := by omega
    have lr := I.len
    have lu : us'.length = rows0.length := by rw [ou3.2.length, lr]
    obtain ⟨kp, kp1, kp2, kp3⟩ := I.pivot ha gd.ns
    show tSeq _ _ _ [some (.ref p), some (.int (a : Int)), o2, o3, o4] H3
    -- first
    refine st_set (E := Same) (R := fun v _ => ∃ f : Nat, v = .int (f : Int) ∧ a ≤ f ∧ f < rows0.length ∧ cl rows f a ≠ 0) ?_ (Same.refl _) ?_
    · intro H4 e4 Q q
      have ou4 := ou3.same e4
      refine (ev_lc (E := Same) (n := rows0.length - a) (b := fun i => !decide (cl rows (a + i) a = 0)) (R := fun i => Is (.int ((a + i : Nat) : Int)))
        (ei_range2 (a := a) (n := rows0.length - a) (ev_var rfl) (Eva.is (ev_lenL (ev_var rfl) ou4.1) (by rw [lu]; congr 2; omega)) (by omega)) (by omega) ?_) H4 (Same.refl _) _ fun v H5 e5 r => ?_
      · rintro i x H' hi e rfl
        have hai : a + i < rows.length := by omega
        refine ⟨_, tg_name, rfl, EvT.is (et_test (ev_neD (R := Rt K (cl rows (a + i) a)) (S := Rt K 0) (ev_cell (i := a + i) (j := a) (ev_var rfl) (ou4.same e) (ev_var rfl) hai (ev_var rfl) (by rw [I.rl _ (by omega)]; omega)) (ev_cR (rt0R U _)) (fun _ _ => dp_R) (fun _ _ => dp_R) (sh_R _) (sh_R _))) (by rw [eqv_R]), fun _ => ev_var rfl⟩
      · obtain ⟨L, ys, rfl, hL, hys, _⟩ := r
        have hmem : kp - a ∈ (List.range (rows0.length - a)).filter (fun i => !decide (cl rows (a + i) a = 0)) := by
          rw [List.mem_filter, List.mem_range]
          refine ⟨by omega, ?_⟩
          rw [show a + (kp - a) = kp by omega, decide_eq_false kp3]; rfl
        obtain ⟨f0, hf0, hf1⟩ := head_mem hmem
        obtain ⟨y, hy, hy2⟩ := pgetR hys hf0
        have hy2 : y = .int ((a + f0 : Nat) : Int) := hy2
        subst hy2
        rw [List.mem_filter, List.mem_range] at hf1
        refine ⟨L, ys, 0, _, rfl, rfl, SqL.of hL, ?_, q _ H5 e5 ⟨a + f0, rfl, by omega, by omega, ?_⟩⟩
        · unfold atI
          have hpos : 0 < ys.length := (List.getElem?_eq_some_iff.mp hy).1
          rw [show ixN ys.length 0 = some 0 from ixN_nat hpos]; exact hy
        · intro z
          have := hf1.2
          rw [decide_eq_true z] at this; cases this
    rintro _ H4 e4 ⟨f, rfl, f1, f2, f3⟩
    have ou4 := ou3.same e4
    -- the swap
    obtain ⟨ua, hua, ra'⟩ := ou4.at (i := a) (by omega)
    obtain ⟨uf, huf, rf'⟩ := ou4.at (i := f) (by omega)
    refine st_seq (st_swap (a := a) (f := f) rfl rfl rfl ou4.1 hua huf fun H5 e5 => ?_)
    have ou5 := ou4.same e5
    have ou6 : OutH K (swp rows a f) p ((us'.set a uf).set f ua) (upd H5 p (.lst ((us'.set a uf).set f ua))) := by
      have s1 := ou5.set (u := uf) (row := rows.getD f []) (MonL.mono e5.wkL rf') a
      have s2 := s1.set (u := ua) (row := rows.getD a []) (RwX.put (MonL.mono e5.wkL ra') ou5.1) f
      have : upd (upd H5 p (.lst (us'.set a uf))) p (.lst ((us'.set a uf).set f ua)) = upd H5 p (.lst ((us'.set a uf).set f ua)) := by
        funext x
        by_cases e : x = p
        · rw [e, upd_same, upd_same]
        · rw [upd_ne e, upd_ne e, upd_ne e]
      rw [this] at s2
      exact s2
    have e06 : Same H (upd H5 p (.lst ((us'.set a uf).set f ua))) := Same.mut ((e3.trans e4).trans e5) np
    generalize upd H5 p (.lst ((us'.set a uf).set f ua)) = H6 at ou6 e06
    generalize (us'.set a uf).set f ua = us6 at ou6
    have I6 := I.swap ha f1 f2
    have p6 : cl (swp rows a f) a a ≠ 0 := by
      have : (swp rows a f).getD a [] = rows.getD f [] := by
        rw [swp_get (by omega) (by omega)]
        unfold swi; split
        · rename_i e; rw [e]
        · rw [if_pos rfl]
      unfold cl; rw [this]; exact f3
    generalize swp rows a f = rows6 at ou6 I6 p6
    have lr6 := I6.len
    have lu6 : us6.length = rows0.length := by rw [ou6.2.length, lr6]
    -- the rows in turn
    dsimp only
    refine st_forR1 (n := us6.length) (ev_lenL (ev_var rfl) ou6.1) (by omega) fun H7 e7 => ?_
    refine ⟨fun k σ H8 => ∃ o3 us8, σ = [some (.ref p), some (.int (a : Int)), some (.int (f : Int)), o3, o4] ∧ Same H H8 ∧ OutH K (elimTo rows6 a k) p us8 H8, ⟨o3, us6, rfl, e06.trans e7, by rw [elim_zero]; exact ou6.same e7⟩, ?_, ?_⟩
    · rintro k σ H8 hk ⟨o3, us8, rfl, e8, ou8⟩
      have hk : k < rows0.length := by omega
      have le8 : (elimTo rows6 a k).length = rows0.length := by rw [elim_len, lr6]
      have gk : (elimTo rows6 a k).getD k [] = rows6.getD k [] := by rw [elim_get _ _ _ _ (by omega), if_neg (fun z => by omega)]
      have ga : (elimTo rows6 a k).getD a [] = rows6.getD a [] := by rw [elim_get _ _ _ _ (by omega), if_neg (fun z => z.2 rfl)]
      have ck : cl (elimTo rows6 a k) k a = cl rows6 k a := by unfold cl; rw [gk]
      show tIfS _ _ _ _ [some (.ref p), some (.int (a : Int)), some (.int (f : Int)), some (.int (k : Int)), o4] H8
      refine st_ifL (E := Same) (b := (!decide (V.int (k : Int) = V.int (a : Int))) && !decide (cl rows6 k a = 0)) (et_and (et_test (ev_ne (ev_var rfl) (ev_var rfl) rfl)) fun _ => EvT.is (et_test (ev_neD (R := Rt K (cl (elimTo rows6 a k) k a)) (S := Rt K 0) (ev_cell (i := k) (j := a) (ev_var rfl) ou8 (ev_var rfl) (by omega) (ev_var rfl) (by rw [gk, I6.rl _ hk]; omega)) (ev_cR (rt0R U _)) (fun _ _ => dp_R) (fun _ _ => dp_R) (sh_R _) (sh_R _))) (by rw [eqv_R, ck])) (Same.refl _) (fun z H9 e9 => ?_) (fun z H9 e9 => ?_)
      · rw [Bool.and_eq_true] at z
        have ne : k ≠ a := fun e => by
          have z1 := z.1
          rw [e, decide_eq_true rfl] at z1; cases z1
        have ou9 := ou8.same e9
        refine st_setixN (R := RwV K (takenOff (rows6.getD k []) (rows6.getD a []) a)) (z := (k : Int)) (j := k) rfl ou9.1 (ev_var rfl) (ixN_nat (by rw [ou9.2.length]; omega)) ?_ fun d H10 H11 e10 e11 nd rd => ?_
        · refine en_N (α := (List Rat × List Rat) × Nat) ((rows6.getD k [], rows6.getD a []), a) (ea_cons (R := RwV K (rows6.getD k [])) (by rw [← gk]; exact Eva.imp (ev_row (ev_var rfl) ou9 (ev_var rfl) (by omega)) RwX.v) (ea_cons (R := RwV K (rows6.getD a [])) (by rw [← ga]; exact Eva.imp (ev_row (ev_var rfl) ou9 (ev_var rfl) (by omega)) RwX.v) (ea_cons (R := Is (.int (a : Int))) (ev_var rfl) ea_nil))) ?_
          rintro vs H' _ ⟨v, r', rfl, hv, v', r'', rfl, hv', v2, r2, rfl, hv2, rfl⟩
          exact ⟨⟨v, v', by rw [show v2 = _ from hv2], hv, hv'⟩, I6.off n7 ha hk p6⟩
        · have ou11 := (ou9.same e10).same e11
          have dp : V.ref d ≠ V.ref p := fun z => by
            have := V.ref.inj z
            subst this
            rw [ou9.1] at nd; cases nd
          refine ⟨_, us8.set k (.ref d), rfl, Same.mut (((e8.trans e9).trans e10).trans e11) np, ?_⟩
          rw [elim_set (by omega) ne]
          exact ou11.set ⟨MonL.mono e11.wkL rd, dp⟩ k
      · refine ⟨_, us8, rfl, e8.trans e9, ?_⟩
        rw [elim_keep (by omega) ?_]
        · exact ou8.same e9
        · by_cases e : k = a
          · exact .inl e
          · refine .inr ⟨?_, by rw [I6.rl k hk, I6.rl a ha]⟩
            rw [decide_eq_false (fun z : V.int (k : Int) = V.int (a : Int) => e (by have := V.int.inj z; omega))] at z
            simpa using z
    · rintro σ H8 ⟨o3, us8, rfl, e8, ou8⟩
      rw [lu6] at ou8
      exact ⟨_, _, _, _, _, us8, rfl, e8, ou8, I6.step ha p6⟩
  · rintro σ H3 ⟨o1, o2, o3, o4, rows, us', rfl, e3, ou3, I⟩
    rw [hlen] at I
    have lr := I.len
    have lu : us'.length = rows0.length := by rw [ou3.2.length, lr]
    have szs : ∀ i j, i < rows0.length → j ≤ rows0.length → Sm (cl rows i j) ∧ (cl rows i j).num.natAbs < 2 ^ 4400 := fun i j hi hj => by
      obtain ⟨D, D0, Dl, hD⟩ := I.nq i hi
      have b1 := bb_le (a := rows0.length) (by omega)
      have b2 := ss_le (a := rows0.length) (by omega)
      exact nqS (hD j hj) D0 Dl (by omega) (by omega)
    dsimp only
    refine st_retN (ev_lcN (n := rows0.length) (Y := fun i x H' => ∃ u, TupV K [.int (i : Nat), u] x H' ∧ RwV K (rows.getD i []) u H') (R := fun i => Rt K (cl rows i rows0.length / cl rows i i)) ?_ (by omega) ?_) ?_
    · intro H4 e4 R r
      have ou4 := ou3.same e4
      refine ei_enum (E := Same) (K := K) (xs := us') (fun H5 e5 Q q => ⟨_, rfl, q _ H5 (Same.refl _) ⟨p, rfl, SqL.of (e5 _ _ ou4.1), fun z => z⟩⟩) H4 (Same.refl _) R fun J H5 e5 jk => r J H5 e5 fun H6 e6 => ⟨by rw [← lu]; exact (jk H6 e6).1, fun i hi => ⟨((jk H6 e6).2 i (by omega)).1, fun x H7 y => ?_⟩⟩
      obtain ⟨e7, u, hu, hT⟩ := ((jk H6 e6).2 i (by omega)).2 x H7 y
      refine ⟨e7, u, hT, ?_⟩
      obtain ⟨u', hu', hr'⟩ := (((ou4.same e5).same e6).same e7).at (i := i) (by omega)
      rw [hu] at hu'
      cases hu'
      exact hr'.1
    · rintro i x H' hi e ⟨u, hT, hu⟩
      have li : (rows.getD i []).length = rows0.length + 1 := I.rl i hi
      have hneg : ixN (rows.getD i []).length (-1) = some rows0.length := by
        unfold ixN
        rw [li, if_neg (by omega), if_pos (by omega)]
        congr 1; omega
      refine ⟨_, tg_tup hT rfl (fun Q q => ⟨_, _, rfl, _, _, rfl, rfl, q⟩), rfl, fun H5 e5 Q q => q H5 (Same.refl _), ?_⟩
      exact ev_div (ev_rw (ev_varR rfl hu) (ev_U ev_c) hneg (by omega)) (ev_rw (ev_varR rfl hu) (ev_var rfl) (ixN_nat (by omega)) (by omega)) (szs i _ hi (Nat.le_refl _)).1 (szs i i hi (by omega)).1 (I.dia i hi) (szs i i hi (by omega)).2
    · rintro d H4 e4 nd ⟨L, ys, ed, hL, hys⟩
      cases ed
      have hgd : ∀ i, i < rows0.length → cl rows i rows0.length / cl rows i i = ((List.range rows0.length).map fun i => cl rows i rows0.length / cl rows i i).getD i 0 := fun i hi => by
        rw [List.getD_eq_getElem?_getD, List.getElem?_map, List.getElem?_range hi]; rfl
      refine k _ _ (e3.trans e4) ⟨(List.range rows0.length).map fun i => cl rows i rows0.length / cl rows i i, ⟨d, ys, rfl, hL, paired_getD hys (by rw [List.length_map, List.length_range]) hgd⟩, by rw [List.length_map, List.length_range], fun i hi => ?_⟩
      have := I.done i hi
      have e : dt (rows0.length + 1) (rows0.getD i []) (fun j => if j < rows0.length then ((List.range rows0.length).map fun i => cl rows i rows0.length / cl rows i i).getD j 0 else -1) = dt (rows0.length + 1) (rows0.getD i []) (fun j => if j < rows0.length then cl rows j rows0.length / cl rows j j else -1) := Sg_congr fun j _ => by
        by_cases hj : j < rows0.length
        · show _ * (if j < rows0.length then _ else _) = _ * (if j < rows0.length then _ else _)
          rw [if_pos hj, if_pos hj, ← hgd j hj]
        · show _ * (if j < rows0.length then _ else _) = _ * (if j < rows0.length then _ else _)
          rw [if_neg hj, if_neg hj]
      rw [e]; exact this
end
end Gm

set_option maxHeartbeats 4000000
namespace Gm
open PySem PySem.Spec PyProof.Rows L2
section
variable {X : Cx} {pos : Pos}
theorem pgs_star {e : Expr} {p : Pos} {es : List Expr} {t : TG} {u : TGs} (h1 : PG X e t) (h2 : PGs X es u)
    (hs : (assignEach (.Starred e p :: es) X.env).map (·.2) = assign e X.env :: (assignEach es X.env).map (·.2) := by rfl) : PGs X (.Starred e p :: es) (gCons t u) := by
  refine ⟨fun pins s σ H vs us Q I r h => ?_⟩
  obtain ⟨v, vr, e1, h⟩ := h
  subst e1
  cases r with
  | cons r rr =>
    rw [hs]
    refine assignInOrder_cons (thn (h1.run pins s σ H _ _ _ I r h) fun _ s1 ⟨σ1, H1, I1, q1⟩ => ?_)
    exact h2.run pins s1 σ1 H1 _ _ Q I1 rr q1
/-- a, b, *c, d = a tuple of five -/
def gStar5 (K : PySem.W.Frag) (t : TGs) : TG := fun v σ H Q => ∃ a x1 x2 x3 x4 x5, v = .ref a ∧ SqT K H a [x1, x2, x3, x4, x5] ∧ ∀ d, H d = none → t [x1, x2, .ref d, x5] σ (upd H d (.lst [x3, x4])) Q
theorem unpack_star5 {prog : Program} {w : World} {A : Around} {E : Value → Shared → Prop} {s : Shared} {l : Addr} {v1 v2 v3 v4 v5 : Value} {Q : List Value → Shared → Prop} (hl : IsTup s.heap l #[v1, v2, v3, v4, v5]) (hh : A.handled = none)
    (h : ∀ (h' : Heap) (tk : Nat), (∀ b o, s.heap.get? b = some o → h'.get? b = some o) → Q [v1, v2, .ref h'.objs.size, v5] { s with heap := h'.push { cls := .type "list", data := .seq #[v3, v4] }, toks := tk }) : wpAny (model prog w) A (unpackItems (.ref l) 4 (some 2)) Q E s := by
  have hlt : l ≠ s.heap.objs.size := by obtain ⟨o, ho, _⟩ := hl; exact Nat.ne_of_lt (Heap.lt_size ho)
  unfold unpackItems
  refine wpAny_bind ?_
  unfold notIterableAtAll
  refine wpAny_bind (wpAny_specialOf hl.typeIs slot_tuple_iter.lookup (wpAny_pure ?_))
  simp only [Bool.false_eq_true, if_false]
  refine wpAny_bind (wpAny_holding (iter_tuple hl ?_))
  refine wpAny_bind (wpAny_holding (draw_tuple hlt 2 0 _ _ ⟨_, Heap.get?_push_size _ rfl, rfl, rfl⟩ (hl.push _) (by show 0 + 2 ≤ 5; decide) fun h1 it1 sb1 => ?_))
  have hl1 : IsTup h1 l #[v1, v2, v3, v4, v5] := (hl.push _).extBut sb1.extBut hlt
  obtain ⟨oi, hoi, _⟩ := id it1
  obtain ⟨ol, hol, _⟩ := id hl1
  show wpAny _ _ (if (([v1, v2] : List Value).length < 2) then _ else _) _ _ _
  rw [if_neg (by simp)]
  refine wpAny_bind (wpAny_holding (PySem.W.kun_collect (s := { s with heap := h1 }) (T := "tuple_iterator") (.inr (.inr (.inr rfl))) (Walks.tuple (A := A.in1) hh s.heap.objs.size l hlt #[v1, v2, v3, v4, v5]) (fun j u st => st.1.typeIs) (k := 2) (by show 2 ≤ 5; decide) ⟨it1, hl1⟩ (Heap.lt_size hoi) (Heap.lt_size hol) (fun h2 tk hk => ?_) (by show 5 ≤ sizeLine; decide)))
  show wpAny _ _ (if (([v3, v4, v5] : List Value).length < 4 - 1 - 2) then _ else _) _ _ _
  rw [if_neg (by simp)]
  refine wpAny_bind (wpAny_newList (items := [v3, v4]) (wpAny_pure ?_) (by show 2 ≤ sizeLine; decide))
  exact h h2 tk fun b o e => hk b o (Nat.ne_of_lt (Heap.lt_size e)) (sb1.extBut b o (Nat.ne_of_lt (Heap.lt_size e)) (Heap.get?_push_of_some _ e))
theorem pg_star5 {es : List Expr} {k : Nat} {t : TGs} (hc : X.calm = true) (h : PGs X es t)
    (hn : (assignEach es X.env).length = 4 := by rfl) (hst : (assignEach es X.env).findIdx? (·.1) = some 2 := by rfl) : PG X (.Tuple es k pos) (gStar5 X.K t) := by
  refine ⟨fun pins s σ H v u Q I r hw => ?_⟩
  obtain ⟨a, x1, x2, x3, x4, x5, e1, hq, hw⟩ := hw
  subst e1
  cases r
  obtain ⟨its, rv, ht, hz⟩ := I.tuple hq
  cases rv with
  | cons r1 rv => cases rv with
    | cons r2 rv => cases rv with
      | cons r3 rv => cases rv with
        | cons r4 rv => cases rv with
          | cons r5 rv => cases rv with
            | nil =>
              rw [assign_Tuple]
              refine wpAny_bind (wpAny_standAt ?_)
              unfold unpack
              rw [hn, hst]
              refine wpAny_bind (wpAny_holding (unpack_star5 ht (I.ok.hd hc) fun h' tk hx => ?_))
              have I1 : Inv X pins σ H { s with heap := h', toks := tk } := I.kept (t' := tk) hx
              have hf : H h'.objs.size = none := I1.hok.fresh (Nat.le_refl _)
              have I2 : Inv X pins σ (upd H h'.objs.size (.lst [x3, x4])) { s with heap := h'.push { cls := .type "list", data := .seq #[_, _] }, toks := tk } :=
                I1.laid (t' := tk) (fun b u e => Heap.get?_push_of_some _ e) (Nat.le_refl _) ⟨(by show 2 ≤ sizeLine; decide), [_, _], 0, .cons r3 (.cons r4 .nil), Heap.get?_push_size _ rfl⟩
              exact h.run pins _ σ _ _ _ Q I2 (.cons r1 (.cons r2 (.cons (show L2.RelV (V.ref h'.objs.size) (Value.ref h'.objs.size) from rfl) (.cons r5 .nil)))) (hw _ hf)
end
end Gm

set_option maxHeartbeats 4000000
namespace Gm
open PySem PySem.Spec PyProof.Rows L2
section
variable {K : PySem.W.Frag} {σ : L2.St} {H H' : Hp} {te ta tb ti tj tq : TE} {R : V → Hp → Prop}
/-- a for over the values of a dict that an expression makes -/
theorem st_forV {S : List (Key × V) → Hp → Prop} {g : TG} {tb t2 : TS} {D : Ends} (h : Eva Same te σ H (fun v H1 => ∃ d kvs od H0, v = .ref d ∧ H1 d = some (.frz od (.dK kvs)) ∧ S kvs H0 ∧ Wk H0 H1))
    (k : ∀ d kvs od H0 H1, Same H H1 → H1 d = some (.frz od (.dK kvs)) → S kvs H0 → Wk H0 H1 → ∃ Pv : Nat → L2.St → Hp → Prop, Pv 0 σ H1 ∧ (∀ i σ' H', Pv i σ' H' → H' d = some (.frz od (.dK kvs))) ∧
      (∀ i kk vv σ' H', kvs[i]? = some (kk, vv) → Pv i σ' H' → g vv σ' H' fun σ2 H3 => tb { D with nx := Pv (i + 1), ct := Pv (i + 1), bk := t2 D } σ2 H3) ∧ (∀ σ' H', Pv kvs.length σ' H' → t2 D σ' H')) :
    tSeq (tFor (iVals te) g tb) t2 D σ H :=
  h H (Same.refl _) _ fun v H1 e1 ⟨d, kvs, od, H0, ev, hd, s, w⟩ => by
    obtain ⟨Pv, h0, hl, hst, hdn⟩ := k d kvs od H0 H1 e1 hd s w
    refine ⟨d, od, kvs, ev, hd, for_it walk_values (D := { D with nx := t2 D }) Pv h0 (fun i σ' H' _ p => hl i σ' H' p) ?_ hdn⟩
    rintro i x σ' H' H2 hi p ⟨rfl, kk, hy⟩
    exact hst i kk x σ' _ hy p
theorem ixN_neg1 {n : Nat} : ixN (n + 1) (-1) = some n := by
  unfold ixN
  rw [if_neg (by omega), if_pos (by omega)]
  congr 1; omega
/-- the rows in the heap while they are written -/
structure SB (K : PySem.W.Frag) (HS HT : Hp) (pR : Addr) (ps : List Addr) (db : Addr) (od : Obj) (kB : List (Key × V)) (rows : List (List Rat)) (H : Hp) : Prop where
  s : Same HS H
  r : RwsA K rows pR ps H
  f : H db = some (.frz od (.dK kB))
  t : Tp HT H
  n : ∀ p ∈ ps, HS p = none
theorem SB.same {HS HT : Hp} {pR : Addr} {ps : List Addr} {db : Addr} {od : Obj} {kB : List (Key × V)} {rows : List (List Rat)} (h : SB K HS HT pR ps db od kB rows H) (e : Same H H') : SB K HS HT pR ps db od kB rows H' :=
  ⟨h.s.trans e, h.r.same e, e _ _ h.f, h.t.trans e.tp, h.n⟩
theorem RwsA.put {rows : List (List Rat)} {row : List Rat} {D p : Addr} {ps : List Addr} {i : Nat} {vs' : List V} (h : RwsA K rows D ps H) (hp : ps[i]? = some p) (hv : Paired (fun u q => Rt K q u H) vs' row) : RwsA K (rows.set i row) D ps (upd H p (.lst vs')) := by
  obtain ⟨row0, hr, vs, hvs, _⟩ := pget h.r hp
  have nd := h.nd
  rw [List.nodup_cons] at nd
  have hD : D ≠ p := fun z => nd.1 (by rw [z]; exact List.mem_of_getElem? hp)
  refine ⟨by rw [upd_ne hD]; exact h.d, h.nd, ?_⟩
  refine paired_of (by rw [List.length_set, h.r.length]) fun j a b ha hb => ?_
  by_cases e : i = j
  · subst e
    rw [hp] at ha
    cases ha
    rw [List.getElem?_set_self (by rw [← h.r.length]; exact (List.getElem?_eq_some_iff.mp hp).1)] at hb
    cases hb
    exact ⟨vs', upd_same, paired_mono (R := fun q => Rt K q) (Tp.putL hvs) hv⟩
  · rw [List.getElem?_set_ne e] at hb
    have ne : a ≠ p := fun z => e (nd_ix nd.2 (by rw [← z] at hp; exact hp) ha)
    obtain ⟨b', hb', hr'⟩ := pget h.r ha
    rw [hb] at hb'
    cases hb'
    exact hr'.put ne hvs
theorem SB.put {HS HT : Hp} {pR p : Addr} {ps : List Addr} {db : Addr} {od : Obj} {kB : List (Key × V)} {rows : List (List Rat)} {row : List Rat} {i : Nat} {vs vs' : List V} (h : SB K HS HT pR ps db od kB rows H) (hp : ps[i]? = some p) (h0 : H p = some (.lst vs)) (hv : Paired (fun u q => Rt K q u H) vs' row) :
    SB K HS HT pR ps db od kB (rows.set i row) (upd H p (.lst vs')) :=
  ⟨Same.mut h.s (h.n _ (List.mem_of_getElem? hp)), h.r.put hp hv, by rw [upd_ne (ne_of h.f h0 (fun z => nomatch z))]; exact h.f, h.t.trans (Tp.putL h0), h.n⟩
theorem SB.at {HS HT : Hp} {pR p : Addr} {ps : List Addr} {db : Addr} {od : Obj} {kB : List (Key × V)} {rows : List (List Rat)} {i : Nat} (h : SB K HS HT pR ps db od kB rows H) (hp : ps[i]? = some p) : ∃ vs, H p = some (.lst vs) ∧ Paired (fun u q => Rt K q u H) vs (rows.getD i []) := by
  obtain ⟨row, hr, vs, h1, h2⟩ := pget h.r.r hp
  have : i < rows.length := (List.getElem?_eq_some_iff.mp hr).1
  rw [getD_lt [] this] at hr
  cases hr
  exact ⟨vs, h1, h2⟩
theorem set_set_self {rows : List (List Rat)} {i : Nat} {a b : List Rat} : (rows.set i a).set i b = rows.set i b := List.set_set ..
/-- row[z] = f(row[z], q) -/
theorem st_rowadd {f : Rat → Rat → Rat} {HS HT : Hp} {pR p sz : Addr} {ps : List Addr} {db : Addr} {od : Obj} {kB : List (Key × V)} {rows : List (List Rat)} {i j : Nat} {z : Int} {q : Rat} {szs : List V} {D : Ends} {X : XK} {n : Nat}
    (h : SB K HS HT pR ps db od kB rows H) (hp : ps[i]? = some p) (hs : σ[n]? = some (some (.ref p))) (hz : H sz = some (.lst szs)) (nz : sz ∉ ps) (hi : Eva Same ti σ H (Is (.int z))) (hi2 : Eva Same tj σ H (Is (.int z))) (hj : ixN (rows.getD i []).length z = some j) (hl : j < (rows.getD i []).length)
    (hq : Eva Same tq σ H (Rt K q)) (s1 : Sm ((rows.getD i []).getD j 0)) (s2 : Sm q)
    (k : ∀ H', SB K HS HT pR ps db od kB (rows.set i ((rows.getD i []).set j (f ((rows.getD i []).getD j 0) q))) H' → H' sz = some (.lst szs) → Tp H H' → D.nx σ H') :
    tAsg (tCall (spR2 K f) [] X (tCons (tOp (rIxL K) (tVar n) ti) (tCons tq tNil))) (gSub (tVar n) tj rSetL) D σ H := by
  obtain ⟨vs, hvs, hpv⟩ := h.at hp
  have hlv : vs.length = (rows.getD i []).length := hpv.length
  refine st_setix (R := Rt K (f ((rows.getD i []).getD j 0) q)) (z := z) (j := j) hs hvs hi2 (by rw [hlv]; exact hj) (ev_R2 (ev_rw (ev_varR (R := RwV K (rows.getD i [])) hs ⟨p, vs, rfl, hvs, hpv⟩) hi hj hl) hq s1 s2) fun v H1 e1 hv => ?_
  have h1 := h.same e1
  have hvs1 := e1 _ _ hvs
  have szp : sz ≠ p := fun e => nz (by rw [e]; exact List.mem_of_getElem? hp)
  exact k _ (h1.put hp hvs1 (pset (F := fun u q => Rt K q u H1) hv j (paired_mono (R := fun q => Rt K q) e1.tp hpv))) (by rw [upd_ne szp]; exact e1 _ _ hz) (e1.tp.trans (Tp.putL hvs1))
end
theorem set_self {rows : List (List Rat)} {i : Nat} : rows.set i (rows.getD i []) = rows := by
  by_cases h : i < rows.length
  · refine list_ext_getD (d := []) List.length_set fun j hj => ?_
    rw [getD_set]
    split
    · rename_i e; rw [e.1]
    · rfl
  · rw [List.set_eq_of_length_le (by omega)]
section
variable {K : PySem.W.Frag} {σ : L2.St} {H H' : Hp} {te ta tb ti tj tq : TE} {R : V → Hp → Prop}
theorem st_rowadd' {f : Rat → Rat → Rat} {HS HT : Hp} {pR p sz : Addr} {ps : List Addr} {db : Addr} {od : Obj} {kB : List (Key × V)} {rows : List (List Rat)} {row : List Rat} {i j : Nat} {z : Int} {q : Rat} {szs : List V} {D : Ends} {X : XK} {n : Nat}
    (h : SB K HS HT pR ps db od kB (rows.set i row) H) (hil : i < rows.length) (hp : ps[i]? = some p) (hs : σ[n]? = some (some (.ref p))) (hz : H sz = some (.lst szs)) (nz : sz ∉ ps) (hi : Eva Same ti σ H (Is (.int z))) (hi2 : Eva Same tj σ H (Is (.int z))) (hj : ixN row.length z = some j) (hl : j < row.length)
    (hq : Eva Same tq σ H (Rt K q)) (s1 : Sm (row.getD j 0)) (s2 : Sm q)
    (k : ∀ H', SB K HS HT pR ps db od kB (rows.set i (row.set j (f (row.getD j 0) q))) H' → H' sz = some (.lst szs) → Tp H H' → D.nx σ H') :
    tAsg (tCall (spR2 K f) [] X (tCons (tOp (rIxL K) (tVar n) ti) (tCons tq tNil))) (gSub (tVar n) tj rSetL) D σ H := by
  have e : (rows.set i row).getD i [] = row := by rw [getD_set, if_pos ⟨rfl, hil⟩]
  refine st_rowadd h hp hs hz nz hi hi2 (by rw [e]; exact hj) (by rw [e]; exact hl) hq (by rw [e]; exact s1) s2 fun H' h1 h2 h3 => ?_
  rw [e, List.set_set] at h1
  exact k H' h1 h2 h3
theorem st_forTx {E : Hp → Hp → Prop} [PreE E] {g : TG} {tb : TS} {D : Ends} (h : Eva E te σ H R) (e0 : E H H)
    (k : ∀ v H1, E H H1 → R v H1 → ∃ a xs, v = .ref a ∧ SqT K H1 a xs ∧ ∃ Pv : Nat → L2.St → Hp → Prop, Pv 0 σ H1 ∧ (∀ i σ H, i ≤ xs.length → Pv i σ H → SqT K H a xs) ∧
      (∀ i x σ H, xs[i]? = some x → Pv i σ H → g x σ H fun σ2 H2 => tb { D with nx := Pv (i + 1), ct := Pv (i + 1), bk := D.nx } σ2 H2) ∧ (∀ σ H, Pv xs.length σ H → D.nx σ H)) : tFor (iTup K te) g tb D σ H :=
  h H e0 _ fun v H1 e1 r => by
    obtain ⟨a, xs, ea, hs, Pv, h0, hl, hst, hd⟩ := k v H1 e1 r
    exact ⟨a, ea, ⟨xs, hs⟩, for_tup (K := K) (a := a) (xs := xs) Pv h0 hl hst hd⟩
theorem ev_three {x y z : V} (ha : Eva Same ta σ H (Is x)) (hb : Eva Same tb σ H (Is y)) (hc : Eva Same te σ H (Is z)) : Eva Same (tTup (tCons ta (tCons tb (tCons te tNil)))) σ H (TupV K [x, y, z]) := by
  refine Eva.imp (ev_tup (ea_cons ha (ea_cons hb (ea_cons hc ea_nil))) 3 fun vs H1 r => ?_) fun v H1 e r => ?_
  · obtain ⟨_, _, rfl, _, _, _, rfl, _, _, _, rfl, _, rfl⟩ := r; simp
  · obtain ⟨a, vs, H0, rfl, ha, ⟨u, _, rfl, hu, u', _, rfl, hu', u2, _, rfl, hu2, rfl⟩, w⟩ := r
    cases hu; cases hu'; cases hu2
    exact ⟨a, rfl, SqT.of ha⟩
theorem ev_pair {R S : V → Hp → Prop} [MonW R] [MonW S] (ha : Eva Same ta σ H R) (hb : Eva Same tb σ H S) : Eva Same (tTup (tCons ta (tCons tb tNil))) σ H (fun v H1 => ∃ u w, TupV K [u, w] v H1 ∧ R u H1 ∧ S w H1) := by
  refine Eva.imp (ev_tup (ea_cons ha (ea_cons hb ea_nil)) 2 fun vs H1 r => ?_) fun v H1 e r => ?_
  · obtain ⟨_, _, rfl, _, _, _, rfl, _, rfl⟩ := r; simp
  · obtain ⟨a, vs, H0, rfl, ha, ⟨u, _, rfl, hu, u', _, rfl, hu', rfl⟩, w⟩ := r
    exact ⟨u, u', ⟨a, rfl, SqT.of ha⟩, MonW.mono w hu, MonW.mono w hu'⟩
end
/-! ### the sums -/
def fixL (W : Wd) (way : Nat) : List (Str × Rat) := W.mks.filterMap fun x => x.2.map fun p => (x.1, ((if way = 0 then p.1 else p.2 : Int) : Rat))
theorem fixL_mem {W : Wd} {way : Nat} {x : Str × Rat} (ok : W.Ok) (h : x ∈ fixL W way) : x.2 = fqW W way x.1 ∧ ∃ p, W.fx x.1 = some p := by
  obtain ⟨⟨m, o⟩, hm, e⟩ := List.mem_filterMap.mp h
  obtain ⟨p, hp, rfl⟩ := Option.map_eq_some_iff.mp e
  have hp : o = some p := hp
  subst hp
  have hf := Wd.fx_mem ok hm
  refine ⟨?_, p, hf⟩
  show _ = fqW W way m
  unfold fqW; rw [hf]
theorem fixL_has {W : Wd} {way : Nat} {m : Str} {p : Int × Int} (h : W.fx m = some p) : m ∈ (fixL W way).map (·.1) := by
  refine List.mem_map.mpr ⟨(m, _), List.mem_filterMap.mpr ⟨(m, some p), fx_some_mem h, rfl⟩, rfl⟩
theorem fix_val {K : PySem.W.Frag} {H : Hp} {W : Wd} {way : Nat} {m : Str} {p : Int × Int} {kF : List (Key × V)} (ok : W.Ok) (h : Dc kS (Rt K) (fixL W way) kF H) (hm : W.fx m = some p) : ∃ v, valV kF (kS m) = some v ∧ Rt K (fqW W way m) v H := by
  obtain ⟨x, v, hx, e, hv, hr, _⟩ := h.has inr_inj (fixL_has (way := way) hm)
  obtain ⟨e2, _⟩ := fixL_mem ok hx
  refine ⟨v, hv, ?_⟩
  rw [← e, ← e2]; exact hr
/-- the places of the free marks -/
def placeL (F : List Str) : List (Str × Nat) := (List.range F.length).map fun i => (F.getD i default, i)
theorem placeL_val {K : PySem.W.Frag} {H : Hp} {F : List Str} (nd : F.Nodup) {kP : List (Key × V)} (h : Dc kS (fun i => Is (.int ((i : Nat) : Int))) (placeL F) kP H) (m : Str) : (m ∈ F → valV kP (kS m) = some (.int ((ixF F m : Nat) : Int))) ∧ (m ∉ F → valV kP (kS m) = none) := by
  constructor
  · intro hm
    have hmem : (m, ixF F m) ∈ placeL F := List.mem_map.mpr ⟨ixF F m, List.mem_range.mpr (ixF_lt hm), by
      rw [List.getD_eq_getElem?_getD, ixF_get hm]; rfl⟩
    obtain ⟨x, v, hx, e, hv, hr, _⟩ := h.has inr_inj (List.mem_map.mpr ⟨_, hmem, rfl⟩)
    obtain ⟨i, hi, rfl⟩ := List.mem_map.mp hx
    have hi := List.mem_range.mp hi
    have e : F.getD i default = m := e
    have : ixF F m = i := ixF_of nd (by rw [← e]; exact getD_lt default hi)
    have hr : v = .int ((i : Nat) : Int) := hr
    rw [this, ← hr]; exact hv
  · intro hm
    have := h.val inr_inj m
    rw [List.find?_eq_none.mpr fun x hx => by
      obtain ⟨i, hi, rfl⟩ := List.mem_map.mp hx
      have hi := List.mem_range.mp hi
      intro z
      have z : F.getD i default = m := by simpa using z
      exact hm (by rw [← z]; exact List.mem_of_getElem? (getD_lt default hi))] at this
    exact this
theorem sm_ib {c : Nat} {q : Rat} (h : IB c q) (hc : c ≤ 20000) : Sm q := by
  obtain ⟨m, rfl, l⟩ := h
  have := Nat.pow_le_pow_right (show 0 < 2 by decide) (show 20 ≤ 100 by decide)
  exact sm_int (by omega)
/-- the two ends, each ahead of the other -/
def EndV (K : PySem.W.Frag) (m e : Str) (sg : Int) : V → Hp → Prop := TupV K [.str m, .str e, .int sg]
def rowsJ (F : List Str) (fq : Str → Rat) (way : Nat) (r : Rdg) (rows : List (List Rat)) : Nat → List (List Rat)
  | 0 => rows
  | 1 => halfS F fq (r.wt : Rat) ((1 * r.wt * r.sz way : Int) : Rat) r.one r.other rows
  | _ => halfS F fq (r.wt : Rat) ((-1 * r.wt * r.sz way : Int) : Rat) r.other r.one (halfS F fq (r.wt : Rat) ((1 * r.wt * r.sz way : Int) : Rat) r.one r.other rows)
theorem rowsJ_shp {F : List Str} {fq : Str → Rat} {way : Nat} {r : Rdg} {rows : List (List Rat)} (h : Shp F.length rows) : ∀ j, Shp F.length (rowsJ F fq way r rows j)
  | 0 => h
  | 1 => h.half
  | _ + 2 => h.half.half
theorem rowsJ_ib {W : Wd} (ok : W.Ok) {way : Nat} {r : Rdg} (rb : RdB r) {F : List Str} {rows : List (List Rat)} (h : ∀ k j, IB 13068 (cl rows k j)) (j k l : Nat) : IB 13662 (cl (rowsJ F (fqW W way) way r rows j) k l) := by
  have fb := fqW_b ok way
  have hw : IB 9 (r.wt : Rat) := ⟨r.wt, rfl, by have := rb.w; omega⟩
  have h2 : ∀ s : Int, s.natAbs ≤ 1 → IB 108 ((s * r.wt * r.sz way : Int) : Rat) := fun s hs => ⟨_, rfl, by
    rw [Int.natAbs_mul, Int.natAbs_mul]
    have h1 := sz_le rb way
    have h3 : r.wt.natAbs ≤ 9 := by have := rb.w; omega
    calc s.natAbs * r.wt.natAbs * (r.sz way).natAbs ≤ 1 * 9 * 12 := Nat.mul_le_mul (Nat.mul_le_mul hs h3) h1
      _ = 108 := rfl⟩
  have hf : ∀ m, IB 180 ((r.wt : Rat) * fqW W way m) := fun m => hw.mul (fb.b m)
  have a1 := ib_half (F := F) (m := r.other) hw (h2 1 (by decide)) (hf r.one) h
  have a2 := ib_half (F := F) (m := r.one) hw (h2 (-1) (by decide)) (hf r.other) a1
  match j with
  | 0 => exact (h k l).mono (by decide)
  | 1 => exact (a1 k l).mono (by decide)
  | j + 2 => exact (a2 k l).mono (by decide)
section
variable {P : Program} {w : World} {K : PySem.W.Frag} {mg : Str → Option Value} {base : Heap} {aN : Addr} {uM uW uL : Value} {C fI fM fR fN fH : Addr} {fdM fdR fdN fdH : FuncData}
noncomputable def spSums (K : PySem.W.Frag) (C : Addr) : Sp := SpG (α := Wd × Nat) (fun x vs H => (∃ u v, vs = [u, .int (x.2 : Int), v] ∧ SurV K C x.1 u H ∧ DcV kS (Rt K) (fixL x.1 x.2) v H) ∧ x.1.Ok ∧ x.2 < 2) (fun x => RwsV K (rowsW x.1 x.2))
theorem ok_sums_of (D : DefAt K mg "sums_of" s_sums_of) (U : Uni K mg aN uM uW uL) (Z : Mts P w K mg base C fI fM fR fN fH fdM fdR fdN fdH) (c_free_marks : Cal P w K mg base 2 "free_marks" ["survey"] (spFree K C)) (c_plus : Cal P w K mg base 3 "plus" ["one", "other"] (spPlus K)) (c_minus : Cal P w K mg base 3 "minus" ["one", "other"] (spMinus K))
    (c_times : Cal P w K mg base 3 "times" ["one", "other"] (spTimes K)) (c_whole : Cal P w K mg base 1 "whole" ["number"] (spWhole K)) : Cal P w K mg base 4 "sums_of" ["survey", "way", "fixed"] (spSums K C) := by
  refine D.cal 3 sc_sums_of (fun _ _ _ _ _ _ us hl => match us, hl with | [_, _, _], _ => rfl) (fun vs H Q E h => ?_) (fun f cdv A outer s H vs Q E hr h => ?_)
  · obtain ⟨x, ⟨⟨_, _, rfl, _⟩, _⟩, _⟩ := h; rfl
  obtain ⟨⟨W, way⟩, ⟨⟨v1, _, rfl, hs, ⟨dF, kF, rfl, hdF, hkF⟩⟩, ok, hw⟩, k⟩ := h
  have hs : SurV K C W v1 H := hs
  have hkF : Dc kS (Rt K) (fixL W way) kF H := hkF
  have ok : W.Ok := ok
  have hw : way < 2 := hw
  obtain ⟨M, c_Survey_marks, c_Survey_readings, c_Survey_names, c_Survey_hangs⟩ := Z
  have ndF := Wd.free_nodup ok
  have l7 := free_len7 ok
  refine ⟨_, (pss_cons (ps_set (i := 3) sc_sums_of.nd rfl (Or.inr rfl) (c_free_marks.call (hr.mono (by decide)) (by rfl) (pa_cons (pv 0) pa_nil)))
      (pss_cons (ps_setDc (i := 4) (own := [("k", 16), ("name", 17)]) (g := (gTup K 2 (gCons (gName 16) (gCons (gName 17) gNil)))) rfl sc_sums_of.nd rfl rfl (swd_true rfl rfl rfl (by decide +kernel)) (pi_enum (by rfl) U.enumerate (pa_cons (pv 3) pa_nil)) (blkOk_by (N := n_sums_of) (sc := defScope s_sums_of) (own := [("k", 16), ("name", 17)]) (by decide +kernel)) (fun _ _ _ _ _ => (pg_tup rfl (pgs_cons (pg_name (i := 16) sc_sums_of.nd rfl (Or.inl rfl)) (pgs_cons (pg_name (i := 17) sc_sums_of.nd rfl (Or.inl rfl)) pgs_nil)))) (fun _ _ _ _ _ => pts_nil) (fun _ _ _ _ _ => (pv 17)) (fun _ _ _ _ _ => (pv 16)))
      (pss_cons (ps_setLc (i := 5) (own := [("name", 17)]) (g := (gName 17)) rfl sc_sums_of.nd rfl rfl (sw_true rfl rfl rfl (by decide +kernel)) (pi_list (pv 3)) (blkOk_by (N := n_sums_of) (sc := defScope s_sums_of) (own := [("name", 17)]) (by decide +kernel)) (fun _ _ _ _ _ => (pg_name (i := 17) sc_sums_of.nd rfl (Or.inl rfl))) (fun _ _ _ _ _ => pts_nil) (fun _ _ _ _ _ => (pe_op op_rep (pe_lst (pa_cons (pe_glob (by rfl) U.gNOUGHT U.rNOUGHT) pa_nil)) (pe_op op_add (pe_callB (call_len_seqK (K := K) rfl) (by rfl) U.len PySem.boot_len (pa_cons (pv 3) pa_nil)) pe_int))))
      (pss_cons (ps_for PassesOwn.never rfl (pi_values (pe_freeze (pe_meth0 (pv 0) M.cl M.readings c_Survey_readings.F (hr.mono (by decide)) c_Survey_readings.b .nil pass0))) (pg_name (i := 6) sc_sums_of.nd rfl (Or.inl rfl)) (pss_cons (ps_asg (pv 6) (pg_star5 rfl (pgs_cons (pg_name (i := 7) sc_sums_of.nd rfl (Or.inl rfl)) (pgs_cons (pg_name (i := 8) sc_sums_of.nd rfl (Or.inl rfl)) (pgs_star (pg_name (i := 9) sc_sums_of.nd rfl (Or.inl rfl)) (pgs_cons (pg_name (i := 10) sc_sums_of.nd rfl (Or.inl rfl)) pgs_nil))))))
      (pss_cons (ps_set (i := 11) sc_sums_of.nd rfl (Or.inl rfl) (c_whole.call (hr.mono (by decide)) (by rfl) (pa_cons (pv 10) pa_nil)))
      (pss_one (ps_for PassesOwn.never rfl (pi_tup (pe_tup (pa_cons (pe_tup (pa_cons (pv 8) (pa_cons (pv 7) (pa_cons pe_int pa_nil)))) (pa_cons (pe_tup (pa_cons (pv 7) (pa_cons (pv 8) (pa_cons (pe_un un_neg pe_int) pa_nil)))) pa_nil)))) (pg_tup rfl (pgs_cons (pg_name (i := 12) sc_sums_of.nd rfl (Or.inl rfl)) (pgs_cons (pg_name (i := 13) sc_sums_of.nd rfl (Or.inl rfl)) (pgs_cons (pg_name (i := 14) sc_sums_of.nd rfl (Or.inl rfl)) pgs_nil)))) (pss_one (ps_if (pt_cmp (pc_din (hu_of hr) (pv 12) (pv 4))) (pss_cons (ps_set (i := 15) sc_sums_of.nd rfl (Or.inl rfl) (pe_ix ix_list (pv 5) (pe_dget (hu_of hr) (pv 4) (pv 12) (fun _ _ => rfl)) (fun _ _ => rfl)))
      (pss_cons (ps_asg (c_plus.call (hr.mono (by decide)) (by rfl) (pa_cons (pe_ix ix_list (pv 15) (pe_dget (hu_of hr) (pv 4) (pv 12) (fun _ _ => rfl)) (fun _ _ => rfl)) (pa_cons (pv 11) pa_nil))) (pg_sub (pv 15) (pe_dget (hu_of hr) (pv 4) (pv 12) (fun _ _ => rfl)) set_list))
      (pss_cons (ps_asg (c_plus.call (hr.mono (by decide)) (by rfl) (pa_cons (pe_ix ix_list (pv 15) (pe_un un_neg pe_int) (fun _ _ => rfl)) (pa_cons (c_whole.call (hr.mono (by decide)) (by rfl) (pa_cons (pe_op op_mulW (pe_op op_mulW (pv 14) (pv 10)) (pe_ix ix_list (pv 9) (pv 1) (fun _ _ => rfl))) pa_nil)) pa_nil))) (pg_sub (pv 15) (pe_un un_neg pe_int) set_list))
      (pss_one (ps_if (pt_cmp (pc_din (hu_of hr) (pv 13) (pv 4))) (pss_one (ps_asg (c_minus.call (hr.mono (by decide)) (by rfl) (pa_cons (pe_ix ix_list (pv 15) (pe_dget (hu_of hr) (pv 4) (pv 13) (fun _ _ => rfl)) (fun _ _ => rfl)) (pa_cons (pv 11) pa_nil))) (pg_sub (pv 15) (pe_dget (hu_of hr) (pv 4) (pv 13) (fun _ _ => rfl)) set_list))) (pss_one (ps_asg (c_plus.call (hr.mono (by decide)) (by rfl) (pa_cons (pe_ix ix_list (pv 15) (pe_un un_neg pe_int) (fun _ _ => rfl)) (pa_cons (c_times.call (hr.mono (by decide)) (by rfl) (pa_cons (pv 11) (pa_cons (pe_dget (hu_of hr) (pv 2) (pv 13) (fun _ _ => rfl)) pa_nil))) pa_nil))) (pg_sub (pv 15) (pe_un un_neg pe_int) set_list)))))))) pss_nil)))))))
      (pss_one (ps_ret (pv 5))))))), ?_⟩
  refine st_set (E := Same) (ev_free (ev_varR rfl hs) ok) (Same.refl _) ?_
  rintro _ H1 e1 ⟨fl, rfl, hfl⟩
  -- places
  refine st_set (E := Same) (ev_dc (E := Same) (n := (W.free.map V.str).length) (R := fun i => Is (.int (i : Int))) (kk := fun i => kS (W.free.getD i default)) (b := fun _ => true)
    (ei_enum (E := Same) (K := K) (xs := W.free.map V.str) (fun H5 e5 Q q => ⟨_, rfl, q _ H5 (Same.refl _) ⟨fl, rfl, SqL.of (e5 _ _ hfl), fun z => z⟩⟩)) (by rw [List.length_map]; omega) ?_ ?_) (Same.refl _) ?_
  · intro i j hi hj _ _ e
    rw [List.length_map] at hi hj
    have e := Sum.inr.inj e
    exact nd_ix ndF (getD_lt default hi) (by rw [e]; exact getD_lt default hj)
  · rintro i x H' hi e ⟨v, hv, hT⟩
    rw [List.length_map] at hi
    rw [List.getElem?_map, getD_lt default hi] at hv
    have hv := Option.some.inj hv
    subst hv
    exact ⟨_, tg_tup hT rfl (fun Q q => ⟨_, _, rfl, _, _, rfl, rfl, q⟩), rfl, fun H5 e5 Q q => q H5 (Same.refl _), fun _ => ⟨ev_var rfl, ev_var rfl⟩⟩
  rintro _ H2 e2 ⟨dP, kP, rfl, hdP, hkP, _⟩
  rw [List.filter_eq_self.mpr (fun _ _ => rfl), List.length_map] at hkP
  have hkP : Dc kS (fun i => Is (.int ((i : Nat) : Int))) (placeL W.free) kP H2 := by
    refine paired_of (by unfold placeL; rw [hkP.length, List.length_map]) fun i a b ha hb => ?_
    obtain ⟨j, hj, r1, r2⟩ := pget hkP ha
    unfold placeL at hb
    rw [List.getElem?_map, hj] at hb
    cases hb
    exact ⟨r1, r2⟩
  have hpl := placeL_val (K := K) ndF hkP
  -- rows
  refine st_setN (ev_lcR (K := K) (n := (W.free.map V.str).length) (Y := fun i x _ => (W.free.map V.str)[i]? = some x) (rows := rows0 W.free.length) ?_ (by rw [List.length_map]; omega) (by rw [List.length_map]; exact List.length_replicate) ?_) ?_
  · intro H3 e3 R r
    exact ei_list (E := Same) (K := K) (xs := W.free.map V.str) (fun H4 e4 Q q => ⟨_, rfl, q _ H4 (Same.refl _) ⟨fl, rfl, SqL.of (((e2.trans e3).trans e4) _ _ hfl), fun z => z⟩⟩) H3 (Same.refl _) R r
  · rintro i x H' hi e hx
    rw [List.length_map] at hi
    refine ⟨_, tg_name, rfl, fun H5 e5 Q q => q H5 (Same.refl _), fun H5 e5 Q q => ?_⟩
    have hfl5 := ((e2.trans e).trans e5) _ _ hfl
    refine ⟨(by show 1 ≤ sizeLine; decide), fun l hl => ?_⟩
    have el : Same H5 (upd H5 l (.lst [.ref aN])) := Same.new hl
    refine ev_I0 (E := Same) (i := ((W.free.map V.str).length : Int)) (j := 1) (ev_lenL (ev_var rfl) hfl5) ev_c _ el _ fun v H6 e6 rv => ?_
    refine ⟨l, ((W.free.map V.str).length : Int) + 1, [.ref aN], rfl, rv, e6 _ _ upd_same, by rw [List.length_map]; omega, by rw [List.length_map]; omega, ?_, fun p hp => ?_⟩
    · rw [List.length_map]
      exact Nat.le_trans (show _ ≤ 100 by simp only [List.length_cons, List.length_nil]; omega) (by decide)
    · refine q p _ ((el.trans e6).trans (Same.new hp)) ((el.trans e6).free hp) ⟨p, _, rfl, upd_same, ?_⟩
      have e1 : (((W.free.map V.str).length : Int) + 1).toNat = W.free.length + 1 := by rw [List.length_map]; omega
      have e2 : (rows0 W.free.length).getD i [] = List.replicate (W.free.length + 1) 0 := by unfold rows0; rw [getD_rep, if_pos hi]
      rw [e1, e2]
      have key : ∀ n, Paired (fun u q => Rt K q u (upd H6 p (.lst ((List.replicate (((W.free.map V.str).length : Int) + 1).toNat [V.ref aN]).flatten)))) (List.replicate n [V.ref aN]).flatten (List.replicate n (0 : Rat)) := fun n => by
        induction n with
        | zero => exact .nil
        | succ n ih =>
          rw [List.replicate_succ, List.replicate_succ, List.flatten_cons]
          exact .cons (rt0 U _) ih
      rw [e1] at key
      exact key _
  rintro pR H3 e3 npR ⟨_, ps, ed, ra, hps⟩
  cases ed
  have e02 : Same H H2 := e1.trans e2
  -- the readings
  refine st_forV (S := Dc kI (RdV K) W.rds) (ev_freeze (ev_readings (ev_var rfl) (MonW.mono (e02.trans e3).wk hs)) fun d H1 ⟨d', kvs', ed, h1, h2⟩ => by cases ed; exact ⟨kvs', h1, h2⟩) ?_
  intro db kB od H0 H4 e4 hdb hB w04
  have hB4 : Dc kI (RdV K) W.rds kB H4 := hB.mono w04.tup
  refine ⟨fun i σ H5 => (∃ o6 o7 o8 o9 o10 o11 o12 o13 o14 o15 o16 o17, σ = [some v1, some (.int (way : Int)), some (.ref dF), some (.ref fl), some (.ref dP), some (.ref pR), o6, o7, o8, o9, o10, o11, o12, o13, o14, o15, o16, o17]) ∧ SB K H2 H4 pR ps db od kB (sumRows W.free (fqW W way) way (W.rds.take i)) H5,
    ⟨⟨none, none, none, none, none, none, none, none, none, none, none, none, rfl⟩, ⟨e3.trans e4, ra.same e4, hdb, Tp.refl _, fun p hp => hps p (List.mem_cons_of_mem _ hp)⟩⟩, fun i σ' H' q => q.2.f, ?_, ?_⟩
  · rintro i kk vv σ' H5 hk ⟨⟨o6, o7, o8, o9, o10, o11, o12, o13, o14, o15, o16, o17, rfl⟩, sb5⟩
    obtain ⟨⟨n, r⟩, hr, rk, rv⟩ := pget hB4 hk
    have hmem : (n, r) ∈ W.rds := List.mem_of_getElem? hr
    have rb := ok.rdb hmem
    have rv5 : RdV K r vv H5 := MonT.mono sb5.t (show RdV K r vv H4 from rv)
    obtain ⟨ta, rfl, hta⟩ := rv5
    show tSeq _ _ _ [some v1, some (.int (way : Int)), some (.ref dF), some (.ref fl), some (.ref dP), some (.ref pR), some (.ref ta), o7, o8, o9, o10, o11, o12, o13, o14, o15, o16, o17] H5
    refine st_seq ⟨_, rfl, ta, _, _, _, _, _, rfl, hta, fun sz hsz => ⟨_, _, rfl, _, _, rfl, _, _, rfl, _, _, rfl, rfl, ?_⟩⟩
    have e6 : Same H5 (upd H5 sz (.lst [.int r.ac, .int r.up])) := Same.new hsz
    have z6 : (upd H5 sz (.lst [.int r.ac, .int r.up])) sz = some (.lst [.int r.ac, .int r.up]) := upd_same
    have nz : sz ∉ ps := fun hm => by
      obtain ⟨row, _, vs, h1, _⟩ := paired_mem sb5.r.r hm
      rw [hsz] at h1; cases h1
    generalize upd H5 sz (.lst [.int r.ac, .int r.up]) = H6 at e6 z6
    have sb6 := sb5.same e6
    show tSeq _ _ _ [some v1, some (.int (way : Int)), some (.ref dF), some (.ref fl), some (.ref dP), some (.ref pR), some (.ref ta), some (.str r.one), some (.str r.other), some (.ref sz), some (.int r.wt), o11, o12, o13, o14, o15, o16, o17] H6
    refine st_set (E := Same) (R := Rt K (r.wt : Rat)) (ev_whole (ev_var rfl)) (Same.refl _) fun hv H7 e7 hhv => ?_
    have sb7 := sb6.same e7
    have z7 := e7 _ _ z6
    -- the two ends
    generalize hrows : sumRows W.free (fqW W way) way (W.rds.take i) = rws at sb5 sb6 sb7
    have hshp : Shp W.free.length rws := by rw [← hrows]; exact sumRows_shp _ _ _ _
    have hib : ∀ k j, IB 13068 (cl rws k j) := by rw [← hrows]; exact ib_sum ok W.free (fqW_b ok way) way i
    have hends := Wd.hung_ends ok hmem
    have t27 : Tp H2 H7 := sb7.s.tp
    refine st_forTx (K := K) (R := fun v H1 => ∃ u w, TupV K [u, w] v H1 ∧ TupV K [.str r.other, .str r.one, .int 1] u H1 ∧ TupV K [.str r.one, .str r.other, .int (-1)] w H1) (ev_pair (ev_three (ev_var rfl) (ev_var rfl) ev_c) (ev_three (ev_var rfl) (ev_var rfl) (ev_U ev_c))) (Same.refl _) ?_
    rintro _ H8 e8 ⟨u1, u2, ⟨tt, rfl, htt⟩, hu1, hu2⟩
    refine ⟨tt, [u1, u2], rfl, htt, fun j σ H9 => (∃ o12 o13 o14 o15 o16 o17, σ = [some v1, some (.int (way : Int)), some (.ref dF), some (.ref fl), some (.ref dP), some (.ref pR), some (.ref ta), some (.str r.one), some (.str r.other), some (.ref sz), some (.int r.wt), some hv, o12, o13, o14, o15, o16, o17]) ∧
      SB K H2 H4 pR ps db od kB (rowsJ W.free (fqW W way) way r rws j) H9 ∧ H9 sz = some (.lst [.int r.ac, .int r.up]) ∧ Tp H8 H9, ⟨⟨o12, o13, o14, o15, o16, o17, rfl⟩, sb7.same e8, e8 _ _ z7, Tp.refl _⟩, fun j σ H9 _ q => htt.elim (fun h => .inl (q.2.2.2 _ _ h)) .inr, ?_, ?_⟩
    · rintro j x σ H9 hx ⟨⟨o12, o13, o14, o15, o16, o17, rfl⟩, sb9, z9, t9⟩
      obtain ⟨m, e, sg, hxe, hstep, hsg, hme, hmf⟩ : ∃ (m e : Str) (sg : Int), TupV K [.str m, .str e, .int sg] x H9 ∧ rowsJ W.free (fqW W way) way r rws (j + 1) = halfS W.free (fqW W way) (r.wt : Rat) ((sg * r.wt * r.sz way : Int) : Rat) e m (rowsJ W.free (fqW W way) way r rws j) ∧ sg.natAbs ≤ 1 ∧ m ≠ e ∧ (m ∈ W.free → e ∈ W.hung) := by
        match j, hx with
        | 0, hx =>
          have hx : u1 = x := by simpa using hx
          subst hx
          exact ⟨r.other, r.one, 1, MonT.mono t9 hu1, rfl, by decide, fun z => (ok.rd n r hmem).2.2.1 z.symm, fun h => hends.mpr (Wd.free_mem.mp h).1⟩
        | 1, hx =>
          have hx : u2 = x := by simpa using hx
          subst hx
          exact ⟨r.one, r.other, -1, MonT.mono t9 hu2, rfl, by decide, (ok.rd n r hmem).2.2.1, fun h => hends.mp (Wd.free_mem.mp h).1⟩
        | j + 2, hx => simp at hx
      have hsz12 := sz_le rb way
      have hshp9 : Shp W.free.length (rowsJ W.free (fqW W way) way r rws j) := rowsJ_shp hshp j
      have hib9 : ∀ k l, IB 13662 (cl (rowsJ W.free (fqW W way) way r rws j) k l) := rowsJ_ib ok rb hib j
      have fin : ∀ H', SB K H2 H4 pR ps db od kB (halfS W.free (fqW W way) (r.wt : Rat) ((sg * r.wt * r.sz way : Int) : Rat) e m (rowsJ W.free (fqW W way) way r rws j)) H' → SB K H2 H4 pR ps db od kB (rowsJ W.free (fqW W way) way r rws (j + 1)) H' := fun H' h => by rw [hstep]; exact h
      clear hstep
      generalize rowsJ W.free (fqW W way) way r rws j = rows9 at sb9 hshp9 hib9 fin
      refine tg_tup (σ2 := [some v1, some (.int (way : Int)), some (.ref dF), some (.ref fl), some (.ref dP), some (.ref pR), some (.ref ta), some (.str r.one), some (.str r.other), some (.ref sz), some (.int r.wt), some hv, some (.str m), some (.str e), some (.int sg), o15, o16, o17]) hxe rfl (fun Q q => ⟨_, _, rfl, _, _, rfl, _, _, rfl, rfl, q⟩) _ ?_
      have din : ∀ (x : Str), (valV kP (kS x)).isSome = decide (x ∈ W.free) := fun x => by
        by_cases h : x ∈ W.free
        · rw [(hpl x).1 h, decide_eq_true h]; rfl
        · rw [(hpl x).2 h, decide_eq_false h]; rfl
      refine st_ifL (E := Same) (b := decide (m ∈ W.free)) (EvT.is (et_B (ev_din (k := kS m) (ev_var rfl) (ev_var rfl) (.inl (sb9.s _ _ hdP)))) (din m)) (Same.refl _) (fun z H10 e10 => ?_) (fun z H10 e10 => ?_)
      · have hm := of_decide_eq_true z
        have hi := ixF_lt hm
        have sb10 := sb9.same e10
        have z10 := e10 _ _ z9
        have lps : ps.length = W.free.length := by rw [sb10.r.r.length]; exact hshp9.len
        obtain ⟨p, hp⟩ := get_lt (xs := ps) (i := ixF W.free m) (by omega)
        have hplace : ∀ {H : Hp} {te : TE} {σ : L2.St} {x : Str}, Same H2 H → x ∈ W.free → σ[4]? = some (some (.ref dP)) → Eva Same te σ H (Is (.str x)) → Eva Same (tDGet (tVar 4) te) σ H (Is (.int ((ixF W.free x : Nat) : Int))) := fun {H te σ x} s hx h4 hk =>
          ev_dget (k := kS x) (ev_var h4) (.inl (s _ _ hdP)) hk ((hpl x).1 hx)
        refine st_set (E := Same) (R := Is (.ref p)) (ev_ixL (i := ((ixF W.free m : Nat) : Int)) (ev_var rfl) (SqL.of sb10.r.d) (fun z => z) (hplace sb10.s hm rfl (ev_var rfl)) (by
          unfold atI
          rw [ixN_nat (by rw [List.length_map]; omega)]
          show (ps.map V.ref)[ixF W.free m]? = _
          rw [List.getElem?_map, hp]; rfl)) (Same.refl _) ?_
        rintro _ H11 e11 rfl
        show tSeq _ _ _ [some v1, some (.int (way : Int)), some (.ref dF), some (.ref fl), some (.ref dP), some (.ref pR), some (.ref ta), some (.str r.one), some (.str r.other), some (.ref sz), some (.int r.wt), some hv, some (.str m), some (.str e), some (.int sg), some (.ref p), o16, o17] H11
        have sb11 := sb10.same e11
        have z11 := e11 _ _ z10
        have hhv9 : ∀ {H : Hp}, Tp H9 H → Rt K (r.wt : Rat) hv H := fun t => MonT.mono ((e8.tp.trans t9).trans t) hhv
        have lrow : (rows9.getD (ixF W.free m) []).length = W.free.length + 1 := hshp9.rl _ hi
        have hil : ixF W.free m < rows9.length := by rw [hshp9.len]; exact hi
        have ib0 : ∀ l, IB 13662 ((rows9.getD (ixF W.free m) []).getD l 0) := fun l => hib9 _ l
        rw [← set_self (rows := rows9) (i := ixF W.free m)] at sb11
        generalize hrow0 : rows9.getD (ixF W.free m) [] = row0 at sb11 lrow ib0
        have hwt : IB 9 (r.wt : Rat) := ⟨r.wt, rfl, by have := rb.w; omega⟩
        have hsI : IB 108 ((sg * r.wt * r.sz way : Int) : Rat) := ⟨_, rfl, by
          rw [Int.natAbs_mul, Int.natAbs_mul]
          have h3 : r.wt.natAbs ≤ 9 := by have := rb.w; omega
          calc sg.natAbs * r.wt.natAbs * (r.sz way).natAbs ≤ 1 * 9 * 12 := Nat.mul_le_mul (Nat.mul_le_mul hsg h3) hsz12
            _ = 108 := rfl⟩
        have t911 : Tp H9 H11 := (e10.trans e11).tp
        -- row[places[mark]] = plus(row[places[mark]], heavy)
        refine st_seq (st_rowadd' (q := (r.wt : Rat)) sb11 hil hp rfl z11 nz (hplace sb11.s hm rfl (ev_var rfl)) (hplace sb11.s hm rfl (ev_var rfl)) (ixN_nat (by omega)) (by omega) (ev_varR rfl (hhv9 t911)) (sm_ib (ib0 _) (by decide)) (sm_ib hwt (by decide)) fun H12 sb12 z12 t12 => ?_)
        have row1 : row0.set (ixF W.free m) (row0.getD (ixF W.free m) 0 + (r.wt : Rat)) = addAt row0 (ixF W.free m) (r.wt : Rat) := rfl
        have ib1 := ib_addAt (k := ixF W.free m) ib0 hwt
        have l1 : (addAt row0 (ixF W.free m) (r.wt : Rat)).length = W.free.length + 1 := by rw [addAt_len]; exact lrow
        rw [row1] at sb12
        generalize hr1 : addAt row0 (ixF W.free m) (r.wt : Rat) = rowA at sb12 ib1 l1
        dsimp only
        -- row[-1] = plus(row[-1], whole(..))
        have hwhole : Eva Same (tCall (spWhole K) [] E0 (tCons (tOp (rI CMulW fun i j => V.int (i * j)) (tOp (rI CMulW fun i j => V.int (i * j)) (tVar 14) (tVar 10)) (tOp (rIxL K) (tVar 9) (tVar 1))) tNil)) [some v1, some (.int (way : Int)), some (.ref dF), some (.ref fl), some (.ref dP), some (.ref pR), some (.ref ta), some (.str r.one), some (.str r.other), some (.ref sz), some (.int r.wt), some hv, some (.str m), some (.str e), some (.int sg), some (.ref p), o16, o17] H12 (Rt K ((sg * r.wt * r.sz way : Int) : Rat)) := by
          have sml : ∀ i : Int, i.natAbs ≤ 108 → i.natAbs < 2 ^ 100000 := fun i hi => Nat.lt_of_le_of_lt hi (Nat.lt_of_lt_of_le (show 108 < 2 ^ 7 by decide) (Nat.pow_le_pow_right (by decide) (by decide)))
          have h3 : r.wt.natAbs ≤ 9 := by have := rb.w; omega
          have hsw : (sg * r.wt).natAbs ≤ 108 := by
            rw [Int.natAbs_mul]
            exact Nat.le_trans (Nat.mul_le_mul hsg h3) (by decide)
          exact ev_whole (ev_I (ev_I (ev_var rfl) (ev_var rfl) (sm_mul (sml _ (by omega)) (sml _ (by omega)))) (ev_ixL (i := (way : Int)) (ev_var rfl) (SqL.of z12) (fun z => z) (ev_var rfl) (sz_at r hw)) (sm_mul (sml _ hsw) (sml _ (by omega))))
        refine st_seq (st_rowadd' (z := -1) (j := W.free.length) (q := ((sg * r.wt * r.sz way : Int) : Rat)) sb12 hil hp rfl z12 nz (ev_U ev_c) (ev_U ev_c) (by rw [l1]; exact ixN_neg1) (by omega) hwhole (sm_ib (ib1 _) (by decide)) (sm_ib hsI (by decide)) fun H13 sb13 z13 t13 => ?_)
        have row2 : rowA.set W.free.length (rowA.getD W.free.length 0 + ((sg * r.wt * r.sz way : Int) : Rat)) = addAt rowA W.free.length ((sg * r.wt * r.sz way : Int) : Rat) := rfl
        have ib2 := ib_addAt (k := W.free.length) ib1 hsI
        have l2 : (addAt rowA W.free.length ((sg * r.wt * r.sz way : Int) : Rat)).length = W.free.length + 1 := by rw [addAt_len]; exact l1
        rw [row2] at sb13
        have hfull : halfRow W.free (fqW W way) (r.wt : Rat) ((sg * r.wt * r.sz way : Int) : Rat) e (ixF W.free m) row0 = if e ∈ W.free then addAt (addAt rowA W.free.length ((sg * r.wt * r.sz way : Int) : Rat)) (ixF W.free e) (-(r.wt : Rat)) else addAt (addAt rowA W.free.length ((sg * r.wt * r.sz way : Int) : Rat)) W.free.length ((r.wt : Rat) * fqW W way e) := by
          unfold halfRow; rw [hr1]
        have hS : halfS W.free (fqW W way) (r.wt : Rat) ((sg * r.wt * r.sz way : Int) : Rat) e m rows9 = rows9.set (ixF W.free m) (halfRow W.free (fqW W way) (r.wt : Rat) ((sg * r.wt * r.sz way : Int) : Rat) e (ixF W.free m) row0) := by
          unfold halfS; rw [if_pos hm, hrow0]
        generalize addAt rowA W.free.length ((sg * r.wt * r.sz way : Int) : Rat) = rowB at sb13 ib2 l2 hfull
        dsimp only
        have tt13 : Tp H9 H13 := (t911.trans t12).trans t13
        -- the other end
        refine st_if (E := Same) (b := decide (e ∈ W.free)) (EvT.is (et_B (ev_din (k := kS e) (ev_var rfl) (ev_var rfl) (.inl (sb13.s _ _ hdP)))) (din e)) (Same.refl _) (fun z H14 e14 => ?_) (fun z H14 e14 => ?_)
        · have he := of_decide_eq_true z
          have sb14 := sb13.same e14
          refine st_rowadd' (q := (r.wt : Rat)) sb14 hil hp rfl (e14 _ _ z13) nz (hplace sb14.s he rfl (ev_var rfl)) (hplace sb14.s he rfl (ev_var rfl)) (ixN_nat (by have := ixF_lt he; omega)) (by have := ixF_lt he; omega) (ev_varR rfl (hhv9 (tt13.trans e14.tp))) (sm_ib (ib2 _) (by decide)) (sm_ib hwt (by decide)) fun H15 sb15 z15 t15 => ?_
          refine ⟨⟨_, _, _, _, _, _, rfl⟩, fin _ ?_, z15, t9.trans ((tt13.trans e14.tp).trans t15)⟩
          rw [hS, hfull, if_pos he]
          unfold addAt
          rw [← Rat.sub_eq_add_neg]
          exact sb15
        · have he := of_decide_eq_false z
          have sb14 := sb13.same e14
          have hex : ∃ q, W.fx e = some q := by
            cases hq : W.fx e with
            | none => exact absurd (Wd.free_mem.mpr ⟨hmf hm, hq⟩) he
            | some q => exact ⟨q, rfl⟩
          obtain ⟨q, hq⟩ := hex
          obtain ⟨fv, hfv, hfr⟩ := fix_val (way := way) ok hkF hq
          have e014 : Same H H14 := e02.trans sb14.s
          refine st_rowadd' (z := -1) (j := W.free.length) (q := (r.wt : Rat) * fqW W way e) sb14 hil hp rfl (e14 _ _ z13) nz (ev_U ev_c) (ev_U ev_c) (by rw [l2]; exact ixN_neg1) (by omega) (ev_R2 (ev_varR rfl (hhv9 (tt13.trans e14.tp))) (Eva.imp (ev_dget (k := kS e) (ev_var rfl) (e014.wk.dic _ _ hdF) (ev_var rfl) hfv) fun v H' e' r' => by rw [show v = fv from r']; exact MonW.mono (e014.trans e').wk hfr) (sm_ib hwt (by decide)) (sm_ib ((fqW_b ok way).b e) (by decide))) (sm_ib (ib2 _) (by decide)) (sm_ib (hwt.mul ((fqW_b ok way).b e)) (by decide)) fun H15 sb15 z15 t15 => ?_
          refine ⟨⟨_, _, _, _, _, _, rfl⟩, fin _ ?_, z15, t9.trans ((tt13.trans e14.tp).trans t15)⟩
          rw [hS, hfull, if_neg he]
          exact sb15
      · have hm := of_decide_eq_false z
        refine ⟨⟨_, _, _, _, _, _, rfl⟩, fin _ ?_, e10 _ _ z9, t9.trans e10.tp⟩
        unfold halfS
        rw [if_neg hm]
        exact sb9.same e10
    · rintro σ H9 ⟨⟨o12, o13, o14, o15, o16, o17, rfl⟩, sb9, _, _⟩
      refine ⟨⟨_, _, _, _, _, _, _, _, _, _, _, _, rfl⟩, ?_⟩
      have : sumRows W.free (fqW W way) way (W.rds.take (i + 1)) = rowsJ W.free (fqW W way) way r rws 2 := by
        rw [← hrows]
        unfold sumRows
        rw [List.take_succ, hr, List.foldl_append]
        rfl
      rw [this]
      exact sb9
  · rintro σ' H5 ⟨⟨o6, o7, o8, o9, o10, o11, o12, o13, o14, o15, o16, o17, rfl⟩, sb5⟩
    rw [List.take_of_length_le (by rw [hB4.length]; exact Nat.le_refl _)] at sb5
    refine ⟨_, rfl, k _ _ (e02.trans sb5.s) ⟨pR, ps.map V.ref, rfl, sb5.r.d, ?_⟩⟩
    exact pimp (fun _ _ r => r.1) sb5.r.out.2
end
end Gm

set_option maxHeartbeats 4000000
namespace Gm
open PySem PySem.Spec PyProof.Rows L2
section
variable {K : PySem.W.Frag} {σ : L2.St} {H H' : Hp} {te ta tb tk tv : TE} {R : V → Hp → Prop}
/-- a dict comprehension's dict is new -/
theorem ev_dcN {wi : TI} {n : Nat} {Y : Nat → V → Hp → Prop} {g : TG} {tt : TT} {own : List Nat} (hI : EvI Same wi σ H n Y) (hn : n ≤ 100000) (kk : Nat → Key) (R : Nat → V → Hp → Prop) [hR : ∀ i, MonT (R i)]
    (dis : ∀ i j, i < n → j < n → kk i = kk j → i = j)
    (step : ∀ i x H', i < n → Same H H' → Y i x H' → ∃ σ2, TgOk g x (wipe σ own) H' σ2 ∧ wipe σ2 own = wipe σ own ∧ EvT Same tt σ2 H' true ∧ Eva Same tk σ2 H' (Is (kV (kk i))) ∧ Eva Same tv σ2 H' (R i)) :
    EvaN (tDc wi g tt tk tv own) σ H (fun v H' => ∃ D ys, v = .ref D ∧ H' D = some (.dK ys) ∧ Paired (fun y i => y.1 = kk i ∧ R i y.2 H') ys (List.range n)) := fun H1 e Q q =>
  hI H1 e _ fun J H2 e2 jk D hD => by
    have e12 := e.trans e2
    refine ⟨fun i m H' => m = n - i ∧ i ≤ n ∧ Same H2 H' ∧ ∃ acc, H' D = some (.dK acc) ∧ Paired (fun y i => y.1 = kk i ∧ R i y.2 H') acc (List.range i), ⟨n, by simp, Nat.zero_le _, Same.new hD, [], upd_same, .nil⟩, ?_⟩
    rintro i m H' ⟨rfl, hi, e3, acc, ha, hp⟩
    by_cases hlt : i < n
    · refine .inr ⟨((jk H' e3).2 i hlt).1, fun H'' => i + 1 ≤ n ∧ Same H2 H'' ∧ ∃ acc, H'' D = some (.dK acc) ∧ Paired (fun y i => y.1 = kk i ∧ R i y.2 H'') acc (List.range (i + 1)), fun H'' w => ⟨n - (i + 1), by omega, rfl, w⟩, fun x H4 y => ?_⟩
      obtain ⟨e4, yx⟩ := ((jk H' e3).2 i hlt).2 x H4 y
      have e24 := e3.trans e4
      obtain ⟨σ2, tg, hw, hb, hk, hv⟩ := step i x H4 hlt (e12.trans e24) yx
      refine tg _ ⟨hw, hb H4 (Same.refl _) _ fun H5 e5 => ?_⟩
      have e25 := e24.trans e5
      have ha5 : H5 D = some (.dK acc) := (e4.trans e5) _ _ ha
      have hp5 := pimp (fun (y : Key × V) i (r : y.1 = kk i ∧ R i y.2 H') => (⟨r.1, MonT.mono (e4.trans e5).tp r.2⟩ : y.1 = kk i ∧ R i y.2 H5)) hp
      have hlen : acc.length ≤ i := by rw [hp.length, List.length_range]; exact Nat.le_refl _
      refine iteT (hk H5 e5 _ fun y6 H6 e6 ry => hv H6 (e5.trans e6) _ fun y H7 e7 rv => ?_)
      have e57 := e6.trans e7
      have ha7 : H7 D = some (.dK acc) := e57 _ _ ha5
      refine ⟨acc, kk i, ry, ha7, Nat.lt_of_le_of_lt (Nat.le_trans hlen (Nat.le_trans hi hn)) (by decide), hlt, Same.mut (e25.trans e57) hD, putK acc (kk i) y, upd_same, ?_⟩
      have hnew : valV acc (kk i) = none := valV_none fun p hpm => by
        obtain ⟨j, hj, ej, _⟩ := paired_mem hp5 hpm
        rw [ej]
        intro z
        have hj1 := List.mem_range.mp hj
        have := dis j i (by omega) hlt z
        omega
      rw [putK_new y hnew, List.range_succ]
      have w7 := Wk.putD (o := .dK (acc ++ [(kk i, y)])) ha7
      refine papp (pimp (fun (y : Key × V) i (r : y.1 = kk i ∧ R i y.2 H5) => ⟨r.1, MonT.mono (fun a xs h => w7 _ _ (e57.tp _ _ h)) r.2⟩) hp5) (.cons ⟨rfl, MonT.mono w7 rv⟩ .nil)
    · have en : i = n := by omega
      subst en
      exact .inl ⟨(jk H' e3).1, q _ H' (e2.trans e3) (e2.free hD) ⟨D, acc, rfl, ha, hp⟩⟩
/-- over the items of a dict that an expression makes -/
theorem ei_itemsF {κ α : Type} {key : κ → Key} {R : α → V → Hp → Prop} [∀ a, MonT (R a)] {xs : List (κ × α)} (h : EvaN te σ H (DcX key R xs)) :
    EvI Same (iItems (tFreeze te)) σ H xs.length (fun i x H' => ∃ c u, xs[i]? = some c ∧ TupV K [kV (key c.1), u] x H' ∧ R c.2 u H') := fun H1 e Q r =>
  ev_freeze (S := Dc key R xs) h (fun d H1 ⟨d', kvs', ed, h1, h2⟩ => by cases ed; exact ⟨kvs', h1, h2⟩) H1 e _ fun v H2 e2 ⟨d, kvs, od, H0, ev, hd, s, w⟩ => by
    refine ⟨d, od, kvs, ev, hd, r _ H2 e2 fun H3 e3 => ?_⟩
    have h3 := e3 _ _ hd
    have hl : xs.length = kvs.length := s.length.symm
    refine ⟨⟨h3, by rw [hl]; exact Nat.le_refl _⟩, fun i hi => ⟨⟨h3, by omega⟩, fun x H' yy => ?_⟩⟩
    obtain ⟨T, k, v', hk, ex, hT, e4⟩ := yy
    subst e4
    obtain ⟨c, hc, rk, rv⟩ := pget s hk
    have rk : k = key c.1 := rk
    subst rk
    refine ⟨Same.new hT, c, v', hc, ⟨T, ex, SqT.of upd_same⟩, MonT.mono (fun a xs h => (Same.new hT).tp _ _ (e3.tp _ _ (w.tup _ _ h))) rv⟩
end
section
variable {K : PySem.W.Frag} {σ : L2.St} {H H' : Hp} {tl : TA} {RA : List V → Hp → Prop}
/-- a for over zip of two lists -/
theorem st_forZ {g : TG} {tb : TS} {D : Ends} (h : EvA Same tl σ H RA)
    (k : ∀ vs H1, Same H H1 → RA vs H1 → ∃ a b xs ys, vs = [.ref a, .ref b] ∧ SqL K H1 a xs ∧ SqL K H1 b ys ∧ xs.length = ys.length ∧ ∃ Pv : Nat → L2.St → Hp → Prop, Pv 0 σ H1 ∧ (∀ i σ H, i ≤ xs.length → Pv i σ H → SqL K H a xs ∧ SqL K H b ys) ∧
      (∀ i x y t σ H H', xs[i]? = some x → ys[i]? = some y → Pv i σ H → Same H H' → TupV K [x, y] t H' → g t σ H' fun σ2 H2 => tb { D with nx := Pv (i + 1), ct := Pv (i + 1), bk := D.nx } σ2 H2) ∧ (∀ σ H, Pv xs.length σ H → D.nx σ H)) : tFor (iZip K tl) g tb D σ H :=
  h H (Same.refl _) _ fun vs H1 e1 r => by
    obtain ⟨a, b, xs, ys, ev, h1, h2, hl, Pv, h0, hq, hst, hd⟩ := k vs H1 e1 r
    refine ⟨a, b, xs, ys, ev, h1, h2, for_it (walk_zip (K := K) (a := a) (b := b) (xs := xs) (ys := ys) (n := xs.length) (by rw [hl, Nat.min_self])) Pv h0 hq ?_ hd⟩
    rintro i x σ H H' hi p ⟨T, y1, y2, rfl, hT, rfl, hy1, hy2⟩
    exact hst i y1 y2 _ σ H _ hy1 hy2 p (Same.new hT) ⟨T, rfl, SqT.of upd_same⟩
end
theorem range_filter_getD' {α β : Type} {d : α} (p : α → Bool) (f : α → β) (xs : List α) : ((List.range xs.length).filter (fun i => p (xs.getD i d))).map (fun i => f (xs.getD i d)) = (xs.filter p).map f :=
  @range_filter_getD α β ⟨d⟩ p f xs
theorem paired_mapR {α β γ : Type} {F : α → β → Prop} {G : α → γ → Prop} {f : β → γ} (h : ∀ a b, F a b → G a (f b)) : ∀ {l : List α} {m : List β}, Paired F l m → Paired G l (m.map f)
  | _, _, .nil => .nil
  | _, _, .cons r t => .cons (h _ _ r) (paired_mapR h t)
/-! ### placed one way -/
theorem rowsW_len (W : Wd) (way : Nat) : (rowsW W way).length = W.free.length := (sumRows_shp _ _ _ _).len
theorem good_rowsW {W : Wd} (ok : W.Ok) (way : Nat) : Good (rowsW W way) := by
  have e := rowsW_len W way
  refine ⟨by rw [e]; exact free_len7 ok, by rw [e]; exact sumRows_shp _ _ _ _, by rw [e]; exact rowsW_nonS ok way, fun k j _ _ => rowsW_nq ok way k j⟩
theorem solves_sol {W : Wd} {way : Nat} {xs : List Rat} (h : Solves (rowsW W way) xs) : SolW W way (fun j => xs.getD j 0) := by
  have h2 := h.2
  rw [rowsW_len] at h2
  exact h2
noncomputable def pwL (W : Wd) (way : Nat) (s : Nat → Rat) (i : Nat) : List (Str × Rat) := fixL W way ++ (W.free.take i).map fun m => (m, posW W way s m)
theorem fixL_eq {W : Wd} (ok : W.Ok) (way : Nat) : fixL W way = (W.mks.filter fun x => x.2.isSome).map fun x => (x.1, fqW W way x.1) := by
  unfold fixL
  have key : ∀ l : List (Str × Option (Int × Int)), (∀ x ∈ l, x ∈ W.mks) → (l.filterMap fun x => x.2.map fun p => (x.1, ((if way = 0 then p.1 else p.2 : Int) : Rat))) = (l.filter fun x => x.2.isSome).map fun x => (x.1, fqW W way x.1) := by
    intro l
    induction l with
    | nil => intro _; rfl
    | cons a l ih =>
      intro h
      obtain ⟨m, o⟩ := a
      have ih := ih fun x hx => h x (List.mem_cons_of_mem _ hx)
      cases o with
      | none => rw [List.filterMap_cons, List.filter_cons]; exact ih
      | some p =>
        have hf := Wd.fx_mem ok (h _ List.mem_cons_self)
        rw [List.filterMap_cons, List.filter_cons]
        show (m, _) :: _ = List.map _ ((m, some p) :: _)
        rw [List.map_cons, ih]
        congr 1
        show (m, _) = (m, fqW W way m)
        unfold fqW; rw [hf]
  exact key _ fun x hx => hx
theorem pwL_keys {W : Wd} (ok : W.Ok) (way : Nat) (s : Nat → Rat) : ((pwL W way s W.free.length).map (·.1)).Perm W.hung := by
  have e : (pwL W way s W.free.length).map (·.1) = (fixL W way).map (·.1) ++ W.free := by
    unfold pwL
    rw [List.take_length, List.map_append, List.map_map]
    congr 1
    exact List.map_id' _
  rw [e]
  have nd1 : ((fixL W way).map (·.1)).Nodup := by
    rw [fixL_eq ok, List.map_map]
    have : (W.mks.filter fun x => x.2.isSome).map ((fun x : Str × Rat => x.1) ∘ fun x => (x.1, fqW W way x.1)) = (W.mks.filter fun x => x.2.isSome).map (·.1) := rfl
    rw [this]
    exact (List.filter_sublist.map _).nodup ok.nd
  have hfix : ∀ m, m ∈ (fixL W way).map (·.1) ↔ ∃ p, W.fx m = some p := fun m => by
    constructor
    · intro h
      obtain ⟨x, hx, rfl⟩ := List.mem_map.mp h
      exact (fixL_mem ok hx).2
    · rintro ⟨p, hp⟩; exact fixL_has hp
  refine (List.perm_ext_iff_of_nodup ?_ (Wd.hung_nodup ok)).mpr fun m => ?_
  · rw [List.nodup_append]
    refine ⟨nd1, Wd.free_nodup ok, fun a ha b hb z => ?_⟩
    subst z
    obtain ⟨p, hp⟩ := (hfix a).mp ha
    rw [(Wd.free_mem.mp hb).2] at hp; cases hp
  · rw [List.mem_append, hfix]
    constructor
    · rintro (⟨p, hp⟩ | h)
      · have := fx_some_mem hp
        exact Wd.hung_mem.mpr ⟨List.mem_map.mpr ⟨_, this, rfl⟩, .fix this⟩
      · exact (Wd.free_mem.mp h).1
    · intro h
      cases e : W.fx m with
      | none => exact .inr (Wd.free_mem.mpr ⟨h, e⟩)
      | some p => exact .inl ⟨p, rfl⟩
theorem pwL_val {W : Wd} (ok : W.Ok) {way : Nat} {s : Nat → Rat} {x : Str × Rat} (h : x ∈ pwL W way s W.free.length) : x.2 = posW W way s x.1 := by
  unfold pwL at h
  rcases List.mem_append.mp h with h | h
  · obtain ⟨e, p, hp⟩ := fixL_mem ok h
    have : x.1 ∉ W.free := fun z => by rw [(Wd.free_mem.mp z).2] at hp; cases hp
    unfold posW; rw [if_neg this]; exact e
  · obtain ⟨m, hm, rfl⟩ := List.mem_map.mp h; rfl
def SvV (K : PySem.W.Frag) (rows : List (List Rat)) : V → Hp → Prop := fun v H => ∃ xs, RwV K xs v H ∧ Solves rows xs
instance {K : PySem.W.Frag} {rows : List (List Rat)} : MonL (SvV K rows) := ⟨fun w ⟨xs, h, s⟩ => ⟨xs, MonL.mono w h, s⟩⟩
section
variable {P : Program} {w : World} {K : PySem.W.Frag} {mg : Str → Option Value} {base : Heap} {aN : Addr} {uM uW uL : Value} {C fI fM fR fN fH : Addr} {fdM fdR fdN fdH : FuncData}
noncomputable def spPW (K : PySem.W.Frag) (C : Addr) : Sp := SpN (α := Wd × Nat) (fun x vs H => (∃ u, vs = [u, .int (x.2 : Int)] ∧ SurV K C x.1 u H) ∧ x.1.Ok ∧ x.2 < 2) (fun x v H => ∃ s, SolW x.1 x.2 s ∧ DcX kS (Rt K) (pwL x.1 x.2 s x.1.free.length) v H)
theorem ev_sums {σ : L2.St} {H : Hp} {ta tb tc : TE} {X : XK} {W : Wd} {way : Nat} (ha : Eva Same ta σ H (SurV K C W)) (hb : Eva Same tb σ H (Is (.int (way : Int)))) (hc : Eva Same tc σ H (DcV kS (Rt K) (fixL W way))) (ok : W.Ok) (hw : way < 2) :
    Eva Same (tCall (spSums K C) [] X (tCons ta (tCons tb (tCons tc tNil)))) σ H (RwsV K (rowsW W way)) := by
  refine ev_G (α := Wd × Nat) (W, way) (ea_cons ha (ea_cons hb (ea_cons hc ea_nil))) ?_
  rintro vs H' _ ⟨v, r', rfl, hv, v', r'', rfl, hv', v2, r2, rfl, hv2, rfl⟩
  exact ⟨⟨v, v2, by rw [show v' = _ from hv'], hv, hv2⟩, ok, hw⟩
theorem ev_solved {σ : L2.St} {H : Hp} {ta : TE} {X : XK} {rows : List (List Rat)} (ha : Eva Same ta σ H (RwsV K rows)) (g : Good rows) : Eva Same (tCall (spSolved K) [] X (tCons ta tNil)) σ H (SvV K rows) := by
  refine ev_G (α := List (List Rat)) rows (ea_cons ha ea_nil) ?_
  rintro vs H' _ ⟨v, r', rfl, hv, rfl⟩
  exact ⟨⟨v, rfl, hv⟩, g⟩
theorem ok_placed_way (D : DefAt K mg "placed_way" s_placed_way) (U : Uni K mg aN uM uW uL) (Z : Mts P w K mg base C fI fM fR fN fH fdM fdR fdN fdH) (c_free_marks : Cal P w K mg base 2 "free_marks" ["survey"] (spFree K C)) (c_whole : Cal P w K mg base 1 "whole" ["number"] (spWhole K))
    (c_sums_of : Cal P w K mg base 4 "sums_of" ["survey", "way", "fixed"] (spSums K C)) (c_solved : Cal P w K mg base 5 "solved" ["rows"] (spSolved K)) : Cal P w K mg base 6 "placed_way" ["survey", "way"] (spPW K C) := by
  refine D.cal 5 sc_placed_way (fun _ _ _ _ _ _ us hl => match us, hl with | [_, _], _ => rfl) (fun vs H Q E h => ?_) (fun f cdv A outer s H vs Q E hr h => ?_)
  · obtain ⟨x, ⟨⟨_, rfl, _⟩, _⟩, _⟩ := h; rfl
  obtain ⟨⟨W, way⟩, ⟨⟨v1, rfl, hs⟩, ok, hw⟩, k⟩ := h
  have hs : SurV K C W v1 H := hs
  have ok : W.Ok := ok
  have hw : way < 2 := hw
  obtain ⟨M, c_Survey_marks, c_Survey_readings, c_Survey_names, c_Survey_hangs⟩ := Z
  have ndF := Wd.free_nodup ok
  have l7 := free_len7 ok
  have l8 := ok.len
  refine ⟨_, (pss_cons (ps_setDc (i := 2) (own := [("name", 5), ("at", 7)]) (g := (gTup K 2 (gCons (gName 5) (gCons (gName 7) gNil)))) rfl sc_placed_way.nd rfl rfl (swd_true rfl rfl rfl (by decide +kernel)) (pi_items (pe_freeze (pe_meth0 (pv 0) M.cl M.marks c_Survey_marks.F (hr.mono (by decide)) c_Survey_marks.b .nil pass0))) (blkOk_by (N := n_placed_way) (sc := defScope s_placed_way) (own := [("name", 5), ("at", 7)]) (by decide +kernel)) (fun _ _ _ _ _ => (pg_tup rfl (pgs_cons (pg_name (i := 5) sc_placed_way.nd rfl (Or.inl rfl)) (pgs_cons (pg_name (i := 7) sc_placed_way.nd rfl (Or.inl rfl)) pgs_nil)))) (fun _ _ _ _ _ => pts_one (pt_cmpR op_notN (pv 7) pe_non (nomark _))) (fun _ _ _ _ _ => (pv 5)) (fun _ _ _ _ _ => (c_whole.call (hr.mono (by decide)) (by rfl) (pa_cons (pe_ix (ix_tupK (K := K) rfl) (pv 7) (pv 1) (fun _ _ => rfl)) pa_nil))))
      (pss_cons (ps_set (i := 3) sc_placed_way.nd rfl (Or.inl rfl) (pe_callTy call_dictD (by rfl) U.dict (by decide +kernel) (pa_cons (pv 2) pa_nil)))
      (pss_cons (ps_set (i := 4) sc_placed_way.nd rfl (Or.inl rfl) (c_free_marks.call (hr.mono (by decide)) (by rfl) (pa_cons (pv 0) pa_nil)))
      (pss_cons (ps_for PassesOwn.never rfl (pi_zip (by rfl) U.zip (pa_cons (pv 4) (pa_cons (c_solved.call (hr.mono (by decide)) (by rfl) (pa_cons (c_sums_of.call (hr.mono (by decide)) (by rfl) (pa_cons (pv 0) (pa_cons (pv 1) (pa_cons (pv 2) pa_nil)))) pa_nil)) pa_nil))) (pg_tup rfl (pgs_cons (pg_name (i := 5) sc_placed_way.nd rfl (Or.inl rfl)) (pgs_cons (pg_name (i := 6) sc_placed_way.nd rfl (Or.inl rfl)) pgs_nil))) (pss_one (ps_dput (hu_of hr) (pv 3) (pv 5) (pv 6) rfl)))
      (pss_one (ps_ret (pv 3))))))), ?_⟩
  -- fixed
  refine st_set (E := Same) (ev_dc (E := Same) (n := W.mks.length) (R := fun i => Rt K (fqW W way (W.mks.getD i (default, none)).1)) (kk := fun i => kS (W.mks.getD i (default, none)).1) (b := fun i => (W.mks.getD i (default, none)).2.isSome)
    (ei_itemsF (K := K) (ev_marks (ev_var rfl) hs)) (by omega) ?_ ?_) (Same.refl _) ?_
  · intro i j hi hj _ _ e
    have e := Sum.inr.inj e
    have g1 : W.names[i]? = some (W.mks.getD i (default, none)).1 := by unfold Wd.names; rw [List.getElem?_map, getD_lt _ hi]; rfl
    have g2 : W.names[j]? = some (W.mks.getD j (default, none)).1 := by unfold Wd.names; rw [List.getElem?_map, getD_lt _ hj]; rfl
    exact nd_ix ok.nd (by rw [← e]; exact g1) g2
  · rintro i x H' hi e ⟨c, u, hc, hT, hu⟩
    rw [getD_lt (default, none) hi] at hc
    cases hc
    have hmem : W.mks.getD i (default, none) ∈ W.mks := List.mem_of_getElem? (getD_lt _ hi)
    generalize W.mks.getD i (default, none) = c at hT hu hmem
    obtain ⟨m, o⟩ := c
    refine ⟨_, tg_tup hT rfl (fun Q q => ⟨_, _, rfl, _, _, rfl, rfl, q⟩), rfl, EvT.is (et_test (ev_notN (ev_var rfl))) ?_, fun z => ⟨ev_var rfl, ?_⟩⟩
    · cases o with
      | none => cases (show u = .non from hu); rfl
      | some q => obtain ⟨a, rfl, _⟩ := (show TupV K _ u H' from hu); rfl
    · cases o with
      | none => cases z
      | some q =>
        have hq : TupV K [.int q.1, .int q.2] u H' := hu
        have hf := Wd.fx_mem ok hmem
        have ef : fqW W way m = ((if way = 0 then q.1 else q.2 : Int) : Rat) := by unfold fqW; rw [hf]
        show Eva Same _ _ H' (Rt K (fqW W way m))
        rw [ef]
        refine ev_whole (ev_ixT (i := (way : Int)) (ev_varR rfl hq) (ev_var rfl) ?_)
        have := sz_at ⟨m, m, q.1, q.2, 0⟩ hw
        exact this
  rintro _ H1 e1 ⟨dF, kF, rfl, hdF, hkF, _⟩
  have hkF : Dc kS (Rt K) (fixL W way) kF H1 := by
    rw [fixL_eq ok]
    have := range_filter_getD' (d := ((default : Str), (none : Option (Int × Int)))) (fun x : Str × Option (Int × Int) => x.2.isSome) (fun x => (x.1, fqW W way x.1)) W.mks
    rw [← this]
    exact paired_mapR (f := fun i => ((W.mks.getD i (default, none)).1, fqW W way (W.mks.getD i (default, none)).1)) (fun y i (r : y.1 = kS (W.mks.getD i (default, none)).1 ∧ Rt K (fqW W way (W.mks.getD i (default, none)).1) y.2 H1) => r) hkF
  -- found
  refine st_setN (ev_dictD (ev_var rfl) (.inl hdF)) ?_
  rintro p H2 e2 np ⟨_, ed, hp⟩
  cases ed
  refine st_set (E := Same) (ev_free (ev_varR rfl (MonW.mono (e1.trans e2).wk hs)) ok) (Same.refl _) ?_
  rintro _ H3 e3 ⟨fl, rfl, hfl⟩
  have e13 := e2.trans e3
  refine st_seq ?_
  refine st_forZ (ea_cons (E := Same) (R := Is (.ref fl)) (ev_var rfl) (ea_cons (ev_solved (ev_sums (ev_varR rfl (MonW.mono (e1.trans e13).wk hs)) (ev_var rfl) (ev_varR (R := DcV kS (Rt K) (fixL W way)) rfl ⟨dF, kF, rfl, .inl (e13 _ _ hdF), hkF.mono e13.tp⟩) ok hw) (good_rowsW ok way)) ea_nil)) fun vs H4 e4 ra => ?_
  obtain ⟨_, _, rfl, rfl, _, _, rfl, ⟨xs, ⟨xl, us, rfl, hxl, hus⟩, hsol⟩, rfl⟩ := ra
  have lxs : xs.length = W.free.length := by rw [hsol.1, rowsW_len]
  have lus : us.length = W.free.length := by rw [hus.length, lxs]
  have hsw := solves_sol hsol
  have pne : ∀ {H : Hp} {a : Addr} {l : List V} {kk : List (Key × V)}, H p = some (.dK kk) → H a = some (.lst l) → a ≠ p := fun h1 h2 => ne_of h2 h1 (fun z => nomatch z)
  refine ⟨fl, xl, W.free.map V.str, us, rfl, SqL.of (e4 _ _ hfl), SqL.of hxl, by rw [List.length_map, lus],
    (fun i σ H5 => (∃ o5 o6 o7, σ = [some v1, some (.int (way : Int)), some (.ref dF), some (.ref p), some (.ref fl), o5, o6, o7]) ∧ Same H1 H5 ∧ H5 fl = some (.lst (W.free.map V.str)) ∧ H5 xl = some (.lst us) ∧ Tp H4 H5 ∧ ∃ kk, H5 p = some (.dK kk) ∧ Dc kS (Rt K) (pwL W way (fun j => xs.getD j 0) i) kk H5),
    ⟨⟨none, none, none, rfl⟩, e13.trans e4, e4 _ _ hfl, hxl, Tp.refl _, kF, e4 _ _ (e3 _ _ hp), ?_⟩, (fun i σ H5 _ q => ⟨SqL.of q.2.2.1, SqL.of q.2.2.2.1⟩), ?_, ?_⟩
  · have : pwL W way (fun j => xs.getD j 0) 0 = fixL W way := by unfold pwL; rw [List.take_zero, List.map_nil, List.append_nil]
    rw [this]; exact hkF.mono (e13.trans e4).tp
  · rintro i y1 y2 t σ H5 H6 hy1 hy2 ⟨⟨o5, o6, o7, rfl⟩, s5, fl5, xl5, t5, kk, p5, dc5⟩ e56 hTT
    have hi : i < W.free.length := by
      have := (List.getElem?_eq_some_iff.mp hy1).1
      rw [List.length_map] at this; exact this
    rw [List.getElem?_map, getD_lt (default : Str) hi] at hy1
    have hy1 := Option.some.inj hy1
    subst hy1
    have hgm := getD_lt (default : Str) hi
    have hmF : W.free.getD i default ∈ W.free := List.mem_of_getElem? hgm
    have hix : ixF W.free (W.free.getD i default) = i := ixF_of ndF hgm
    obtain ⟨q, hq, hqr⟩ := pget hus hy2
    rw [getD_lt 0 (by omega)] at hq
    cases hq
    refine tg_tup (σ2 := [some v1, some (.int (way : Int)), some (.ref dF), some (.ref p), some (.ref fl), some (.str (W.free.getD i default)), some y2, o7]) hTT rfl (fun Q q => ⟨_, _, rfl, _, _, rfl, rfl, q⟩) _ ?_
    have hlen : kk.length < sizeLine := by
      rw [dc5.length]
      have h1 := fixL_eq ok way
      have h2 : (fixL W way).length ≤ 8 := by
        rw [h1, List.length_map]; exact Nat.le_trans (List.length_filter_le _ _) l8
      unfold pwL
      rw [List.length_append, List.length_map, List.length_take]
      exact Nat.lt_of_le_of_lt (show _ ≤ 20 by omega) (by decide)
    have hqr6 : Rt K (xs.getD i 0) y2 H6 := MonT.mono (t5.trans e56.tp) hqr
    refine st_dput (R := Rt K (xs.getD i 0)) (k := kS (W.free.getD i default)) (ev_varR rfl hqr6) rfl (ev_var rfl) (e56 _ _ p5) hlen fun v H7 e7 hv => ?_
    have e57 := e56.trans e7
    have p7 := e57 _ _ p5
    have hnew : valV kk (kS (W.free.getD i default)) = none := valV_none fun b hb => by
      obtain ⟨c, hc, ec, _⟩ := paired_mem dc5 hb
      rw [ec]
      intro z
      have z := Sum.inr.inj z
      unfold pwL at hc
      rcases List.mem_append.mp hc with hc | hc
      · obtain ⟨_, p', hp'⟩ := fixL_mem ok hc
        rw [z, (Wd.free_mem.mp hmF).2] at hp'; cases hp'
      · obtain ⟨m, hm, rfl⟩ := List.mem_map.mp hc
        have z : m = W.free.getD i default := z
        obtain ⟨j, hj⟩ := List.getElem?_of_mem hm
        have hji : j < i := by
          have := (List.getElem?_eq_some_iff.mp hj).1
          rw [List.length_take] at this; omega
        rw [List.getElem?_take_of_lt hji, z] at hj
        have := nd_ix ndF hj hgm
        omega
    have tp7 : Tp H7 (upd H7 p (.dK (putK kk (kS (W.free.getD i default)) v))) := Tp.putD p7
    refine ⟨⟨_, _, _, rfl⟩, Same.mut (s5.trans e57) np, ?_, ?_, (t5.trans e57.tp).trans tp7, _, upd_same, ?_⟩
    · rw [upd_ne (pne p5 fl5)]; exact e57 _ _ fl5
    · rw [upd_ne (pne p5 xl5)]; exact e57 _ _ xl5
    · have : pwL W way (fun j => xs.getD j 0) (i + 1) = pwL W way (fun j => xs.getD j 0) i ++ [(W.free.getD i default, xs.getD i 0)] := by
        unfold pwL
        rw [List.take_succ, hgm, List.map_append, ← List.append_assoc]
        congr 1
        show [(W.free.getD i default, posW W way (fun j => xs.getD j 0) (W.free.getD i default))] = _
        unfold posW
        rw [if_pos hmF, hix]
      rw [this]
      rw [putK_new v hnew] at tp7 ⊢
      exact papp ((dc5.mono e57.tp).mono tp7) (.cons ⟨rfl, MonT.mono tp7 hv⟩ .nil)
  · rintro σ H5 ⟨⟨o5, o6, o7, rfl⟩, s5, _, _, _, kk, p5, dc5⟩
    rw [List.length_map] at dc5
    exact ⟨_, rfl, k p H5 (e1.trans s5) (e1.free np) ⟨_, hsw, p, kk, rfl, p5, dc5⟩⟩
end
end Gm

set_option maxHeartbeats 4000000
namespace Gm
open PySem PySem.Spec PyProof.Rows L2
section
variable {P : Program} {w : World} {K : PySem.W.Frag} {mg : Str → Option Value} {base : Heap} {aN : Addr} {uM uW uL : Value} {C fI fM fR fN fH : Addr} {fdM fdR fdN fdH : FuncData}
noncomputable def spAdj (K : PySem.W.Frag) (C : Addr) : Sp := SpN (α := Wd) (PreSur K C) (fun W v H => ∃ pl, AdjP W pl ∧ PlX K pl v H)
theorem en_pw {σ : L2.St} {H : Hp} {ta tb : TE} {X : XK} {W : Wd} {way : Nat} (ha : Eva Same ta σ H (SurV K C W)) (hb : Eva Same tb σ H (Is (.int (way : Int)))) (ok : W.Ok) (hw : way < 2) :
    EvaN (tCall (spPW K C) [] X (tCons ta (tCons tb tNil))) σ H (fun v H => ∃ s, SolW W way s ∧ DcX kS (Rt K) (pwL W way s W.free.length) v H) := by
  refine en_N (α := Wd × Nat) (W, way) (ea_cons ha (ea_cons hb ea_nil)) ?_
  rintro vs H' _ ⟨v, r', rfl, hv, v', r'', rfl, hv', rfl⟩
  exact ⟨⟨v, by rw [show v' = _ from hv'], hv⟩, ok, hw⟩
theorem pw_look {H : Hp} {W : Wd} {way : Nat} {s : Nat → Rat} {kvs : List (Key × V)} {m : Str} (ok : W.Ok) (h : Dc kS (Rt K) (pwL W way s W.free.length) kvs H) (hm : m ∈ W.hung) : ∃ v, valV kvs (kS m) = some v ∧ Rt K (posW W way s m) v H := by
  have hk : m ∈ (pwL W way s W.free.length).map (·.1) := (pwL_keys ok way s).mem_iff.mpr hm
  obtain ⟨x, v, hx, e, hv, hr, _⟩ := h.has inr_inj hk
  have := pwL_val ok hx
  rw [this, e] at hr
  exact ⟨v, hv, hr⟩
theorem ok_adjusted (D : DefAt K mg "adjusted" s_adjusted) (U : Uni K mg aN uM uW uL) (c_placed_way : Cal P w K mg base 6 "placed_way" ["survey", "way"] (spPW K C)) : Cal P w K mg base 7 "adjusted" ["survey"] (spAdj K C) := by
  refine D.cal 6 sc_adjusted (fun _ _ _ _ _ _ us hl => match us, hl with | [_], _ => rfl) (fun vs H Q E h => ?_) (fun f cdv A outer s H vs Q E hr h => ?_)
  · obtain ⟨x, ⟨⟨_, rfl, _⟩, _⟩, _⟩ := h; rfl
  obtain ⟨W, ⟨⟨v1, rfl, hs⟩, ok⟩, k⟩ := h
  have l8 := Wd.hung_len ok
  refine ⟨_, (pss_cons (ps_set (i := 1) sc_adjusted.nd rfl (Or.inr rfl) (c_placed_way.call (hr.mono (by decide)) (by rfl) (pa_cons (pv 0) (pa_cons pe_int pa_nil))))
      (pss_cons (ps_set (i := 2) sc_adjusted.nd rfl (Or.inr rfl) (c_placed_way.call (hr.mono (by decide)) (by rfl) (pa_cons (pv 0) (pa_cons pe_int pa_nil))))
      (pss_one (ps_ret (pe_dc (own := [("name", 3)]) (g := (gName 3)) rfl sc_adjusted.nd (pi_list (pe_callB (call_sortedD rfl) (by rfl) U.sorted (by decide +kernel) (pa_cons (pv 1) pa_nil))) (blkOk_by (N := n_adjusted) (sc := defScope s_adjusted) (own := [("name", 3)]) (by decide +kernel)) (fun _ _ _ _ _ => (pg_name (i := 3) sc_adjusted.nd rfl (Or.inl rfl))) (fun _ _ _ _ _ => pts_nil) (fun _ _ _ _ _ => (pv 3)) (fun _ _ _ _ _ => (pe_tup (pa_cons (pe_dget (hu_of hr) (pv 1) (pv 3) (fun _ _ => rfl)) (pa_cons (pe_dget (hu_of hr) (pv 2) (pv 3) (fun _ _ => rfl)) pa_nil))))))))), ?_⟩
  refine st_setN (en_pw (way := 0) (ev_varR rfl hs) ev_c ok (by decide)) ?_
  rintro dA H1 e1 nA ⟨s0, hs0, _, kA, ed, hdA, hkA⟩
  cases ed
  refine st_setN (en_pw (way := 1) (ev_varR rfl (MonW.mono e1.wk hs)) ev_c ok (by decide)) ?_
  rintro dU H2 e2 nU ⟨s1, hs1, _, kU, ed, hdU, hkU⟩
  cases ed
  have hkeys : srt ((pwL W 0 s0 W.free.length).map (·.1)) = W.hung := by
    rw [srt_congr (pwL_keys ok 0 s0)]
    exact (srt_uniq (List.Perm.refl _) (by rw [Wd.hung_eq]; exact (srt_pw _).filter _)).symm
  have hkm : kA.map (·.1) = ((pwL W 0 s0 W.free.length).map (·.1)).map Sum.inr := by rw [hkA.keys, List.map_map]; rfl
  have hkl : ((pwL W 0 s0 W.free.length).map (·.1)).length ≤ 8 := by rw [(pwL_keys ok 0 s0).length_eq]; exact l8
  refine st_retN (ev_dcN (n := (W.hung.map V.str).length) (Y := fun i x _ => (W.hung.map V.str)[i]? = some x) (R := fun i => SpV K (posW W 0 s0 (W.hung.getD i default), posW W 1 s1 (W.hung.getD i default))) (kk := fun i => kS (W.hung.getD i default)) ?_ (by rw [List.length_map]; omega) ?_ ?_) ?_
  · intro H3 e3 R r
    refine ei_list (E := Same) (K := K) (xs := W.hung.map V.str) (Eva.imp (ev_sortedD (E := Same) (ks := (pwL W 0 s0 W.free.length).map (·.1)) (ev_var rfl) (.inl ((e2.trans e3) _ _ hdA)) hkm (by omega)) fun v H4 _ ⟨a, ea, ha, _⟩ => ⟨a, ea, SqL.of (by rw [hkeys] at ha; exact ha), fun z => z⟩) H3 (Same.refl _) R r
  · intro i j hi hj e
    rw [List.length_map] at hi hj
    have e := Sum.inr.inj e
    exact nd_ix (Wd.hung_nodup ok) (getD_lt default hi) (by rw [e]; exact getD_lt default hj)
  · rintro i x H' hi e hx
    rw [List.length_map] at hi
    rw [List.getElem?_map, getD_lt (default : Str) hi] at hx
    have hx := Option.some.inj hx
    subst hx
    have hm : W.hung.getD i default ∈ W.hung := List.mem_of_getElem? (getD_lt default hi)
    generalize W.hung.getD i default = m at hm
    obtain ⟨va, hva, hra⟩ := pw_look ok hkA hm
    obtain ⟨vu, hvu, hru⟩ := pw_look ok hkU hm
    refine ⟨_, tg_name, rfl, fun H5 e5 Q q => q H5 (Same.refl _), ev_var rfl, ?_⟩
    refine ev_newspot (Eva.imp (ev_dget (k := kS m) (ev_var rfl) (.inl ((e2.trans e) _ _ hdA)) (ev_var rfl) hva) fun v H3 e3 r => ?_) (Eva.imp (ev_dget (k := kS m) (ev_var rfl) (.inl (e _ _ hdU)) (ev_var rfl) hvu) fun v H3 e3 r => ?_)
    · rw [show v = va from r]; exact MonW.mono ((e2.trans e).trans e3).wk hra
    · rw [show v = vu from r]; exact MonW.mono (e.trans e3).wk hru
  · rintro d H3 e3 nd ⟨_, ys, ed, hd, hys⟩
    cases ed
    rw [List.length_map] at hys
    refine k d H3 ((e1.trans e2).trans e3) ((e1.trans e2).free nd) ⟨plW W s0 s1, plW_adj ok hs0 hs1, d, ys, rfl, hd, ?_⟩
    have e : plW W s0 s1 = (List.range W.hung.length).map fun i => (W.hung.getD i default, (posW W 0 s0 (W.hung.getD i default), posW W 1 s1 (W.hung.getD i default))) := by
      unfold plW
      exact (range_map_getD (fun m => (m, (posW W 0 s0 m, posW W 1 s1 m))) W.hung).symm
    rw [e]
    exact paired_mapR (f := fun i => (W.hung.getD i default, (posW W 0 s0 (W.hung.getD i default), posW W 1 s1 (W.hung.getD i default)))) (fun y i r => r) hys
end
end Gm

set_option maxHeartbeats 4000000
namespace Gm
open PySem PySem.Spec PyProof.Rows L2
section
variable {E : Hp → Hp → Prop} [PreE E] {σ : L2.St} {H : Hp} {c : TT} {t1 t2 : TS} {D : Ends}
theorem st_ifJ {b : Bool} (J : L2.St → Hp → Prop) (h : EvT E c σ H b) (e0 : E H H) (k1 : ∀ nx : L2.St → Hp → Prop, (∀ σ H, J σ H → nx σ H) → b = true → ∀ H1, E H H1 → t1 { D with nx := nx } σ H1) (k2 : b = false → ∀ H1, E H H1 → J σ H1) (k : ∀ σ H, J σ H → t2 D σ H) :
    tSeq (tIfS c t1 tNext) t2 D σ H := st_ifN h e0 (fun z H1 e => k1 _ k z H1 e) (fun z H1 e => k _ _ (k2 z H1 e))
end
/-! ### the drawn cells -/
/-- how the drawing stands -/
structure Dr (d l : Addr) (cs : List Int) (i a b c : Int) (H : Hp) : Prop where
  d : H d = some (.lst [.ref l, .int i, .int a, .int b, .int c])
  l : H l = some (.lst (cs.map V.int))
  i : 0 ≤ i
  b0 : 0 ≤ b
  b1 : b < 2147483629
def DrOk (d l : Addr) (cs : List Int) (H : Hp) : Prop := ∃ i a b c, Dr d l cs i a b c H
theorem Dr.ne {d l : Addr} {cs : List Int} {i a b c : Int} {H : Hp} (h : Dr d l cs i a b c H) : l ≠ d := fun e => by
  have h1 := h.l
  rw [e, h.d] at h1
  have h2 := Option.some.inj h1
  have h3 := HO.lst.inj h2
  cases cs with
  | nil => cases h3
  | cons x r => cases h3
theorem Dr.same {d l : Addr} {cs : List Int} {i a b c : Int} {H H' : Hp} (h : Dr d l cs i a b c H) (e : Same H H') : Dr d l cs i a b c H' := ⟨e _ _ h.d, e _ _ h.l, h.i, h.b0, h.b1⟩
theorem DrOk.same {d l : Addr} {cs : List Int} {H H' : Hp} (h : DrOk d l cs H) (e : Same H H') : DrOk d l cs H' := by
  obtain ⟨i, a, b, c, h⟩ := h; exact ⟨i, a, b, c, h.same e⟩
theorem Dr.put {d l : Addr} {cs : List Int} {i a b c i' a' b' c' : Int} {H : Hp} (h : Dr d l cs i a b c H) (h1 : 0 ≤ i') (h2 : 0 ≤ b') (h3 : b' < 2147483629) : Dr d l cs i' a' b' c' (upd H d (.lst [.ref l, .int i', .int a', .int b', .int c'])) :=
  ⟨upd_same, by rw [upd_ne h.ne]; exact h.l, h1, h2, h3⟩
/-- all but the drawing stands -/
structure ED (d l : Addr) (cs : List Int) (A B : Hp) : Prop where
  s : SameB d A B
  a : DrOk d l cs A
  b : DrOk d l cs B
theorem SameB.trans {p : Addr} {A B C : Hp} (h : SameB p A B) (g : SameB p B C) : SameB p A C := fun b o e ne => g b o (h b o e ne) ne
theorem SameB.refl (p : Addr) (A : Hp) : SameB p A A := fun _ _ e _ => e
theorem SameB.of {p : Addr} {A B : Hp} (h : Same A B) : SameB p A B := fun b o e _ => h b o e
theorem SameB.upd {p : Addr} {A : Hp} {o : HO} : SameB p A (upd A p o) := fun b u e ne => by rw [upd_ne ne]; exact e
theorem DrOk.lst {d l : Addr} {cs : List Int} {H : Hp} (h : DrOk d l cs H) : ∃ xs, H d = some (.lst xs) := by obtain ⟨i, a, b, c, h⟩ := h; exact ⟨_, h.d⟩
instance {d l : Addr} {cs : List Int} : PreE (ED d l cs) where
  bad := fun x => x = d
  trans := fun h g => ⟨h.s.trans g.s, h.a, g.b⟩
  rl := fun h => ⟨SameB.refl _ _, h.a, h.a⟩
  rr := fun h => ⟨SameB.refl _ _, h.b, h.b⟩
  keep := fun h nb e => h.s _ _ e nb
  nb := fun h e hn => fun z => by
    obtain ⟨xs, hx⟩ := h.a.lst
    rw [z, hx] at e
    cases e
    exact hn xs rfl
  new := fun {A p o} h hp => ⟨SameB.of (Same.new hp), h.a, h.a.same (Same.new hp)⟩
  muts := fun {A B p o} h hp => by
    obtain ⟨i, a, b, c, q⟩ := id h.b
    obtain ⟨i', a', b', c', q'⟩ := id h.a
    have pd : d ≠ p := fun z => by rw [← z, q'.d] at hp; cases hp
    have pl : l ≠ p := fun z => by rw [← z, q'.l] at hp; cases hp
    refine ⟨fun x u e ne => ?_, h.a, i, a, b, c, by rw [upd_ne pd]; exact q.d, by rw [upd_ne pl]; exact q.l, q.i, q.b0, q.b1⟩
    rw [upd_ne (fun z => by rw [z, hp] at e; cases e)]
    exact h.s x u e ne
theorem _root_.L2.Same.ed {d l : Addr} {cs : List Int} {A B : Hp} (h : Same A B) (g : DrOk d l cs A) : ED d l cs A B := ⟨SameB.of h, g, g.same h⟩
theorem ED.refl {d l : Addr} {cs : List Int} {A : Hp} (g : DrOk d l cs A) : ED d l cs A A := ⟨SameB.refl _ _, g, g⟩
section
variable {d l : Addr} {cs : List Int} {σ : L2.St} {H : Hp} {te ta tb : TE} {tt : TT} {R : V → Hp → Prop}
/-- what stands in every heap, it stands while one draws -/
theorem ev_up (h : ∀ H1, ED d l cs H H1 → Eva Same te σ H1 R) : Eva (ED d l cs) te σ H R := fun H1 e Q q => h H1 e H1 (Same.refl _) Q fun v H2 e2 r => q v H2 (e2.ed e.b) r
theorem et_up {b : Bool} (h : ∀ H1, ED d l cs H H1 → EvT Same tt σ H1 b) : EvT (ED d l cs) tt σ H b := fun H1 e Q q => h H1 e H1 (Same.refl _) Q fun H2 e2 => q H2 (e2.ed e.b)
theorem ev_GE {α : Type} {Pre : α → List V → Hp → Prop} {Post : α → V → Hp → Prop} {X : XK} {tl : TA} {RA : List V → Hp → Prop} (x : α) (h : EvA (ED d l cs) tl σ H RA) (hr : ∀ vs H1, ED d l cs H H1 → RA vs H1 → Pre x vs H1) : Eva (ED d l cs) (tCall (SpG Pre Post) [] X tl) σ H (Post x) :=
  ev_call h fun vs H1 e ra Q q => ⟨x, by rw [List.append_nil]; exact hr vs H1 e ra, fun v H2 e2 p => q v H2 (e2.ed e.b) p⟩
end
/-- a promise: it draws -/
def SpD {α : Type} (Pre : α → Addr → List V → Hp → Prop) (Post : α → V → Hp → Prop) : Sp := fun vs H Q _ => ∃ (x : α) (d l : Addr) (cs : List Int) (rest : List V), vs = .ref d :: rest ∧ DrOk d l cs H ∧ Pre x d rest H ∧ ∀ v H', ED d l cs H H' → Post x v H' → Q v H'
theorem ev_D {α : Type} {Pre : α → Addr → List V → Hp → Prop} {Post : α → V → Hp → Prop} {d l : Addr} {cs : List Int} {σ : L2.St} {H : Hp} {td : TE} {X : XK} {tl : TA} {RA : List V → Hp → Prop} (x : α) (hd : Eva (ED d l cs) td σ H (Is (.ref d))) (h : EvA (ED d l cs) tl σ H RA) (hr : ∀ vs H1, ED d l cs H H1 → RA vs H1 → Pre x d vs H1) :
    Eva (ED d l cs) (tCall (SpD Pre Post) [] X (tCons td tl)) σ H (Post x) :=
  ev_call (RA := fun vs H1 => ∃ rest, vs = .ref d :: rest ∧ RA rest H1) (fun H1 e Q q => hd H1 e _ fun v H2 e2 rv => h H2 (PreE.trans e e2) _ fun vs H3 e3 r => by
    rw [show v = _ from rv]
    exact q _ H3 (PreE.trans e2 e3) ⟨vs, rfl, r⟩) fun vs H1 e ⟨rest, ev, ra⟩ Q q => ⟨x, d, l, cs, rest, by rw [List.append_nil]; exact ev, e.b, hr rest H1 e ra, fun v H2 e2 p => q v H2 e2 p⟩
def IntIn (lo hi : Int) : V → Hp → Prop := fun v _ => ∃ r, v = .int r ∧ lo ≤ r ∧ r < hi
instance {lo hi : Int} : MonT (IntIn lo hi) := ⟨fun _ h => h⟩
def spPull : Sp := SpD (α := Int) (fun top _ vs _ => vs = [.int top] ∧ 0 < top ∧ top < 1000000) (fun top => IntIn 0 top)
section
variable {P : Program} {w : World} {K : PySem.W.Frag} {mg : Str → Option Value} {base : Heap} {aN : Addr} {uM uW uL : Value} {C fI fM fR fN fH : Addr} {fdM fdR fdN fdH : FuncData}
theorem ev_dr {d l : Addr} {cs : List Int} {i a b c z : Int} {σ : L2.St} {H : Hp} {j : Int} {v : V} (hd : Dr d l cs i a b c H) (h0 : σ[0]? = some (some (.ref d))) (hj : atI [V.ref l, .int i, .int a, .int b, .int c] j = some v) : Eva Same (tOp (rIxL K) (tVar 0) (tC (.int j))) σ H (Is v) :=
  ev_ixL (ev_var h0) (SqL.of hd.d) (fun z => z) ev_c hj
theorem st_drset {d l : Addr} {cs : List Int} {i a b c z : Int} {σ : L2.St} {H : Hp} {j : Nat} {te : TE} {D : Ends} (hd : Dr d l cs i a b c H) (h0 : σ[0]? = some (some (.ref d))) (hj : j < 5) (hv : Eva Same te σ H (Is (.int z)))
    (k : ∀ H1, Same H H1 → D.nx σ (upd H1 d (.lst ([V.ref l, .int i, .int a, .int b, .int c].set j (.int z))))) : tAsg te (gSub (tVar 0) (tC (.int (j : Int))) rSetL) D σ H :=
  st_setix (R := Is (.int z)) (z := (j : Int)) (j := j) h0 hd.d ev_c (ixN_nat (by simpa using hj)) hv fun v H1 e1 r => by rw [show v = _ from r]; exact k H1 e1
theorem ev_lenLE {σ : L2.St} {H : Hp} {te : TE} {p : Addr} {cs : List Int} (h : Eva Same te σ H (Is (.ref p))) (hp : H p = some (.lst (cs.map V.int))) :
    Eva Same (tCB (fun xs H Q => ∃ p ys, xs = [.ref p] ∧ (SqL K H p ys ∨ SqT K H p ys) ∧ Q (.int ys.length) H) (tCons te tNil)) σ H (Is (.int (cs.length : Int))) := Eva.is (ev_lenL h hp) (by rw [List.length_map])
theorem mul64 {i j : Int} (h : -(2 ^ 64) < j ∧ j < 2 ^ 64) : CMul i j := .inr h
theorem ok_l_pull (D : DefAt K mg "_law_pull" s_l_pull) (U : Uni K mg aN uM uW uL) : Cal P w K mg base 1 "_law_pull" ["_law_draw", "_law_top"] spPull := by
  refine D.cal 0 sc_l_pull (fun _ _ _ _ _ _ us hl => match us, hl with | [_, _], _ => rfl) (fun vs H Q E h => ?_) (fun f cdv A outer s H vs Q E hr h => ?_)
  · obtain ⟨x, _, _, _, _, rfl, _, ⟨rfl, _⟩, _⟩ := h; rfl
  obtain ⟨top, d, l, cs, _, rfl, ⟨i, a, b, c, hd⟩, ⟨rfl, t0, t1⟩, k⟩ := h
  have t0 : (0 : Int) < top := t0
  have t1 : top < 1000000 := t1
  have hD0 : DrOk d l cs H := ⟨i, a, b, c, hd⟩
  have k : ∀ r H', SameB d H H' → DrOk d l cs H' → 0 ≤ r → r < top → Q (.int r) H' := fun r H' h1 h2 h3 h4 => k _ H' ⟨h1, hD0, h2⟩ ⟨r, rfl, h3, h4⟩
  refine ⟨_, (pss_cons (ps_asg (pe_op op_add (pe_ix ix_list (pv 0) pe_int (fun _ _ => rfl)) pe_int) (pg_sub (pv 0) pe_int set_list))
      (pss_cons (ps_if (PW.pt (pw_and (pt_cmpR op_lt (pe_ix ix_list (pv 0) pe_int (fun _ _ => rfl)) (pv 1) (nomark _)) (pw_and1 (pt_cmpR op_lt (pe_ix ix_list (pv 0) pe_int (fun _ _ => rfl)) (pe_callB call_len_seq (by rfl) U.len PySem.boot_len (pa_cons (pe_ix ix_list (pv 0) pe_int (fun _ _ => rfl)) pa_nil)) (nomark _))))) (pss_cons (ps_set (i := 2) sc_l_pull.nd rfl (Or.inl rfl) (pe_ix ix_list (pe_ix ix_list (pv 0) pe_int (fun _ _ => rfl)) (pe_ix ix_list (pv 0) pe_int (fun _ _ => rfl)) (fun _ _ => rfl)))
      (pss_cons (ps_asg (pe_op op_add (pe_ix ix_list (pv 0) pe_int (fun _ _ => rfl)) pe_int) (pg_sub (pv 0) pe_int set_list))
      (pss_cons (ps_asg (pe_ifExp (pt_cmpR op_ge (pv 2) (pe_op op_pow pe_int pe_int) (nomark _)) (pv 2) pe_int) (pg_sub (pv 0) pe_int set_list))
      (pss_one (ps_asg (pe_op op_mod (pe_op op_add (pe_op op_add (pe_op op_mul (pe_ix ix_list (pv 0) pe_int (fun _ _ => rfl)) pe_int) (pe_op op_mul (pe_op op_mod (pv 2) pe_int) pe_int)) pe_int) pe_int) (pg_sub (pv 0) pe_int set_list)))))) pss_nil)
      (pss_cons (ps_if (pt_cmpR op_ge (pe_ix ix_list (pv 0) pe_int (fun _ _ => rfl)) (pv 1) (nomark _)) (pss_cons (ps_set (i := 3) sc_l_pull.nd rfl (Or.inl rfl) (pe_op op_mod (pe_ix ix_list (pv 0) pe_int (fun _ _ => rfl)) (pv 1)))
      (pss_cons (ps_asg (pe_op op_fdivA (pe_ix ix_list (pv 0) pe_int (fun _ _ => rfl)) (pv 1)) (pg_sub (pv 0) pe_int set_list))
      (pss_one (ps_ret (pv 3))))) pss_nil)
      (pss_cons (ps_asg (pe_op op_mod (pe_op op_add (pe_op op_add (pe_op op_mul (pe_ix ix_list (pv 0) pe_int (fun _ _ => rfl)) pe_int) (pe_op op_mul (pe_ix ix_list (pv 0) pe_int (fun _ _ => rfl)) pe_int)) pe_int) pe_int) (pg_sub (pv 0) pe_int set_list))
      (pss_one (ps_ret (pe_op op_mod (pe_op op_add (pe_op op_fdivA (pe_op op_mul (pe_ix ix_list (pv 0) pe_int (fun _ _ => rfl)) (pe_ix ix_list (pv 0) pe_int (fun _ _ => rfl))) pe_int) (pe_op op_fdivA (pe_ix ix_list (pv 0) pe_int (fun _ _ => rfl)) pe_int)) (pv 1)))))))), ?_⟩
  -- draw[4] = draw[4] + 1
  refine st_seq (st_drset (j := 4) (z := c + 1) hd rfl (by decide) (ev_I0 (ev_dr (z := 0) hd rfl rfl) ev_c) fun H1 e1 => ?_)
  have d1 : Dr d l cs i a b (c + 1) (upd H1 d (.lst [.ref l, .int i, .int a, .int b, .int (c + 1)])) := (hd.same e1).put hd.i hd.b0 hd.b1
  have s1 : SameB d H (upd H1 d (.lst [.ref l, .int i, .int a, .int b, .int (c + 1)])) := (SameB.of e1).trans SameB.upd
  dsimp only
  show tSeq _ _ _ _ (upd H1 d (.lst [.ref l, .int i, .int a, .int b, .int (c + 1)]))
  generalize upd H1 d (.lst [.ref l, .int i, .int a, .int b, .int (c + 1)]) = H2 at d1 s1
  generalize c + 1 = c at d1
  -- a new cell
  refine st_ifJ (E := Same) (b := decide (a < top) && decide (i < (cs.length : Int))) (fun σ H' => ∃ o2 o3 i a b c, σ = [some (.ref d), some (.int top), o2, o3] ∧ SameB d H H' ∧ Dr d l cs i a b c H') ?_ (Same.refl _) ?_ (fun z H3 e3 => ⟨_, _, i, a, b, c, rfl, s1.trans (SameB.of e3), d1.same e3⟩) ?_
  · exact et_and (a := decide (a < top)) (b := decide (i < (cs.length : Int))) (et_test (ev_I0 (ev_dr (z := 0) d1 rfl rfl) (ev_var rfl))) fun _ => et_test (ev_I0 (ev_dr (z := 0) d1 rfl rfl) (ev_lenLE (ev_dr (z := 0) d1 rfl rfl) d1.l))
  · intro nx hnx z H3 e3
    rw [Bool.and_eq_true] at z
    have hi : i < (cs.length : Int) := of_decide_eq_true z.2
    have d3 := d1.same e3
    have s3 := s1.trans (SameB.of (p := d) e3)
    have i0 := d1.i
    have hcell : ∃ x, cs[i.toNat]? = some x := get_lt (by omega)
    obtain ⟨x, hx⟩ := hcell
    refine st_set (E := Same) (R := Is (.int x)) (ev_ixL (i := i) (ev_dr (z := 0) d3 rfl rfl) (SqL.of d3.l) (fun z => z) (ev_dr (z := 0) d3 rfl rfl) (by
      unfold atI ixN
      rw [List.length_map, if_pos i0, if_pos hi]
      show (cs.map V.int)[i.toNat]? = _
      rw [List.getElem?_map, hx]; rfl)) (Same.refl _) ?_
    rintro _ H4 e4 rfl
    have d4 := d3.same e4
    refine st_seq (st_drset (j := 1) (z := i + 1) d4 rfl (by decide) (ev_I0 (ev_dr (z := 0) d4 rfl rfl) ev_c) fun H5 e5 => ?_)
    have d5 : Dr d l cs (i + 1) a b c (upd H5 d (.lst [.ref l, .int (i + 1), .int a, .int b, .int c])) := (d4.same e5).put (by omega) hd.b0 hd.b1
    have s5 : SameB d H (upd H5 d (.lst [.ref l, .int (i + 1), .int a, .int b, .int c])) := (s3.trans (SameB.of (e4.trans e5))).trans SameB.upd
    dsimp only
    show tSeq _ _ _ _ (upd H5 d (.lst [.ref l, .int (i + 1), .int a, .int b, .int c]))
    generalize upd H5 d (.lst [.ref l, .int (i + 1), .int a, .int b, .int c]) = H6 at d5 s5
    refine st_seq (st_drset (j := 2) (z := if decide ((10 : Int) ^ (18 : Int).toNat ≤ x) = true then x else 0) d5 rfl (by decide) (ev_if (b := decide ((10 : Int) ^ (18 : Int).toNat ≤ x)) (et_test (Eva.is (ev_I0 (ev_var rfl) (ev_I ev_c ev_c (by refine ⟨by decide, by decide, by decide⟩))) rfl)) (fun z => by rw [if_pos z]; exact ev_var rfl) (fun z => by rw [if_neg (by rw [z]; decide)]; exact ev_c)) fun H7 e7 => ?_)
    generalize (if decide ((10 : Int) ^ (18 : Int).toNat ≤ x) = true then x else 0) = a'
    have d7 : Dr d l cs (i + 1) a' b c (upd H7 d (.lst [.ref l, .int (i + 1), .int a', .int b, .int c])) := (d5.same e7).put (by omega) hd.b0 hd.b1
    have s7 : SameB d H (upd H7 d (.lst [.ref l, .int (i + 1), .int a', .int b, .int c])) := (s5.trans (SameB.of e7)).trans SameB.upd
    dsimp only
    show tAsg _ _ _ _ (upd H7 d (.lst [.ref l, .int (i + 1), .int a', .int b, .int c]))
    generalize upd H7 d (.lst [.ref l, .int (i + 1), .int a', .int b, .int c]) = H8 at d7 s7
    refine st_drset (j := 3) (z := (b * 48271 + x % 998244353 * 8117 + 71) % 2147483629) d7 rfl (by decide) (ev_I (ev_I0 (ev_I0 (ev_I (ev_dr (z := 0) d7 rfl rfl) ev_c (mul64 ⟨by decide, by decide⟩)) (ev_I (ev_I (ev_var rfl) ev_c (by show (0 : Int) < _; decide)) ev_c (mul64 ⟨by decide, by decide⟩))) ev_c) ev_c (by show (0 : Int) < _; decide)) fun H9 e9 => ?_
    refine hnx _ _ ⟨_, _, i + 1, a', _, c, rfl, (s7.trans (SameB.of e9)).trans SameB.upd, (d7.same e9).put (by omega) (Int.emod_nonneg _ (by decide)) (Int.emod_lt_of_pos _ (by decide))⟩
  · clear d1 s1
    rintro σ H3 ⟨o2, o3, i, a, b, c, rfl, s3, d3⟩
    refine st_ifN (E := Same) (b := decide (top ≤ a)) (et_test (ev_I0 (ev_dr (z := 0) d3 rfl rfl) (ev_var rfl))) (Same.refl _) (fun z H4 e4 => ?_) (fun z H4 e4 => ?_)
    · have d4 := d3.same e4
      refine st_set (E := Same) (R := Is (.int (a % top))) (ev_I (ev_dr (z := 0) d4 rfl rfl) (ev_var rfl) t0) (Same.refl _) ?_
      rintro _ H5 e5 rfl
      have d5 := d4.same e5
      refine st_seq (st_drset (j := 2) (z := a.fdiv top) d5 rfl (by decide) (ev_I (ev_dr (z := 0) d5 rfl rfl) (ev_var rfl) ⟨by omega, log2_small (b := 9000) (Nat.lt_of_lt_of_le (show top.natAbs < 2 ^ 20 by omega) (Nat.pow_le_pow_right (by decide) (by decide))) (by decide)⟩) fun H6 e6 => ?_)
      refine ⟨_, rfl, k (a % top) _ ((s3.trans (SameB.of ((e4.trans e5).trans e6))).trans SameB.upd) ⟨i, a.fdiv top, b, c, (d5.same e6).put d3.i d3.b0 d3.b1⟩ (Int.emod_nonneg _ (by omega)) (Int.emod_lt_of_pos _ t0)⟩
    · have d4 := d3.same e4
      refine st_seq (st_drset (j := 3) (z := (b * 69621 + c * 40692 + 1013904223) % 2147483629) d4 rfl (by decide) (ev_I (ev_I0 (ev_I0 (ev_I (ev_dr (z := 0) d4 rfl rfl) ev_c (mul64 ⟨by decide, by decide⟩)) (ev_I (ev_dr (z := 0) d4 rfl rfl) ev_c (mul64 ⟨by decide, by decide⟩))) ev_c) ev_c (by show (0 : Int) < _; decide)) fun H5 e5 => ?_)
      have hb0 : 0 ≤ (b * 69621 + c * 40692 + 1013904223) % 2147483629 := Int.emod_nonneg _ (by decide)
      have hb1 : (b * 69621 + c * 40692 + 1013904223) % 2147483629 < 2147483629 := Int.emod_lt_of_pos _ (by decide)
      generalize (b * 69621 + c * 40692 + 1013904223) % 2147483629 = b' at hb0 hb1
      have d6 : Dr d l cs i a b' c (upd H5 d (.lst [.ref l, .int i, .int a, .int b', .int c])) := (d4.same e5).put d3.i hb0 hb1
      have s6 : SameB d H (upd H5 d (.lst [.ref l, .int i, .int a, .int b', .int c])) := (s3.trans (SameB.of (e4.trans e5))).trans SameB.upd
      dsimp only
      show tRet _ _ _ (upd H5 d (.lst [.ref l, .int i, .int a, .int b', .int c]))
      generalize upd H5 d (.lst [.ref l, .int i, .int a, .int b', .int c]) = H6 at d6 s6
      have c1 : CDivA (b' * b') 65536 := ⟨by decide, by decide⟩
      have c2 : CDivA b' 37 := ⟨by decide, by decide⟩
      refine st_ret (E := Same) (R := Is (.int (((b' * b').fdiv 65536 + b'.fdiv 37) % top))) (ev_I (ev_I0 (ev_I (ev_I (ev_dr (z := 0) d6 rfl rfl) (ev_dr (z := 0) d6 rfl rfl) (mul64 ⟨by omega, by omega⟩)) ev_c c1) (ev_I (ev_dr (z := 0) d6 rfl rfl) ev_c c2)) (ev_var rfl) t0) (Same.refl _) fun v H7 e7 r => ?_
      rw [show v = _ from r]
      exact k _ H7 (s6.trans (SameB.of e7)) ⟨i, a, b', c, d6.same e7⟩ (Int.emod_nonneg _ (by omega)) (Int.emod_lt_of_pos _ t0)
end
end Gm

set_option maxHeartbeats 4000000
namespace Gm
open PySem PySem.Spec PyProof.Rows L2
section
variable {d l : Addr} {cs : List Int} {K : PySem.W.Frag} {σ : L2.St} {H : Hp} {te ta tb td : TE} {X : XK}
theorem ev_pull {top : Int} (hd : Eva (ED d l cs) td σ H (Is (.ref d))) (ht : Eva (ED d l cs) ta σ H (Is (.int top))) (h0 : 0 < top) (h1 : top < 1000000) : Eva (ED d l cs) (tCall spPull [] X (tCons td (tCons ta tNil))) σ H (IntIn 0 top) := by
  refine ev_D (α := Int) top hd (ea_cons ht ea_nil) ?_
  rintro vs H' _ ⟨v, r, rfl, hv, rfl⟩
  exact ⟨by rw [show v = _ from hv], h0, h1⟩
/-- with a whole number beside -/
theorem ev_subIn {E : Hp → Hp → Prop} [PreE E] {lo hi j : Int} (ha : Eva E ta σ H (IntIn lo hi)) (hb : Eva E tb σ H (Is (.int j))) : Eva E (tOp (rI0 fun i j => .int (i - j)) ta tb) σ H (IntIn (lo - j) (hi - j)) := fun H1 e Q q =>
  ha H1 e _ fun x H2 e2 ⟨r, rx, r1, r2⟩ => hb H2 (PreE.trans e e2) _ fun y H3 e3 ry => ⟨r, j, rx, ry, q _ H3 (PreE.trans e2 e3) ⟨r - j, rfl, by omega, by omega⟩⟩
theorem ev_addIn {E : Hp → Hp → Prop} [PreE E] {lo hi j : Int} (ha : Eva E ta σ H (Is (.int j))) (hb : Eva E tb σ H (IntIn lo hi)) : Eva E (tOp (rI0 fun i j => .int (i + j)) ta tb) σ H (IntIn (j + lo) (j + hi)) := fun H1 e Q q =>
  ha H1 e _ fun x H2 e2 rx => hb H2 (PreE.trans e e2) _ fun y H3 e3 ⟨r, ry, r1, r2⟩ => ⟨j, r, rx, ry, q _ H3 (PreE.trans e2 e3) ⟨j + r, rfl, by omega, by omega⟩⟩
theorem ev_addIn2 {E : Hp → Hp → Prop} [PreE E] {lo hi lo' hi' : Int} (ha : Eva E ta σ H (IntIn lo hi)) (hb : Eva E tb σ H (IntIn lo' hi')) : Eva E (tOp (rI0 fun i j => .int (i + j)) ta tb) σ H (IntIn (lo + lo') (hi + hi' - 1)) := fun H1 e Q q =>
  ha H1 e _ fun x H2 e2 ⟨r, rx, r1, r2⟩ => hb H2 (PreE.trans e e2) _ fun y H3 e3 ⟨r', ry, r1', r2'⟩ => ⟨r, r', rx, ry, q _ H3 (PreE.trans e2 e3) ⟨r + r', rfl, by omega, by omega⟩⟩
/-- a list beside the drawing -/
def Lb (d : Addr) (xs : List V) : V → Hp → Prop := fun v H => ∃ a, v = .ref a ∧ H a = some (.lst xs) ∧ a ≠ d
instance {xs : List V} : MonE (ED d l cs) (Lb d xs) := ⟨fun e ⟨a, ea, h, ne⟩ => ⟨a, ea, e.s _ _ h ne, ne⟩⟩
theorem ev_lenE {E : Hp → Hp → Prop} [PreE E] {R : V → Hp → Prop} {n : Nat} (h : Eva E te σ H R) (hR : ∀ v H1, R v H1 → ∃ p us, v = .ref p ∧ SqL K H1 p us ∧ us.length = n) :
    Eva E (tCB (fun xs H Q => ∃ p ys, xs = [.ref p] ∧ (SqL K H p ys ∨ SqT K H p ys) ∧ Q (.int ys.length) H) (tCons te tNil)) σ H (Is (.int (n : Int))) := fun H1 e Q q =>
  h H1 e _ fun v H2 e2 r => by
    obtain ⟨p, us, rfl, hs, hl⟩ := hR v H2 r
    exact ⟨p, us, rfl, .inl hs, q _ H2 e2 (by rw [hl]; rfl)⟩
end
def spAny : Sp := SpD (α := List V) (fun xs d vs H => (∃ v, vs = [v] ∧ Lb d xs v H) ∧ 0 < xs.length ∧ xs.length < 1000) (fun xs v _ => v ∈ xs)
theorem ev_any {d l : Addr} {cs : List Int} {σ : L2.St} {H : Hp} {td ta : TE} {X : XK} {xs : List V} (hd : Eva (ED d l cs) td σ H (Is (.ref d))) (ha : Eva (ED d l cs) ta σ H (Lb d xs)) (h0 : 0 < xs.length) (h1 : xs.length < 1000) : Eva (ED d l cs) (tCall spAny [] X (tCons td (tCons ta tNil))) σ H (fun v _ => v ∈ xs) := by
  refine ev_D (α := List V) xs hd (ea_cons ha ea_nil) ?_
  rintro vs H' _ ⟨v, r, rfl, hv, rfl⟩
  exact ⟨⟨v, rfl, hv⟩, h0, h1⟩
section
variable {P : Program} {w : World} {K : PySem.W.Frag} {mg : Str → Option Value} {base : Heap} {aN : Addr} {uM uW uL : Value} {C fI fM fR fN fH : Addr} {fdM fdR fdN fdH : FuncData}
theorem ok_l_any (D : DefAt K mg "_law_any" s_l_any) (U : Uni K mg aN uM uW uL) (c_l_pull : Cal P w K mg base 1 "_law_pull" ["_law_draw", "_law_top"] spPull) : Cal P w K mg base 2 "_law_any" ["_law_draw", "_law_some"] spAny := by
  refine D.cal 1 sc_l_any (fun _ _ _ _ _ _ us hl => match us, hl with | [_, _], _ => rfl) (fun vs H Q E h => ?_) (fun f cdv A outer s H vs Q E hr h => ?_)
  · obtain ⟨x, _, _, _, _, rfl, _, ⟨⟨_, rfl, _⟩, _⟩, _⟩ := h; rfl
  obtain ⟨xs, d, l, cs, _, rfl, hd, ⟨⟨_, rfl, a, rfl, ha, ne⟩, h0, h1⟩, k⟩ := h
  have ha : H a = some (.lst xs) := ha
  refine ⟨_, (pss_one (ps_ret (pe_ix ix_list (pv 1) (c_l_pull.call (hr.mono (by decide)) (by rfl) (pa_cons (pv 0) (pa_cons (pe_callB call_len_seq (by rfl) U.len PySem.boot_len (pa_cons (pv 1) pa_nil)) pa_nil))) (fun _ _ => rfl)))), ?_⟩
  have e0 : ED d l cs H H := ED.refl hd
  refine st_ret (E := ED d l cs) (R := fun v _ => v ∈ xs) (fun H1 e Q q => ?_) e0 fun v H1 e r => k v H1 e r
  refine ev_var (E := ED d l cs) (H := H) (v := .ref a) rfl H1 e _ fun v2 H2 e2 rv2 => ?_
  have hlen : Eva (ED d l cs) (tCB (fun xs H Q => ∃ p ys, xs = [.ref p] ∧ (SqL K H p ys ∨ SqT K H p ys) ∧ Q (.int ys.length) H) (tCons (tVar 1) tNil)) (start n_l_any [.ref d, .ref a]) H (Is (.int (xs.length : Int))) :=
    ev_lenE (R := Lb d xs) (ev_varR rfl ⟨a, rfl, ha, ne⟩) fun v H1 ⟨a, ea, h, _⟩ => ⟨a, xs, ea, SqL.of h, rfl⟩
  refine ev_pull (d := d) (l := l) (cs := cs) (H := H) (top := (xs.length : Int)) (ev_var rfl) hlen (by omega) (by omega) H2 (PreE.trans e e2) _ fun y H3 e3 ⟨r, ry, r1, r2⟩ => ?_
  have hr' : ∃ z, xs[r.toNat]? = some z := get_lt (by omega)
  obtain ⟨z, hz⟩ := hr'
  have e03 := PreE.trans (PreE.trans e e2) e3
  refine ⟨a, xs, r, z, rv2, ry, SqL.of (e03.s _ _ ha ne), ?_, q z H3 (PreE.trans e2 e3) (List.mem_of_getElem? hz)⟩
  unfold atI ixN
  rw [if_pos r1, if_pos r2]; exact hz
end
end Gm

set_option maxHeartbeats 4000000
namespace Gm
open PySem PySem.Spec PyProof.Rows L2
section
variable {P : Program} {w : World} {K : PySem.W.Frag} {mg : Str → Option Value} {base : Heap} {aN : Addr} {uM uW uL : Value} {C fI fM fR fN fH : Addr} {fdM fdR fdN fdH : FuncData}
/-- _law_reading -/
def spReading (K : PySem.W.Frag) : Sp := SpD (α := Str × Str) (fun x d vs H => vs = [.str x.1, .str x.2]) (fun x v H => ∃ r : Rdg, r.one = x.1 ∧ r.other = x.2 ∧ RdB r ∧ RdV K r v H)
theorem ok_l_reading (D : DefAt K mg "_law_reading" s_l_reading) (U : Uni K mg aN uM uW uL) (c_l_pull : Cal P w K mg base 1 "_law_pull" ["_law_draw", "_law_top"] spPull) : Cal P w K mg base 2 "_law_reading" ["_law_draw", "_law_one", "_law_other"] (spReading K) := by
  refine D.cal 1 sc_l_reading (fun _ _ _ _ _ _ us hl => match us, hl with | [_, _, _], _ => rfl) (fun vs H Q E h => ?_) (fun f cdv A outer s H vs Q E hr h => ?_)
  · obtain ⟨x, _, _, _, _, rfl, _, rfl, _⟩ := h; rfl
  obtain ⟨⟨m1, m2⟩, d, l, cs, _, rfl, hd, rfl, k⟩ := h
  refine ⟨_, (pss_cons (ps_set (i := 3) sc_l_reading.nd rfl (Or.inl rfl) (pe_op op_sub (c_l_pull.call (hr.mono (by decide)) (by rfl) (pa_cons (pv 0) (pa_cons pe_int pa_nil))) pe_int))
      (pss_one (ps_ret (pe_tup (pa_cons (pv 1) (pa_cons (pv 2) (pa_cons (pv 3) (pa_cons (pe_op op_sub (c_l_pull.call (hr.mono (by decide)) (by rfl) (pa_cons (pv 0) (pa_cons pe_int pa_nil))) pe_int) (pa_cons (pe_op op_add pe_int (c_l_pull.call (hr.mono (by decide)) (by rfl) (pa_cons (pv 0) (pa_cons pe_int pa_nil)))) pa_nil))))))))), ?_⟩
  have e0 : ED d l cs H H := ED.refl hd
  refine st_set (E := ED d l cs) (R := IntIn (-12) 13) (ev_subIn (lo := 0) (hi := 25) (ev_pull (ev_var rfl) ev_c (by decide) (by decide)) ev_c) e0 ?_
  rintro _ H1 e1 ⟨ac, rfl, a1, a2⟩
  refine st_ret (E := ED d l cs) (ev_tup (ea_cons (R := Is (.str m1)) (ev_var rfl) (ea_cons (R := Is (.str m2)) (ev_var rfl) (ea_cons (R := Is (.int ac)) (ev_var rfl) (ea_cons (R := IntIn (-12) 13) (ev_subIn (lo := 0) (hi := 25) (ev_pull (ev_var rfl) ev_c (by decide) (by decide)) ev_c) (ea_cons (R := IntIn 1 10) (ev_addIn (lo := 0) (hi := 9) ev_c (ev_pull (ev_var rfl) ev_c (by decide) (by decide))) ea_nil))))) 5 ?_) (PreE.rr e1) ?_
  · rintro vs H1 ⟨_, _, rfl, _, _, _, rfl, _, _, _, rfl, _, _, _, rfl, _, _, _, rfl, _, rfl⟩; simp
  · rintro v H2 e2 ⟨a, vs, H0, rfl, ha, ⟨_, _, rfl, hv1, _, _, rfl, hv2, _, _, rfl, hv3, _, _, rfl, ⟨up, rfl, u1, u2⟩, _, _, rfl, ⟨wt, rfl, w1, w2⟩, rfl⟩, w⟩
    cases hv1; cases hv2; cases hv3
    exact k _ _ (PreE.trans e1 e2) ⟨⟨m1, m2, ac, up, wt⟩, rfl, rfl, ⟨⟨a1, by show ac ≤ 12; omega⟩, ⟨u1, by show up ≤ 12; omega⟩, ⟨w1, by show wt ≤ 9; omega⟩⟩, a, rfl, SqT.of ha⟩
/-- _law_share: over between -20 and 20, under between 1 and 6 -/
def ShQ (q : Rat) : Prop := ∃ a b : Int, -20 ≤ a ∧ a ≤ 20 ∧ 1 ≤ b ∧ b ≤ 6 ∧ q = Rat.divInt a b
def spShare (K : PySem.W.Frag) : Sp := SpD (α := Unit) (fun _ d vs H => vs = []) (fun _ v H => ∃ q, ShQ q ∧ Rt K q v H)
theorem ok_l_share (D : DefAt K mg "_law_share" s_l_share) (U : Uni K mg aN uM uW uL) (c_l_pull : Cal P w K mg base 1 "_law_pull" ["_law_draw", "_law_top"] spPull) (c_l_low : Cal P w K mg base 1 "_law_low" ["_law_over", "_law_under"] (spRatio K)) : Cal P w K mg base 2 "_law_share" ["_law_draw"] (spShare K) := by
  refine D.cal 1 sc_l_share (fun _ _ _ _ _ _ us hl => match us, hl with | [_], _ => rfl) (fun vs H Q E h => ?_) (fun f cdv A outer s H vs Q E hr h => ?_)
  · obtain ⟨x, _, _, _, _, rfl, _, rfl, _⟩ := h; rfl
  obtain ⟨_, d, l, cs, _, rfl, hd, rfl, k⟩ := h
  refine ⟨_, (pss_one (ps_ret (c_l_low.call (hr.mono (by decide)) (by rfl) (pa_cons (pe_op op_sub (c_l_pull.call (hr.mono (by decide)) (by rfl) (pa_cons (pv 0) (pa_cons pe_int pa_nil))) pe_int) (pa_cons (pe_op op_add pe_int (c_l_pull.call (hr.mono (by decide)) (by rfl) (pa_cons (pv 0) (pa_cons pe_int pa_nil)))) pa_nil))))), ?_⟩
  have e0 : ED d l cs H H := ED.refl hd
  refine st_ret (E := ED d l cs) (R := fun v H => ∃ q, ShQ q ∧ Rt K q v H) (ev_call (ea_cons (R := IntIn (-20) 21) (ev_subIn (lo := 0) (hi := 41) (ev_pull (ev_var rfl) ev_c (by decide) (by decide)) ev_c) (ea_cons (R := IntIn 1 7) (ev_addIn (lo := 0) (hi := 6) ev_c (ev_pull (ev_var rfl) ev_c (by decide) (by decide))) ea_nil)) ?_) e0 fun v H1 e r => k v H1 e r
  rintro vs H1 e ⟨_, _, rfl, ⟨a, rfl, a1, a2⟩, _, _, rfl, ⟨b, rfl, b1, b2⟩, rfl⟩ Q q
  exact ⟨(a, b), ⟨rfl, by show b ≠ 0; omega, by show b.natAbs < 2 ^ 9000; exact Nat.lt_of_lt_of_le (show b.natAbs < 2 ^ 20 by omega) (Nat.pow_le_pow_right (by decide) (by decide))⟩, fun v H2 e2 p => q v H2 (e2.ed e.b) ⟨_, ⟨a, b, a1, by omega, b1, by omega, rfl⟩, p⟩⟩
/-- _law_mixed -/
def spMixed : Sp := SpD (α := List Str) (fun ss d vs H => (∃ v, vs = [v] ∧ Lb d (ss.map V.str) v H) ∧ ss.length < 100) (fun ss v H => ∃ ys : List Str, ys.Perm ss ∧ LstV (ys.map V.str) v H)
theorem map_erase {α β : Type} (f : α → β) : ∀ (l : List α) (i : Nat), (l.map f).eraseIdx i = (l.eraseIdx i).map f
  | [], _ => rfl
  | _ :: _, 0 => rfl
  | a :: l, i + 1 => by rw [List.map_cons, List.eraseIdx_cons_succ, List.eraseIdx_cons_succ, List.map_cons, map_erase f l i]
theorem take_erase {α : Type} {l : List α} {i : Nat} {x : α} (h : l[i]? = some x) : l.Perm (x :: l.eraseIdx i) := by
  induction l generalizing i with
  | nil => simp at h
  | cons a l ih =>
    cases i with
    | zero => simp at h; subst h; exact List.Perm.refl _
    | succ i =>
      have := ih (i := i) (by simpa using h)
      rw [List.eraseIdx_cons_succ]
      exact (List.Perm.cons a this).trans (List.Perm.swap x a _)
theorem ok_l_mixed (D : DefAt K mg "_law_mixed" s_l_mixed) (U : Uni K mg aN uM uW uL) (c_l_pull : Cal P w K mg base 1 "_law_pull" ["_law_draw", "_law_top"] spPull) : Cal P w K mg base 2 "_law_mixed" ["_law_draw", "_law_some"] spMixed := by
  refine D.cal 1 sc_l_mixed (fun _ _ _ _ _ _ us hl => match us, hl with | [_, _], _ => rfl) (fun vs H Q E h => ?_) (fun f cdv A outer s H vs Q E hr h => ?_)
  · obtain ⟨x, _, _, _, _, rfl, _, ⟨⟨_, rfl, _⟩, _⟩, _⟩ := h; rfl
  obtain ⟨ss, d, l, cs, _, rfl, hd, ⟨⟨_, rfl, a, rfl, ha, ne⟩, hz⟩, k⟩ := h
  have ha : H a = some (.lst (ss.map V.str)) := ha
  refine ⟨_, (pss_cons (ps_set (i := 2) sc_l_mixed.nd rfl (Or.inl rfl) (pe_callTy call_list_of (by rfl) U.list (by decide +kernel) (pa_cons (pv 1) pa_nil)))
      (pss_cons (ps_set (i := 3) sc_l_mixed.nd rfl (Or.inl rfl) (pe_lst pa_nil))
      (pss_cons (ps_for PassesOwn.never rfl (pi_range1 (by rfl) U.range (pa_cons (pe_callB call_len_seq (by rfl) U.len PySem.boot_len (pa_cons (pv 1) pa_nil)) pa_nil)) (pg_name (i := 4) sc_l_mixed.nd rfl (Or.inl rfl)) (pss_one (ps_expr (pe_bm PySem.F.plainAttrs_list PySem.F.slot_list_append PySem.F.type_list_append mt_append (pv 3) (pa_cons (pe_bm PySem.F.plainAttrs_list PySem.F.slot_list_pop PySem.F.type_list_pop mt_popAt (pv 2) (pa_cons (c_l_pull.call (hr.mono (by decide)) (by rfl) (pa_cons (pv 0) (pa_cons (pe_callB call_len_seq (by rfl) U.len PySem.boot_len (pa_cons (pv 2) pa_nil)) pa_nil))) pa_nil)) pa_nil)))))
      (pss_one (ps_ret (pv 3)))))), ?_⟩
  -- left
  refine st_seq ⟨_, rfl, a, ss.map V.str, rfl, .inl (SqL.of ha), fun pl npl => ?_⟩
  have e1 : Same H (upd H pl (.lst (ss.map V.str))) := Same.new npl
  have p1 : (upd H pl (.lst (ss.map V.str))) pl = some (.lst (ss.map V.str)) := upd_same
  dsimp only
  generalize upd H pl (.lst (ss.map V.str)) = H1 at e1 p1
  -- found
  refine st_seq ⟨(by decide : 0 ≤ sizeLine), fun pf npf => ?_⟩
  have e2 : Same H1 (upd H1 pf (.lst [])) := Same.new npf
  have p2 : (upd H1 pf (.lst [])) pf = some (.lst []) := upd_same
  dsimp only
  generalize upd H1 pf (.lst []) = H2 at e2 p2
  have npf0 : H pf = none := e1.free npf
  have plf : pl ≠ pf := fun e => by rw [e, npf] at p1; cases p1
  have pld : pl ≠ d := fun e => by obtain ⟨xs, hx⟩ := hd.lst; rw [e, hx] at npl; cases npl
  have pfd : pf ≠ d := fun e => by obtain ⟨xs, hx⟩ := hd.lst; rw [e, hx] at npf0; cases npf0
  refine st_seq (st_forR1 (n := (ss.map V.str).length) (ev_lenL (ev_var rfl) ((e1.trans e2) _ _ ha)) (by rw [List.length_map]; omega) fun H3 e3 => ?_)
  have e03 := (e1.trans e2).trans e3
  refine ⟨fun i σ H4 => ∃ o4 lf fd, σ = [some (.ref d), some (.ref a), some (.ref pl), some (.ref pf), o4] ∧ ED d l cs H H4 ∧ H4 pl = some (.lst (lf.map V.str)) ∧ H4 pf = some (.lst (fd.map V.str)) ∧ (fd ++ lf).Perm ss ∧ fd.length = i,
    ⟨none, ss, [], rfl, e03.ed hd, (e2.trans e3) _ _ p1, e3 _ _ p2, List.Perm.refl _, rfl⟩, ?_, ?_⟩
  · rintro i σ H4 hi ⟨o4, lf, fd, rfl, e4, q1, q2, pm, hl⟩
    rw [List.length_map] at hi
    have hlen : fd.length + lf.length = ss.length := by rw [← List.length_append]; exact pm.length_eq
    have hll : Eva (ED d l cs) (tCB (fun xs H Q => ∃ p ys, xs = [.ref p] ∧ (SqL K H p ys ∨ SqT K H p ys) ∧ Q (.int ys.length) H) (tCons (tVar 2) tNil)) [some (.ref d), some (.ref a), some (.ref pl), some (.ref pf), some (.int (i : Int))] H4 (Is (.int (lf.length : Int))) :=
      ev_lenE (R := Lb d (lf.map V.str)) (ev_varR rfl ⟨pl, rfl, q1, pld⟩) fun v H1 ⟨a, ea, h, _⟩ => ⟨a, _, ea, SqL.of h, List.length_map _⟩
    refine ⟨_, rfl, .inl ⟨rfl, _, SqL.of q2⟩, ⟨_, rfl, .inl ⟨rfl, _, SqL.of q1⟩, ?_⟩⟩
    refine ea_cons (E := ED d l cs) (R := IntIn 0 (lf.length : Int)) (ev_pull (top := (lf.length : Int)) (ev_var rfl) hll (by omega) (by omega)) ea_nil H4 (PreE.rr e4) _ fun vs H5 e5 ra => ?_
    obtain ⟨_, _, rfl, ⟨r, rfl, r1, r2⟩, rfl⟩ := ra
    have e05 := PreE.trans e4 e5
    have q15 := e5.s _ _ q1 pld
    have q25 := e5.s _ _ q2 pfd
    obtain ⟨m, hm⟩ := get_lt (xs := lf) (i := r.toNat) (by omega)
    refine ⟨pl, lf.map V.str, r, r.toNat, .str m, rfl, rfl, q15, by omega, by omega, (ixN_seq (by unfold ixN; rw [List.length_map, if_pos r1, if_pos r2])).1, by rw [List.getElem?_map, hm]; rfl, ?_⟩
    have hupd : ED d l cs H (upd H5 pl (.lst ((lf.map V.str).eraseIdx r.toNat))) := PreE.muts e05 npl
    refine ⟨pf, fd.map V.str, .str m, rfl, rfl, by rw [upd_ne plf.symm]; exact q25, by rw [List.length_map]; exact Nat.lt_of_le_of_lt (show _ ≤ 100 by omega) (by decide), ?_⟩
    refine ⟨_, lf.eraseIdx r.toNat, fd ++ [m], rfl, PreE.muts hupd npf0, ?_, ?_, ?_, ?_⟩
    · rw [upd_ne plf, upd_same, map_erase]
    · rw [upd_same, List.map_append]; rfl
    · rw [List.append_assoc]
      exact (List.Perm.append_left fd (take_erase hm).symm).trans pm
    · rw [List.length_append, hl]; rfl
  · rintro σ H4 ⟨o4, lf, fd, rfl, e4, q1, q2, pm, hl⟩
    have hlen : fd.length + lf.length = ss.length := by rw [← List.length_append]; exact pm.length_eq
    rw [List.length_map] at hl
    have : lf = [] := List.length_eq_zero_iff.mp (by omega)
    rw [this, List.append_nil] at pm
    exact ⟨_, rfl, k _ _ e4 ⟨fd, pm, pf, rfl, q2⟩⟩
end
end Gm

set_option maxHeartbeats 4000000
namespace Gm
open PySem PySem.Spec PyProof.Rows L2
abbrev L26 : Str := "abcdefghijklmnopqrstuvwxyz"
abbrev pool0 : Str := "a ab b ba abc c mast m zz hill kilnab aa"
abbrev poolS : List Str := Txt.split pool0 " "
def chS (k c : Nat) : Str := ⟨#[97 + ((c - 97) + k) % 26]⟩
def shS (k : Nat) (m : Str) : Str := Txt.join "" (m.cps.toList.map (chS k))
def nameOk (m : Str) : Bool := decide (1 ≤ m.length) && (decide (m.length ≤ 6) && (m.cps.toList.all (fun c => L26.cps.toList.contains c) && !decide (m = "zzzzzz")))
def namesOk (ys : List Str) : Bool := ys.all nameOk && (decide ys.Nodup && decide (ys.length = 12))
theorem pool_ok : ∀ k, k < 26 → namesOk (poolS.map (shS k)) = true := by decide +kernel
theorem pool_ch : ∀ m ∈ poolS, ∀ c ∈ m.cps.toList, 97 ≤ c ∧ c < 97 + 26 := by decide +kernel
theorem pool_len : ∀ m ∈ poolS, m.cps.size ≤ 10 := by decide +kernel
theorem pool_n : poolS.length = 12 := by decide +kernel
theorem occ26 : ∀ i, i < 26 → Builtin.Str.occurrences L26 ⟨#[97 + i]⟩ 0 L26.length 1 = [i] := by decide +kernel
theorem at26 : ∀ j, j < 26 → atI L26.cps.toList ((j : Nat) : Int) = some ((97 : Nat) + j) := by decide +kernel
section
variable {E : Hp → Hp → Prop} [PreE E] {K : PySem.W.Frag} {σ : L2.St} {H H' : Hp} {te ta tb : TE} {R : V → Hp → Prop}
theorem ei_str {m : Str} (h : Eva E te σ H (Is (.str m))) : EvI E (iStr te) σ H m.cps.size (fun i x _ => ∃ c, m.cps[i]? = some c ∧ x = .str ⟨#[c]⟩) := fun H1 e R r =>
  h H1 e _ fun v H2 e2 rv => ⟨m, rv, r _ H2 e2 fun H3 e3 => ⟨by show m.cps.size ≤ _; exact Nat.le_refl _, fun i hi => ⟨hi, fun x H' y => by
    obtain ⟨e4, y⟩ := y
    subst e4
    exact ⟨PreE.rr e3, y⟩⟩⟩⟩
end
theorem pe_joinK {X : Cx} {K : PySem.W.Frag} (h : X.K = K) {o e : Expr} {to te : TE} {apos pos : Pos} (ho : PE X o to) (he : PE X e te) (hs : starEach [e] X.env = [(false, eval e X.env)] := by rfl) (hbase : attributeBase o "join" X.env (eval o X.env) = eval o X.env := by rfl) (hline : (apos.endLine == pos.line) = true := by rfl) :
    PE X (.Call (.Attribute o "join" apos) [e] [] pos) (tM1 (fun x xs H Q => ∃ a p, ∃ ys : List Str, x = .str a ∧ xs = [.ref p] ∧ (SqL K H p (ys.map V.str) ∨ SqT K H p (ys.map V.str)) ∧
      (ys.map (·.length)).sum + ys.length * a.length ≤ 16777216 ∧ Q (.str (Txt.join a ys)) H) to te) := h ▸ pe_join ho he hs hbase hline
theorem sum_ones : ∀ l : List Str, (∀ m ∈ l, m.length ≤ 1) → (l.map (·.length)).sum ≤ l.length
  | [], _ => Nat.le_refl _
  | a :: l, h => by
    have h1 := h a List.mem_cons_self
    have h2 := sum_ones l fun m hm => h m (List.mem_cons_of_mem _ hm)
    rw [List.map_cons, List.sum_cons, List.length_cons]; omega
section
variable {P : Program} {w : World} {K : PySem.W.Frag} {mg : Str → Option Value} {base : Heap} {aN : Addr} {uM uW uL : Value} {C fI fM fR fN fH : Addr} {fdM fdR fdN fdH : FuncData}
def spNamesL : Sp := SpD (α := Unit) (fun _ d vs H => vs = []) (fun _ v H => ∃ ys : List Str, (∀ m ∈ ys, nameOk m = true) ∧ ys.Nodup ∧ ys.length = 12 ∧ LstV (ys.map V.str) v H)
theorem ok_l_names (D : DefAt K mg "_law_names" s_l_names) (U : Uni K mg aN uM uW uL) (c_l_pull : Cal P w K mg base 1 "_law_pull" ["_law_draw", "_law_top"] spPull) (c_l_mixed : Cal P w K mg base 2 "_law_mixed" ["_law_draw", "_law_some"] spMixed) : Cal P w K mg base 3 "_law_names" ["_law_draw"] spNamesL := by
  refine D.cal 2 sc_l_names (fun _ _ _ _ _ _ us hl => match us, hl with | [_], _ => rfl) (fun vs H Q E h => ?_) (fun f cdv A outer s H vs Q E hr h => ?_)
  · obtain ⟨x, _, _, _, _, rfl, _, rfl, _⟩ := h; rfl
  obtain ⟨_, d, l, cs, _, rfl, hd, rfl, k⟩ := h
  refine ⟨_, (pss_cons (ps_set (i := 1) sc_l_names.nd rfl (Or.inr rfl) pe_str)
      (pss_cons (ps_set (i := 2) sc_l_names.nd rfl (Or.inr rfl) (c_l_pull.call (hr.mono (by decide)) (by rfl) (pa_cons (pv 0) (pa_cons pe_int pa_nil))))
      (pss_cons (ps_set (i := 3) sc_l_names.nd rfl (Or.inl rfl) (pe_split pe_str pe_str))
      (pss_cons (ps_setLc (i := 3) (own := [("_law_word", 4)]) (g := (gName 4)) rfl sc_l_names.nd rfl rfl (sw_true rfl rfl rfl (by decide +kernel)) (pi_list (pv 3)) (blkOk_by (N := n_l_names) (sc := defScope s_l_names) (own := [("_law_word", 4)]) (by decide +kernel)) (fun _ _ _ _ _ => (pg_name (i := 4) sc_l_names.nd rfl (Or.inl rfl))) (fun _ _ _ _ _ => pts_nil) (fun _ _ _ _ _ => (pe_joinK (K := K) rfl pe_str (pe_lc (own := [("_law_sign", 5)]) (g := (gName 5)) rfl sc_l_names.nd (pi_str (pv 4)) (blkOk_by (N := n_l_names) (sc := { kind := .function, names := [(".0", .local), ("_law_word", .local), ("_law_letters", .cell), ("_law_shift", .cell)], isGenerator := false, isCoroutine := false }) (own := [("_law_sign", 5)]) (by decide +kernel)) (fun _ _ _ _ _ => (pg_name (i := 5) sc_l_names.nd rfl (Or.inl rfl))) (fun _ _ _ _ _ => pts_nil) (fun _ _ _ _ _ => (pe_ix ix_str (pv 1) (pe_op op_mod (pe_op op_add (pe_m1 PySem.F.slot_str_index PySem.F.type_str_index mt_sindex (pv 1) (pv 5)) (pv 2)) pe_int) (fun _ _ => rfl)))))))
      (pss_one (ps_ret (c_l_mixed.call (hr.mono (by decide)) (by rfl) (pa_cons (pv 0) (pa_cons (pv 3) pa_nil))))))))), ?_⟩
  have e0 : ED d l cs H H := ED.refl hd
  refine st_set (E := Same) (R := Is (.str L26)) ev_c (Same.refl _) ?_
  rintro _ H1 e1 rfl
  have e01 := e1.ed hd
  refine st_set (E := ED d l cs) (R := IntIn 0 26) (ev_pull (ev_var rfl) ev_c (by decide) (by decide)) (PreE.rr e01) ?_
  rintro _ H2 e2 ⟨k0, rfl, k1, k2⟩
  have e02 := PreE.trans e01 e2
  obtain ⟨kk, rfl⟩ := Int.eq_ofNat_of_zero_le k1
  have hk : kk < 26 := by omega
  refine st_set (E := Same) (R := LstV (poolS.map V.str)) (fun H3 e3 Q q => ⟨⟨_, rfl⟩, _, _, rfl, rfl, by decide, by decide, fun p hp => q _ _ (Same.new hp) ⟨p, rfl, upd_same⟩⟩) (Same.refl _) ?_
  rintro _ H3 e3 ⟨pa, rfl, hpa⟩
  -- the pool shifted
  refine st_set (E := Same) (ev_lc (E := Same) (n := (poolS.map V.str).length) (b := fun _ => true) (R := fun i => Is (.str (shS kk (poolS.getD i default)))) (ei_list (E := Same) (K := K) (xs := poolS.map V.str) (fun H5 e5 Q q => ⟨_, rfl, q _ H5 (Same.refl _) ⟨pa, rfl, SqL.of (e5 _ _ hpa), fun z => z⟩⟩)) (by rw [List.length_map, pool_n]; decide) ?_) (Same.refl _) ?_
  · rintro i x H' hi e hx
    rw [List.length_map] at hi
    rw [List.getElem?_map, getD_lt (default : Str) hi] at hx
    have hx := Option.some.inj hx
    subst hx
    have hm : poolS.getD i default ∈ poolS := List.mem_of_getElem? (getD_lt default hi)
    generalize poolS.getD i default = m at hm
    refine ⟨_, tg_name, rfl, fun H5 e5 Q q => q H5 (Same.refl _), fun _ H5 e5 Q q => ?_⟩
    refine ⟨⟨_, rfl⟩, ?_⟩
    refine ev_lc (E := Same) (n := m.cps.size) (b := fun _ => true) (R := fun i => Is (.str (chS kk (m.cps.toList.getD i default)))) (H := H') (ei_str (ev_var rfl)) (by have := pool_len m hm; omega) ?_ H5 e5 _ fun v H6 e6 ⟨L, ys, ev, hL, hys, _⟩ => ?_
    · rintro j x H7 hj e7 ⟨c, hc, rfl⟩
      have hcl : m.cps.toList[j]? = some c := by rw [Array.getElem?_toList]; exact hc
      have hg : m.cps.toList.getD j default = c := by rw [List.getD_eq_getElem?_getD, hcl]; rfl
      have hcm := pool_ch m hm c (List.mem_of_getElem? hcl)
      rw [hg]
      obtain ⟨ci, rfl⟩ : ∃ ci, c = 97 + ci := ⟨c - 97, by omega⟩
      have hci : ci < 26 := by omega
      refine ⟨_, tg_name, rfl, fun H8 e8 Q q => q H8 (Same.refl _), fun _ H8 e8 Q q => ?_⟩
      have hix : Eva Same (tM1 (fun x xs H Q => ∃ a b i rest, x = .str a ∧ xs = [.str b] ∧ Builtin.Str.occurrences a b 0 a.length 1 = i :: rest ∧ Q (.int (i : Nat)) H) (tVar 1) (tVar 5)) [some (.ref d), some (.str L26), some (.int (kk : Int)), some (.ref pa), some (.str m), some (.str ⟨#[97 + ci]⟩)] H8 (Is (.int (ci : Int))) := fun H9 e9 Q q =>
        ⟨_, rfl, ⟨_, rfl⟩, _, rfl, L26, ⟨#[97 + ci]⟩, ci, [], rfl, rfl, occ26 ci hci, q _ H9 (Same.refl _) rfl⟩
      refine ⟨_, rfl, ev_I (E := Same) (C := fun _ j => 0 < j) (g := fun i j => V.int (i % j)) (i := (ci : Int) + (kk : Int)) (j := 26) (ev_I0 hix (ev_var rfl)) ev_c (by decide) H8 (Same.refl _) _ fun v H9 e9 rv => ?_⟩
      have hmod : ((ci : Int) + (kk : Int)) % 26 = (((ci + kk) % 26 : Nat) : Int) := by omega
      refine ⟨L26, _, 97 + (ci + kk) % 26, rfl, rv, by decide, ?_, q _ H9 e9 ?_⟩
      · rw [hmod]; exact at26 _ (Nat.mod_lt _ (by decide))
      · show V.str _ = V.str (chS kk (97 + ci))
        unfold chS
        rw [show 97 + ci - 97 = ci by omega]
    · rw [List.filter_eq_self.mpr (fun _ _ => rfl)] at hys
      have hl : ys = (m.cps.toList.map (chS kk)).map V.str := by
        rw [paired_is hys, List.map_map]
        have := range_map_getD (fun c => V.str (chS kk c)) m.cps.toList
        rw [Array.length_toList] at this
        exact this
      subst ev
      refine ⟨"", L, m.cps.toList.map (chS kk), rfl, rfl, .inl (SqL.of (by rw [hL, hl])), ?_, q _ H6 e6 rfl⟩
      have h1 := sum_ones (m.cps.toList.map (chS kk)) (fun x hx => by obtain ⟨c, _, rfl⟩ := List.mem_map.mp hx; exact Nat.le_refl 1)
      rw [List.length_map, Array.length_toList] at *
      have h2 := pool_len m hm
      have h3 : ("" : Str).length = 0 := rfl
      rw [h3]; omega
  · rintro _ H4 e4 ⟨L, ys, rfl, hL, hys, _⟩
    rw [List.filter_eq_self.mpr (fun _ _ => rfl), List.length_map] at hys
    have hl : ys = (poolS.map (shS kk)).map V.str := by
      rw [paired_is hys, List.map_map]
      exact range_map_getD (fun m => V.str (shS kk m)) poolS
    rw [hl] at hL
    have e24 := e3.trans e4
    have e04 := PreE.trans e02 (e24.ed e02.b)
    have hok := pool_ok kk hk
    have hnl : (poolS.map (shS kk)).length = 12 := by rw [List.length_map, pool_n]
    generalize poolS.map (shS kk) = ps at hL hok hnl
    have Ld : L ≠ d := fun z => by
      obtain ⟨i, a, b, c, q⟩ := e04.b
      rw [z, q.d] at hL
      have h1 := HO.lst.inj (Option.some.inj hL)
      cases ps with
      | nil => cases h1
      | cons x r => cases h1
    refine st_ret (E := ED d l cs) (R := fun v H => ∃ ys : List Str, ys.Perm ps ∧ LstV (ys.map V.str) v H) (ev_D (α := List Str) ps (ev_var rfl) (ea_cons (R := Lb d (ps.map V.str)) (ev_varR rfl ⟨L, rfl, hL, Ld⟩) ea_nil) ?_) (PreE.rr e04) fun v H5 e5 ⟨ys, pm, hy⟩ => k v H5 (PreE.trans e04 e5) ?_
    · rintro vs H' _ ⟨v, r, rfl, hv, rfl⟩
      exact ⟨⟨v, rfl, hv⟩, by omega⟩
    · unfold namesOk at hok
      rw [Bool.and_eq_true, Bool.and_eq_true, List.all_eq_true, decide_eq_true_eq, decide_eq_true_eq] at hok
      exact ⟨ys, fun m hm => hok.1 m (pm.mem_iff.mp hm), pm.nodup_iff.mpr hok.2.1, by rw [pm.length_eq]; exact hok.2.2, hy⟩
end
end Gm

set_option maxHeartbeats 4000000
namespace Gm
open PySem PySem.Spec PyProof.Rows L2
/-- some truth value -/
def IsB : V → Hp → Prop := fun v _ => ∃ b, v = .bl b
section
variable {E : Hp → Hp → Prop} [PreE E] {K : PySem.W.Frag} {σ : L2.St} {H H' : Hp} {te ta tb tk tv : TE} {t u : TT} {R : V → Hp → Prop} {c : TT} {t1 t2 : TS} {D : Ends}
variable (E) in
def EvTx (tt : TT) (σ : L2.St) (H : Hp) : Prop := ∀ H1, E H H1 → ∀ Q : Bool → Hp → Prop, (∀ b H2, E H1 H2 → Q b H2) → tt σ H1 Q
theorem etx_test (h : Eva E te σ H IsB) : EvTx E (tTest te) σ H := fun H1 e Q q => h H1 e _ fun v H2 e2 ⟨b, r⟩ => ⟨b, r, q b H2 e2⟩
theorem etx_of {b : Bool} (h : EvT E t σ H b) : EvTx E t σ H := fun H1 e Q q => h H1 e Q fun H2 e2 => q b H2 e2
theorem etx_and (h1 : EvTx E t σ H) (h2 : EvTx E u σ H) : EvTx E (tAnd t u) σ H := fun H1 e Q q => h1 H1 e _ fun b H2 e2 => by
  cases b with
  | true =>
    show u σ H2 Q
    exact h2 H2 (PreE.trans e e2) Q fun b H3 e3 => q b H3 (PreE.trans e2 e3)
  | false =>
    show Q false H2
    exact q _ H2 e2
theorem etx_or (h1 : EvTx E t σ H) (h2 : EvTx E u σ H) : EvTx E (tOr t u) σ H := fun H1 e Q q => h1 H1 e _ fun b H2 e2 => by
  cases b with
  | true =>
    show Q true H2
    exact q _ H2 e2
  | false =>
    show u σ H2 Q
    exact h2 H2 (PreE.trans e e2) Q fun b H3 e3 => q b H3 (PreE.trans e2 e3)
theorem ev_cmpIn {lo hi j : Int} {f : Int → Int → Bool} (ha : Eva E ta σ H (IntIn lo hi)) (hb : Eva E tb σ H (Is (.int j))) : Eva E (tOp (rI0 fun i j => .bl (f i j)) ta tb) σ H IsB := fun H1 e Q q =>
  ha H1 e _ fun x H2 e2 ⟨r, rx, _, _⟩ => hb H2 (PreE.trans e e2) _ fun y H3 e3 ry => ⟨r, j, rx, ry, q _ H3 (PreE.trans e2 e3) ⟨_, rfl⟩⟩
theorem ev_eqIn {lo hi j : Int} (ha : Eva E ta σ H (IntIn lo hi)) (hb : Eva E tb σ H (Is (.int j))) : Eva E (tOp rEq ta tb) σ H IsB := fun H1 e Q q =>
  ha H1 e _ fun x H2 e2 ⟨r, rx, _, _⟩ => hb H2 (PreE.trans e e2) _ fun y H3 e3 ry => by
    rw [show y = _ from ry, rx]
    exact ⟨rfl, q _ H3 (PreE.trans e2 e3) ⟨_, rfl⟩⟩
theorem st_ifx (J : L2.St → Hp → Prop) (h : EvTx E c σ H) (e0 : E H H) (k1 : ∀ nx : L2.St → Hp → Prop, (∀ σ H, J σ H → nx σ H) → ∀ H1, E H H1 → t1 { D with nx := nx } σ H1) (k2 : ∀ H1, E H H1 → J σ H1) (k : ∀ σ H, J σ H → t2 D σ H) :
    tSeq (tIfS c t1 tNext) t2 D σ H := h H e0 _ fun b H1 e => by
  cases b with
  | true => exact k1 _ k H1 e
  | false => exact k _ _ (k2 H1 e)
theorem st_dputE [MonE E R] {p : Addr} {kvs : List (Key × V)} {k : Key} {i : Nat} (hv : Eva E tv σ H R) (e0 : E H H) (hi : σ[i]? = some (some (.ref p))) (hk : Eva E tk σ H (Is (kV k))) (hp : H p = some (.dK kvs)) (hl : kvs.length < sizeLine)
    (q : ∀ v H1, E H H1 → R v H1 → D.nx σ (upd H1 p (.dK (putK kvs k v)))) : sDPut (tVar i) tk tv D σ H :=
  hv H e0 _ fun v H1 e1 r => ⟨_, hi, hk H1 e1 _ fun y H2 e2 ry => ⟨p, _, rfl, by
    rw [show y = kV k from ry]
    exact DPut.k (PreE.one (PreE.trans e1 e2) (fun _ z => nomatch z) hp) hl, q v H2 (PreE.trans e1 e2) (MonE.mono e2 r)⟩⟩
/-- for x in range(n), n drawn -/
theorem st_forRx {g : TG} {tb : TS} {lo hi : Int} (h : Eva E te σ H (IntIn lo hi)) (e0 : E H H) (h0 : 0 ≤ lo) (hn : hi < 1000000)
    (k : ∀ (n : Nat) H1, E H H1 → lo ≤ (n : Int) → (n : Int) < hi → ∃ Pv : Nat → L2.St → Hp → Prop, Pv 0 σ H1 ∧ (∀ i σ H, i < n → Pv i σ H → g (.int (i : Int)) σ H fun σ2 H2 => tb { D with nx := Pv (i + 1), ct := Pv (i + 1), bk := D.nx } σ2 H2) ∧ (∀ σ H, Pv n σ H → D.nx σ H)) :
    tFor (iRng1 (tCons te tNil)) g tb D σ H := h H e0 _ fun v H1 e1 ⟨r, rv, r1, r2⟩ => by
  obtain ⟨n, rfl⟩ := Int.eq_ofNat_of_zero_le (show 0 ≤ r by omega)
  obtain ⟨Pv, g0, hs, hd⟩ := k n H1 e1 r1 r2
  refine ⟨n, by rw [rv], by omega, by omega, ?_⟩
  exact for_range (lo := 0) (n := n) Pv g0 (fun i σ H hi p => by rw [Int.zero_add]; exact hs i σ H hi p) hd
end
/-- places within their bounds -/
def AtB (o : Option (Int × Int)) : Prop := ∀ x y, o = some (x, y) → -20 ≤ x ∧ x ≤ 20 ∧ -20 ≤ y ∧ y ≤ 20
section
variable {P : Program} {w : World} {K : PySem.W.Frag} {mg : Str → Option Value} {base : Heap} {aN : Addr} {uM uW uL : Value} {C fI fM fR fN fH : Addr} {fdM fdR fdN fdH : FuncData}
def MinePre (ms : List Str) (d : Addr) (vs : List V) (H : Hp) : Prop := (∃ v, vs = [v] ∧ Lb d (ms.map V.str) v H) ∧ ms.Nodup ∧ 2 ≤ ms.length ∧ ms.length ≤ 8
def spMarksL (K : PySem.W.Frag) : Sp := SpD (α := List Str) MinePre (fun ms v H => ∃ mks : List (Str × Option (Int × Int)), mks.map (·.1) = ms ∧ (∀ x ∈ mks, AtB x.2) ∧ DcX kS (AtV K) mks v H)
theorem ok_l_marks (D : DefAt K mg "_law_marks" s_l_marks) (U : Uni K mg aN uM uW uL) (c_l_pull : Cal P w K mg base 1 "_law_pull" ["_law_draw", "_law_top"] spPull) : Cal P w K mg base 2 "_law_marks" ["_law_draw", "_law_mine"] (spMarksL K) := by
  refine D.cal 1 sc_l_marks (fun _ _ _ _ _ _ us hl => match us, hl with | [_, _], _ => rfl) (fun vs H Q E h => ?_) (fun f cdv A outer s H vs Q E hr h => ?_)
  · obtain ⟨x, _, _, _, _, rfl, _, ⟨⟨_, rfl, _⟩, _⟩, _⟩ := h; rfl
  obtain ⟨ms, d, l, cs, _, rfl, hd, ⟨⟨_, rfl, a, rfl, ha, ne⟩, nd, h2, h8⟩, k⟩ := h
  have ha : H a = some (.lst (ms.map V.str)) := ha
  refine ⟨_, (pss_cons (ps_set (i := 2) sc_l_marks.nd rfl (Or.inl rfl) pe_dnewK)
      (pss_cons (ps_for PassesOwn.never rfl (pi_range1 (by rfl) U.range (pa_cons (pe_callB call_len_seq (by rfl) U.len PySem.boot_len (pa_cons (pv 1) pa_nil)) pa_nil)) (pg_name (i := 3) sc_l_marks.nd rfl (Or.inl rfl)) (pss_cons (ps_set (i := 4) sc_l_marks.nd rfl (Or.inl rfl) pe_non)
      (pss_cons (ps_if (PW.pt (pw_or (PW.pt (pw_and (pt_cmpR op_eq (pv 3) pe_int (nomark _)) (pw_and1 (pt_cmpR op_gt (c_l_pull.call (hr.mono (by decide)) (by rfl) (pa_cons (pv 0) (pa_cons pe_int pa_nil))) pe_int (nomark _))))) (pw_or1 (PW.pt (pw_and (pt_cmpR op_gt (pv 3) pe_int (nomark _)) (pw_and1 (pt_cmpR op_eq (c_l_pull.call (hr.mono (by decide)) (by rfl) (pa_cons (pv 0) (pa_cons pe_int pa_nil))) pe_int (nomark _)))))))) (pss_one (ps_set (i := 4) sc_l_marks.nd rfl (Or.inl rfl) (pe_tup (pa_cons (pe_op op_sub (c_l_pull.call (hr.mono (by decide)) (by rfl) (pa_cons (pv 0) (pa_cons pe_int pa_nil))) pe_int) (pa_cons (pe_op op_sub (c_l_pull.call (hr.mono (by decide)) (by rfl) (pa_cons (pv 0) (pa_cons pe_int pa_nil))) pe_int) pa_nil))))) pss_nil)
      (pss_one (ps_dput (hu_of hr) (pv 2) (pe_ix ix_list (pv 1) (pv 3) (fun _ _ => rfl)) (pv 4) rfl)))))
      (pss_one (ps_ret (pv 2))))), ?_⟩
  refine st_seq fun p np => ?_
  have e1 : Same H (upd H p (.dK [])) := Same.new np
  have p1 : (upd H p (.dK [])) p = some (.dK []) := upd_same
  dsimp only
  generalize upd H p (.dK []) = H1 at e1 p1
  refine st_seq (st_forR1 (n := (ms.map V.str).length) (ev_lenL (ev_var rfl) (e1 _ _ ha)) (by rw [List.length_map]; omega) fun H3 e3 => ?_)
  refine ⟨fun i σ H4 => ∃ o3 o4 mks kk, σ = [some (.ref d), some (.ref a), some (.ref p), o3, o4] ∧ ED d l cs H H4 ∧ H4 p = some (.dK kk) ∧ Dc kS (AtV K) mks kk H4 ∧ mks.map (·.1) = ms.take i ∧ ∀ x ∈ mks, AtB x.2,
    ⟨none, none, [], [], rfl, (e1.trans e3).ed hd, e3 _ _ p1, .nil, rfl, fun x hx => by simp at hx⟩, ?_, ?_⟩
  · rintro i σ H4 hi ⟨o3, o4, mks, kk, rfl, e4, p4, dc4, hk4, hb4⟩
    rw [List.length_map] at hi
    show tSeq _ _ _ [some (.ref d), some (.ref a), some (.ref p), some (.int (i : Int)), o4] H4
    refine st_set (E := Same) (R := Is .non) ev_c (Same.refl _) ?_
    rintro _ H5 e5 rfl
    have e05 := PreE.trans e4 (e5.ed e4.b)
    have p5 := e5 _ _ p4
    have dc5 := dc4.mono e5.tp
    show tSeq _ _ _ [some (.ref d), some (.ref a), some (.ref p), some (.int (i : Int)), some .non] H5
    refine st_ifx (E := ED d l cs) (fun σ H6 => ∃ v o, σ = [some (.ref d), some (.ref a), some (.ref p), some (.int (i : Int)), some v] ∧ ED d l cs H5 H6 ∧ AtV K o v H6 ∧ AtB o) ?_ (PreE.rr e05) ?_ (fun H6 e6 => ⟨_, none, rfl, e6, rfl, fun x y z => by cases z⟩) ?_
    · exact etx_or (etx_and (etx_of (et_test (ev_eq (ev_var rfl) ev_c rfl))) (etx_test (ev_cmpIn (lo := 0) (hi := 8) (ev_pull (ev_var rfl) ev_c (by decide) (by decide)) ev_c))) (etx_and (etx_of (et_test (ev_I0 (ev_var rfl) ev_c))) (etx_test (ev_eqIn (lo := 0) (hi := 4) (ev_pull (ev_var rfl) ev_c (by decide) (by decide)) ev_c)))
    · intro nx hnx H6 e6
      refine st_set1 (E := ED d l cs) (ev_tup (ea_cons (R := IntIn (-20) 21) (ev_subIn (lo := 0) (hi := 41) (ev_pull (ev_var rfl) ev_c (by decide) (by decide)) ev_c) (ea_cons (R := IntIn (-20) 21) (ev_subIn (lo := 0) (hi := 41) (ev_pull (ev_var rfl) ev_c (by decide) (by decide)) ev_c) ea_nil)) 2 ?_) (PreE.rr e6) ?_
      · rintro vs H1 ⟨_, _, rfl, _, _, _, rfl, _, rfl⟩; simp
      · rintro v H7 e7 ⟨t, vs, H0, rfl, ht, ⟨_, _, rfl, ⟨x, rfl, x1, x2⟩, _, _, rfl, ⟨y, rfl, y1, y2⟩, rfl⟩, _⟩
        refine hnx _ _ ⟨_, some (x, y), rfl, PreE.trans e6 e7, ⟨t, rfl, SqT.of ht⟩, fun x' y' z => ?_⟩
        cases z
        omega
    · rintro σ H6 ⟨v, o, rfl, e6, hv, hb⟩
      have e06 := PreE.trans e05 e6
      have p6 : H6 p = some (.dK kk) := PreE.one e6 (fun _ z => nomatch z) p5
      have dc6 := dc5.mono (PreE.wk e6).tup
      have hgm := getD_lt (default : Str) hi
      have hlen : kk.length < sizeLine := by
        rw [dc6.length]
        have : mks.length = (ms.take i).length := by rw [← hk4, List.length_map]
        rw [this, List.length_take]
        exact Nat.lt_of_le_of_lt (show _ ≤ 8 by omega) (by decide)
      refine st_dputE (E := ED d l cs) (R := AtV K o) (k := kS (ms.getD i default)) (ev_varR rfl hv) (PreE.rr e6) rfl (ev_ixL (i := (i : Int)) (ev_var rfl) (SqL.of (e06.s _ _ ha ne)) (fun z => ne z) (ev_var rfl) (by
        unfold atI
        rw [ixN_nat (by rw [List.length_map]; exact hi)]
        show (ms.map V.str)[i]? = _
        rw [List.getElem?_map, hgm]; rfl)) p6 hlen fun v' H7 e7 hv' => ?_
      have e07 := PreE.trans e06 e7
      have p7 : H7 p = some (.dK kk) := PreE.one e7 (fun _ z => nomatch z) p6
      have hnew : valV kk (kS (ms.getD i default)) = none := valV_none fun b hb' => by
        obtain ⟨c, hc, ec, _⟩ := paired_mem dc6 hb'
        rw [ec]
        intro z
        have z := Sum.inr.inj z
        have hc1 : c.1 ∈ ms.take i := by rw [← hk4]; exact List.mem_map.mpr ⟨c, hc, rfl⟩
        obtain ⟨j, hj⟩ := List.getElem?_of_mem hc1
        have hji : j < i := by
          have := (List.getElem?_eq_some_iff.mp hj).1
          rw [List.length_take] at this; omega
        rw [List.getElem?_take_of_lt hji, z] at hj
        have := nd_ix nd hj hgm
        omega
      have tp7 : Tp H7 (upd H7 p (.dK (putK kk (kS (ms.getD i default)) v'))) := Tp.putD p7
      refine ⟨_, _, mks ++ [(ms.getD i default, o)], _, rfl, PreE.muts e07 np, upd_same, ?_, ?_, ?_⟩
      · rw [putK_new v' hnew] at tp7 ⊢
        exact papp ((dc6.mono (PreE.wk e7).tup).mono tp7) (.cons ⟨rfl, MonT.mono tp7 hv'⟩ .nil)
      · rw [List.map_append, hk4, List.take_succ, hgm]; rfl
      · intro x hx
        rcases List.mem_append.mp hx with hx | hx
        · exact hb4 x hx
        · rw [List.mem_singleton.mp hx]; exact hb
  · rintro σ H4 ⟨o3, o4, mks, kk, rfl, e4, p4, dc4, hk4, hb4⟩
    rw [List.length_map, List.take_length] at hk4
    exact ⟨_, rfl, k _ _ e4 ⟨mks, hk4, hb4, p, kk, rfl, p4, dc4⟩⟩
end
end Gm

set_option maxHeartbeats 4000000
namespace Gm
open PySem PySem.Spec PyProof.Rows L2
section
variable {E : Hp → Hp → Prop} [PreE E] {σ : L2.St} {H : Hp} {t u c : TT} {t1 t2 : TS} {D : Ends}
/-- a test whose first part is known -/
theorem etp_and {a : Bool} (h1 : EvT E t σ H a) (h2 : EvTx E u σ H) : ∀ H1, E H H1 → ∀ Q : Bool → Hp → Prop, (∀ b H2, E H1 H2 → (b = true → a = true) → Q b H2) → (tAnd t u) σ H1 Q := fun H1 e Q q => h1 H1 e _ fun H2 e2 => by
  cases a with
  | true =>
    show u σ H2 Q
    exact h2 H2 (PreE.trans e e2) Q fun b H3 e3 => q b H3 (PreE.trans e2 e3) fun _ => rfl
  | false =>
    show Q false H2
    exact q _ H2 e2 fun z => nomatch z
theorem st_ifp {p : Prop} (J : L2.St → Hp → Prop) (h : ∀ H1, E H H1 → ∀ Q : Bool → Hp → Prop, (∀ b H2, E H1 H2 → (b = true → p) → Q b H2) → c σ H1 Q) (e0 : E H H) (k1 : p → ∀ nx : L2.St → Hp → Prop, (∀ σ H, J σ H → nx σ H) → ∀ H1, E H H1 → t1 { D with nx := nx } σ H1) (k2 : ∀ H1, E H H1 → J σ H1) (k : ∀ σ H, J σ H → t2 D σ H) :
    tSeq (tIfS c t1 tNext) t2 D σ H := h H e0 _ fun b H1 e hb => by
  cases b with
  | true => exact k1 (hb rfl) _ k H1 e
  | false => exact k _ _ (k2 H1 e)
end
def InL (ms : List Str) : V → Hp → Prop := fun v _ => ∃ m, m ∈ ms ∧ v = .str m
instance {ms : List Str} : MonT (InL ms) := ⟨fun _ h => h⟩
theorem inL_of {ms : List Str} {v : V} {H : Hp} (h : v ∈ ms.map V.str) : InL ms v H := by
  obtain ⟨m, hm, rfl⟩ := List.mem_map.mp h; exact ⟨m, hm, rfl⟩
def RdE (K : PySem.W.Frag) (m1 m2 : Str) : V → Hp → Prop := fun v H => ∃ r : Rdg, r.one = m1 ∧ r.other = m2 ∧ RdB r ∧ RdV K r v H
instance {K : PySem.W.Frag} {m1 m2 : Str} : MonT (RdE K m1 m2) := ⟨fun w ⟨r, h1, h2, h3, h4⟩ => ⟨r, h1, h2, h3, MonT.mono w h4⟩⟩
/-- a reading as drawn -/
structure RdD (ms : List Str) (r : Rdg) : Prop where
  o : r.one ∈ ms
  t : r.other ∈ ms
  ne : r.one ≠ r.other
  b : RdB r
section
variable {d l : Addr} {cs : List Int} {K : PySem.W.Frag} {σ : L2.St} {H : Hp} {te ta tb : TE}
/-- mine[pull(..)] -/
theorem ev_ixIn {E : Hp → Hp → Prop} [PreE E] {ms : List Str} {a : Addr} {hi : Int} (ha : Eva E ta σ H (Is (.ref a))) (hs : H a = some (.lst (ms.map V.str))) (nb : ¬ PreE.bad E a) (hb : Eva E tb σ H (IntIn 0 hi)) (hl : hi ≤ ms.length) : Eva E (tOp (rIxL K) ta tb) σ H (InL ms) := fun H1 e Q q =>
  ha H1 e _ fun x H2 e2 rx => hb H2 (PreE.trans e e2) _ fun y H3 e3 ⟨r, ry, r1, r2⟩ => by
    have e13 := PreE.trans (PreE.trans e e2) e3
    obtain ⟨m, hm⟩ := get_lt (xs := ms) (i := r.toNat) (by omega)
    refine ⟨a, ms.map V.str, r, .str m, rx, ry, SqL.of (PreE.keep e13 nb hs), ?_, q _ H3 (PreE.trans e2 e3) ⟨m, List.mem_of_getElem? hm, rfl⟩⟩
    unfold atI ixN
    rw [List.length_map, if_pos r1, if_pos (by omega)]
    show (ms.map V.str)[r.toNat]? = _
    rw [List.getElem?_map, hm]; rfl
theorem st_par {E : Hp → Hp → Prop} [PreE E] {R S : V → Hp → Prop} [MonE E R] {i j : Nat} {D : Ends} (ha : Eva E ta σ H R) (hb : Eva E tb σ H S) (e0 : E H H) (k : ∀ u v H1, E H H1 → R u H1 → S v H1 → D.nx ((σ.set i (some u)).set j (some v)) H1) : tPar i j (tCons ta (tCons tb tNil)) D σ H :=
  ha H e0 _ fun u H1 e1 ru => hb H1 e1 _ fun v H2 e2 rv => ⟨u, v, rfl, k u v H2 (PreE.trans e1 e2) (MonE.mono e2 ru) rv⟩
end
section
variable {P : Program} {w : World} {K : PySem.W.Frag} {mg : Str → Option Value} {base : Heap} {aN : Addr} {uM uW uL : Value} {C fI fM fR fN fH : Addr} {fdM fdR fdN fdH : FuncData}
/-- a promise: it draws, and a new object comes back -/
def SpDN {α : Type} (Pre : α → Addr → List V → Hp → Prop) (Post : α → V → Hp → Prop) : Sp := fun vs H Q _ => ∃ (x : α) (d l : Addr) (cs : List Int) (rest : List V), vs = .ref d :: rest ∧ DrOk d l cs H ∧ Pre x d rest H ∧ ∀ p H', ED d l cs H H' → H p = none → Post x (.ref p) H' → Q (.ref p) H'
theorem ev_DN {α : Type} {Pre : α → Addr → List V → Hp → Prop} {Post : α → V → Hp → Prop} {d l : Addr} {cs : List Int} {σ : L2.St} {H : Hp} {td : TE} {X : XK} {tl : TA} {RA : List V → Hp → Prop} (x : α) (hd : Eva (ED d l cs) td σ H (Is (.ref d))) (h : EvA (ED d l cs) tl σ H RA) (hr : ∀ vs H1, ED d l cs H H1 → RA vs H1 → Pre x d vs H1) :
    ∀ H1, ED d l cs H H1 → ∀ Q : VK, (∀ p H2, ED d l cs H1 H2 → H1 p = none → Post x (.ref p) H2 → Q (.ref p) H2) → tCall (SpDN Pre Post) [] X (tCons td tl) σ H1 Q := fun H1 e Q q =>
  hd H1 e _ fun v H2 e2 rv => h H2 (PreE.trans e e2) _ fun vs H3 e3 r => by
    have e23 := PreE.trans e2 e3
    refine ⟨x, d, l, cs, vs, by rw [show v = _ from rv, List.append_nil], e3.b, hr vs H3 (PreE.trans e e23) r, fun p H4 e4 n po => q p H4 (PreE.trans e23 e4) (PreE.free e23 n fun z => ?_) po⟩
    have z : p = d := z
    obtain ⟨xs, hx⟩ := e3.b.lst
    rw [z, hx] at n; cases n
def spReadingsL (K : PySem.W.Frag) : Sp := SpDN (α := List Str) MinePre (fun ms v H => ∃ rds : List (Int × Rdg), rds.length ≤ 22 ∧ (rds.map (·.1)).Pairwise (· < ·) ∧ (∀ x ∈ rds, RdD ms x.2) ∧ DcX kI (RdV K) rds v H)
theorem ok_l_readings (D : DefAt K mg "_law_readings" s_l_readings) (U : Uni K mg aN uM uW uL) (c_l_pull : Cal P w K mg base 1 "_law_pull" ["_law_draw", "_law_top"] spPull) (c_l_any : Cal P w K mg base 2 "_law_any" ["_law_draw", "_law_some"] spAny)
    (c_l_reading : Cal P w K mg base 2 "_law_reading" ["_law_draw", "_law_one", "_law_other"] (spReading K)) : Cal P w K mg base 3 "_law_readings" ["_law_draw", "_law_mine"] (spReadingsL K) := by
  refine D.cal 2 sc_l_readings (fun _ _ _ _ _ _ us hl => match us, hl with | [_, _], _ => rfl) (fun vs H Q E h => ?_) (fun f cdv A outer s H vs Q E hr h => ?_)
  · obtain ⟨x, _, _, _, _, rfl, _, ⟨⟨_, rfl, _⟩, _⟩, _⟩ := h; rfl
  obtain ⟨ms, d, l, cs, _, rfl, hd, ⟨⟨_, rfl, a, rfl, ha, ne⟩, nd, h2, h8⟩, k⟩ := h
  have ha : H a = some (.lst (ms.map V.str)) := ha
  refine ⟨_, (pss_cons (ps_set (i := 2) sc_l_readings.nd rfl (Or.inl rfl) pe_dnewK)
      (pss_cons (ps_set (i := 3) sc_l_readings.nd rfl (Or.inl rfl) pe_int)
      (pss_cons (ps_set (i := 4) sc_l_readings.nd rfl (Or.inl rfl) (pe_callB call_len_seq (by rfl) U.len PySem.boot_len (pa_cons (pv 1) pa_nil)))
      (pss_cons (ps_for PassesOwn.never rfl (pi_range1 (by rfl) U.range (pa_cons (pe_op op_add (pe_op op_sub (pv 4) pe_int) (c_l_pull.call (hr.mono (by decide)) (by rfl) (pa_cons (pv 0) (pa_cons (pe_op op_mul pe_int (pv 4)) pa_nil)))) pa_nil)) (pg_name (i := 5) sc_l_readings.nd rfl (Or.inl rfl)) (pss_cons (ps_set (i := 3) sc_l_readings.nd rfl (Or.inl rfl) (pe_op op_add (pe_op op_add (pv 3) pe_int) (pe_op op_fdivA (c_l_pull.call (hr.mono (by decide)) (by rfl) (pa_cons (pv 0) (pa_cons pe_int pa_nil))) pe_int)))
      (pss_cons (ps_par (i := 6) (j := 7) (by rfl) sc_l_readings.nd rfl rfl (by decide) rfl rfl (pa_cons (c_l_any.call (hr.mono (by decide)) (by rfl) (pa_cons (pv 0) (pa_cons (pv 1) pa_nil))) (pa_cons (c_l_any.call (hr.mono (by decide)) (by rfl) (pa_cons (pv 0) (pa_cons (pv 1) pa_nil))) pa_nil)) (by rfl))
      (pss_cons (ps_if (PW.pt (pw_and (pt_cmpR op_lt (pv 5) (pe_op op_sub (pv 4) pe_int) (nomark _)) (pw_and1 (pt_cmpR op_gt (c_l_pull.call (hr.mono (by decide)) (by rfl) (pa_cons (pv 0) (pa_cons pe_int pa_nil))) pe_int (nomark _))))) (pss_one (ps_par (i := 6) (j := 7) (by rfl) sc_l_readings.nd rfl rfl (by decide) rfl rfl (pa_cons (pe_ix ix_list (pv 1) (c_l_pull.call (hr.mono (by decide)) (by rfl) (pa_cons (pv 0) (pa_cons (pe_op op_add (pv 5) pe_int) pa_nil))) (fun _ _ => rfl)) (pa_cons (pe_ix ix_list (pv 1) (pe_op op_add (pv 5) pe_int) (fun _ _ => rfl)) pa_nil)) (by rfl))) pss_nil)
      (pss_cons (ps_if (pt_cmpR op_eq (c_l_pull.call (hr.mono (by decide)) (by rfl) (pa_cons (pv 0) (pa_cons pe_int pa_nil))) pe_int (nomark _)) (pss_one (ps_par (i := 6) (j := 7) (by rfl) sc_l_readings.nd rfl rfl (by decide) rfl rfl (pa_cons (pv 7) (pa_cons (pv 6) pa_nil)) (by rfl))) pss_nil)
      (pss_one (ps_if (pt_cmpR op_ne (pv 6) (pv 7) (nomark _)) (pss_one (ps_dput (hu_of hr) (pv 2) (pv 3) (c_l_reading.call (hr.mono (by decide)) (by rfl) (pa_cons (pv 0) (pa_cons (pv 6) (pa_cons (pv 7) pa_nil)))) rfl)) pss_nil)))))))
      (pss_one (ps_ret (pv 2))))))), ?_⟩
  refine st_seq fun p np => ?_
  have e1 : Same H (upd H p (.dK [])) := Same.new np
  have p1 : (upd H p (.dK [])) p = some (.dK []) := upd_same
  dsimp only
  generalize upd H p (.dK []) = H1 at e1 p1
  refine st_set (E := Same) (R := Is (.int 0)) ev_c (Same.refl _) ?_
  rintro _ H2 e2 rfl
  refine st_set (E := Same) (R := Is (.int (ms.length : Int))) (Eva.is (ev_lenL (ev_var rfl) ((e1.trans e2) _ _ ha)) (by rw [List.length_map])) (Same.refl _) ?_
  rintro _ H3 e3 rfl
  have e03 : ED d l cs H H3 := ((e1.trans e2).trans e3).ed hd
  have p3 := (e2.trans e3) _ _ p1
  refine st_seq (st_forRx (E := ED d l cs) (lo := 1) (hi := 23) (Eva.imp (ev_addIn (lo := 0) (hi := 2 * (ms.length : Int)) (j := (ms.length : Int) - 1) (ev_I0 (ev_var rfl) ev_c) (ev_pull (top := 2 * (ms.length : Int)) (ev_var rfl) (ev_I (i := 2) (j := (ms.length : Int)) ev_c (ev_var rfl) (mul64 ⟨by omega, by omega⟩)) (by omega) (by omega))) fun v H4 _ ⟨r, rv, r1, r2⟩ => ⟨r, rv, by omega, by omega⟩) (PreE.rr e03) (by decide) (by decide) fun n H4 e4 n1 n2 => ?_)
  have e04 := PreE.trans e03 e4
  refine ⟨fun i σ H5 => ∃ o5 o6 o7 rds kk nb, σ = [some (.ref d), some (.ref a), some (.ref p), some (.int nb), some (.int (ms.length : Int)), o5, o6, o7] ∧ ED d l cs H H5 ∧ H5 p = some (.dK kk) ∧ Dc kI (RdV K) rds kk H5 ∧ rds.length ≤ i ∧ (rds.map (·.1)).Pairwise (· < ·) ∧ (∀ x ∈ rds, x.1 ≤ nb) ∧ ∀ x ∈ rds, RdD ms x.2,
    ⟨none, none, none, [], [], 0, rfl, e04, PreE.one e4 (fun _ z => nomatch z) p3, .nil, Nat.le_refl _, .nil, fun x hx => by simp at hx, fun x hx => by simp at hx⟩, ?_, ?_⟩
  · rintro i σ H5 hi ⟨o5, o6, o7, rds, kk, nb, rfl, e5, p5, dc5, hl5, pw5, nb5, rd5⟩
    show tSeq _ _ _ [some (.ref d), some (.ref a), some (.ref p), some (.int nb), some (.int (ms.length : Int)), some (.int (i : Int)), o6, o7] H5
    -- the number
    refine st_set (E := ED d l cs) (R := IntIn (nb + 1) (nb + 3)) (fun H6 e6 Q q => ?_) (PreE.rr e5) ?_
    · refine ev_I0 (E := ED d l cs) (H := H5) (ev_var rfl) ev_c H6 e6 _ fun v H7 e7 rv => ?_
      refine ev_pull (d := d) (l := l) (cs := cs) (H := H5) (top := 3) (ev_var rfl) ev_c (by decide) (by decide) H7 (PreE.trans e6 e7) _ fun v' H8 e8 ⟨r, rv', r1, r2⟩ => ?_
      refine ⟨r, 2, rv', rfl, ⟨by decide, by decide⟩, nb + 1, r.fdiv 2, rv, rfl, q _ H8 (PreE.trans e7 e8) ⟨_, rfl, ?_, ?_⟩⟩
      · have : 0 ≤ r.fdiv 2 := Int.fdiv_nonneg r1 (by decide)
        omega
      · have : r.fdiv 2 = r / 2 := Int.fdiv_eq_ediv_of_nonneg r (by decide)
        rw [this]; omega
    rintro _ H6 e6 ⟨nb', rfl, nb1, nb2⟩
    show tSeq _ _ _ [some (.ref d), some (.ref a), some (.ref p), some (.int nb'), some (.int (ms.length : Int)), some (.int (i : Int)), o6, o7] H6
    have e06 := PreE.trans e5 e6
    have mine : ∀ {H' : Hp} {σ : L2.St}, ED d l cs H H' → σ[1]? = some (some (.ref a)) → Eva (ED d l cs) (tVar 1) σ H' (Lb d (ms.map V.str)) := fun {H' σ} e h => ev_varR h ⟨a, rfl, e.s _ _ ha ne, ne⟩
    have hml : (ms.map V.str).length = ms.length := List.length_map _
    refine st_seq (st_par (E := ED d l cs) (R := InL ms) (S := InL ms) (Eva.imp (ev_any (ev_var rfl) (mine e06 rfl) (by omega) (by omega)) fun v H' _ h => inL_of h) (Eva.imp (ev_any (ev_var rfl) (mine e06 rfl) (by omega) (by omega)) fun v H' _ h => inL_of h) (PreE.rr e06) ?_)
    rintro _ _ H7 e7 ⟨m1, hm1, rfl⟩ ⟨m2, hm2, rfl⟩
    have e07 := PreE.trans e06 e7
    dsimp only
    show tSeq _ _ _ [some (.ref d), some (.ref a), some (.ref p), some (.int nb'), some (.int (ms.length : Int)), some (.int (i : Int)), some (.str m1), some (.str m2)] H7
    refine st_ifp (E := ED d l cs) (p := decide ((i : Int) < (ms.length : Int) - 1) = true) (fun σ H8 => ∃ m1 m2, m1 ∈ ms ∧ m2 ∈ ms ∧ σ = [some (.ref d), some (.ref a), some (.ref p), some (.int nb'), some (.int (ms.length : Int)), some (.int (i : Int)), some (.str m1), some (.str m2)] ∧ ED d l cs H5 H8) ?_ (PreE.rr e07) ?_ (fun H8 e8 => ⟨m1, m2, hm1, hm2, rfl, PreE.trans (PreE.trans e6 e7) e8⟩) ?_
    · exact etp_and (et_test (ev_I0 (ev_var rfl) (ev_I0 (ev_var rfl) ev_c))) (etx_test (ev_cmpIn (lo := 0) (hi := 9) (ev_pull (ev_var rfl) ev_c (by decide) (by decide)) ev_c))
    · intro hp nx hnx H8 e8
      have hp := of_decide_eq_true hp
      have e08 := PreE.trans e07 e8
      have hs8 : H8 a = some (.lst (ms.map V.str)) := e08.s _ _ ha ne
      obtain ⟨m3, hm3⟩ := get_lt (xs := ms) (i := i + 1) (by omega)
      refine st_par (E := ED d l cs) (R := InL ms) (S := Is (.str m3)) (ev_ixIn (ev_var rfl) hs8 (fun z => ne z) (ev_pull (top := (i : Int) + 1) (ev_var rfl) (ev_I0 (ev_var rfl) ev_c) (by omega) (by omega)) (by omega)) (ev_ixL (i := (i : Int) + 1) (ev_var rfl) (SqL.of hs8) (fun z => ne z) (ev_I0 (ev_var rfl) ev_c) (by
        unfold atI
        rw [show ((i : Int) + 1) = ((i + 1 : Nat) : Int) from rfl, ixN_nat (by rw [List.length_map]; omega)]
        show (ms.map V.str)[i + 1]? = _
        rw [List.getElem?_map, hm3]; rfl)) (PreE.rr e8) ?_
      rintro _ _ H9 e9 ⟨m1', hm1', rfl⟩ rfl
      exact hnx _ _ ⟨m1', m3, hm1', List.mem_of_getElem? hm3, rfl, PreE.trans (PreE.trans (PreE.trans e6 e7) e8) e9⟩
    · rintro σ H8 ⟨m1, m2, hm1, hm2, rfl, e8⟩
      have e08 := PreE.trans e5 e8
      refine st_ifx (E := ED d l cs) (fun σ H8 => ∃ m1 m2, m1 ∈ ms ∧ m2 ∈ ms ∧ σ = [some (.ref d), some (.ref a), some (.ref p), some (.int nb'), some (.int (ms.length : Int)), some (.int (i : Int)), some (.str m1), some (.str m2)] ∧ ED d l cs H5 H8) (etx_test (ev_eqIn (lo := 0) (hi := 3) (ev_pull (ev_var rfl) ev_c (by decide) (by decide)) ev_c)) (PreE.rr e08) ?_ (fun H9 e9 => ⟨m1, m2, hm1, hm2, rfl, PreE.trans e8 e9⟩) ?_
      · intro nx hnx H9 e9
        refine st_par (E := ED d l cs) (R := Is (.str m2)) (S := Is (.str m1)) (ev_var rfl) (ev_var rfl) (PreE.rr e9) ?_
        rintro _ _ H10 e10 rfl rfl
        exact hnx _ _ ⟨m2, m1, hm2, hm1, rfl, PreE.trans (PreE.trans e8 e9) e10⟩
      · rintro σ H9 ⟨m1, m2, hm1, hm2, rfl, e9⟩
        have e09 := PreE.trans e5 e9
        have p9 : H9 p = some (.dK kk) := PreE.one e9 (fun _ z => nomatch z) p5
        have dc9 := dc5.mono (PreE.wk e9).tup
        refine st_ifL (E := ED d l cs) (et_test (ev_ne (ev_var rfl) (ev_var rfl) rfl)) (PreE.rr e09) (fun z H10 e10 => ?_) (fun z H10 e10 => ?_)
        · rw [str_dec] at z
          have hne : m1 ≠ m2 := fun e => by rw [e, decide_eq_true rfl] at z; cases z
          have e010 := PreE.trans e09 e10
          have p10 : H10 p = some (.dK kk) := PreE.one e10 (fun _ z => nomatch z) p9
          have dc10 := dc9.mono (PreE.wk e10).tup
          have hlen : kk.length < sizeLine := by
            rw [dc10.length]
            exact Nat.lt_of_le_of_lt (show _ ≤ 30 by omega) (by decide)
          refine st_dputE (E := ED d l cs) (R := RdE K m1 m2) (k := kI nb') (ev_D (α := Str × Str) (m1, m2) (ev_var rfl) (ea_cons (R := Is (.str m1)) (ev_var rfl) (ea_cons (R := Is (.str m2)) (ev_var rfl) ea_nil)) ?_) (PreE.rr e010) rfl (ev_var rfl) p10 hlen ?_
          · rintro vs H' _ ⟨v, r, rfl, hv, v', r', rfl, hv', rfl⟩
            rw [show v = _ from hv, show v' = _ from hv']
          · rintro v H11 e11 ⟨r, hr1, hr2, hrb, hrv⟩
            have e011 := PreE.trans e010 e11
            have p11 : H11 p = some (.dK kk) := PreE.one e11 (fun _ z => nomatch z) p10
            have hnew : valV kk (kI nb') = none := valV_none fun b hb' => by
              obtain ⟨c, hc, ec, _⟩ := paired_mem dc10 hb'
              rw [ec]
              intro z
              have z := Sum.inl.inj z
              have := nb5 c hc
              omega
            have tp11 : Tp H11 (upd H11 p (.dK (putK kk (kI nb') v))) := Tp.putD p11
            refine ⟨_, _, _, rds ++ [(nb', r)], _, nb', rfl, PreE.muts e011 np, upd_same, ?_, ?_, ?_, ?_, ?_⟩
            · rw [putK_new v hnew] at tp11 ⊢
              exact papp ((dc10.mono (PreE.wk e11).tup).mono tp11) (.cons ⟨rfl, MonT.mono tp11 hrv⟩ .nil)
            · rw [List.length_append]; show _ + 1 ≤ _; omega
            · rw [List.map_append, List.pairwise_append]
              refine ⟨pw5, by simp, fun x hx y hy => ?_⟩
              obtain ⟨c, hc, rfl⟩ := List.mem_map.mp hx
              have := nb5 c hc
              have hy : y = nb' := by simpa using hy
              omega
            · intro x hx
              rcases List.mem_append.mp hx with hx | hx
              · have := nb5 x hx; omega
              · rw [List.mem_singleton.mp hx]; exact Int.le_refl _
            · intro x hx
              rcases List.mem_append.mp hx with hx | hx
              · exact rd5 x hx
              · rw [List.mem_singleton.mp hx]
                exact ⟨by rw [hr1]; exact hm1, by rw [hr2]; exact hm2, by rw [hr1, hr2]; exact hne, hrb⟩
        · exact ⟨_, _, _, rds, kk, nb', rfl, PreE.trans e09 e10, PreE.one e10 (fun _ z => nomatch z) p9, dc9.mono (PreE.wk e10).tup, by omega, pw5, fun x hx => by have := nb5 x hx; omega, rd5⟩
  · rintro σ H5 ⟨o5, o6, o7, rds, kk, nb, rfl, e5, p5, dc5, hl5, pw5, nb5, rd5⟩
    exact ⟨_, rfl, k _ _ e5 np ⟨rds, by omega, pw5, rd5, p, kk, rfl, p5, dc5⟩⟩
end
end Gm

set_option maxHeartbeats 4000000
namespace Gm
open PySem PySem.Spec PyProof.Rows L2
/-- the world as the law holds it -/
def wwK (dM dR : Addr) : List (Key × V) := [(kS "marks", .ref dM), (kS "readings", .ref dR)]
structure WwA (K : PySem.W.Frag) (W : Wd) (d dM dR : Addr) (kM kR : List (Key × V)) (H : Hp) : Prop where
  n1 : d ≠ dM
  n2 : d ≠ dR
  n3 : dM ≠ dR
  d : H d = some (.dK (wwK dM dR))
  m : H dM = some (.dK kM)
  m' : Dc kS (AtV K) W.mks kM H
  r : H dR = some (.dK kR)
  r' : Dc kI (RdV K) W.rds kR H
def WwV (K : PySem.W.Frag) (W : Wd) : V → Hp → Prop := fun v H => ∃ d dM dR kM kR, v = .ref d ∧ WwA K W d dM dR kM kR H
theorem WwA.up {E : Hp → Hp → Prop} [PreE E] {K : PySem.W.Frag} {W : Wd} {d dM dR : Addr} {kM kR : List (Key × V)} {A B : Hp} (h : WwA K W d dM dR kM kR A) (e : E A B) : WwA K W d dM dR kM kR B :=
  ⟨h.n1, h.n2, h.n3, PreE.one e (fun _ z => nomatch z) h.d, PreE.one e (fun _ z => nomatch z) h.m, h.m'.mono (PreE.wk e).tup, PreE.one e (fun _ z => nomatch z) h.r, h.r'.mono (PreE.wk e).tup⟩
instance {E : Hp → Hp → Prop} [PreE E] {K : PySem.W.Frag} {W : Wd} : MonE E (WwV K W) := ⟨fun e ⟨d, dM, dR, kM, kR, ev, h⟩ => ⟨d, dM, dR, kM, kR, ev, h.up e⟩⟩
theorem ww_marks (dM dR : Addr) : valV (wwK dM dR) (kS "marks") = some (.ref dM) := rfl
theorem ww_readings (dM dR : Addr) : valV (wwK dM dR) (kS "readings") = some (.ref dR) := by
  unfold wwK
  rw [valV_neg (by intro z; exact absurd (Sum.inr.inj z) (by decide +kernel))]
  rfl
theorem ww_merge (dM dR : Addr) : mergeK [] [(kS "marks", .ref dM), (kS "readings", .ref dR)] = wwK dM dR := by
  have h1 : putK [] (kS "marks") (V.ref dM) = [(kS "marks", V.ref dM)] := putK_new _ rfl
  have h2 : putK [(kS "marks", V.ref dM)] (kS "readings") (V.ref dR) = [(kS "marks", V.ref dM)] ++ [(kS "readings", V.ref dR)] := putK_new _ (by
    rw [valV_neg (by intro z; exact absurd (Sum.inr.inj z) (by decide +kernel))]; rfl)
  show putK (putK [] (kS "marks") (V.ref dM)) (kS "readings") (V.ref dR) = _
  rw [h1, h2]; rfl
theorem lst_ne {d l : Addr} {cs : List Int} {H : Hp} {a : Addr} {ms : List Str} (h : DrOk d l cs H) (ha : H a = some (.lst (ms.map V.str))) : a ≠ d := fun z => by
  obtain ⟨i, a', b, c, q⟩ := h
  rw [z, q.d] at ha
  have h1 := HO.lst.inj (Option.some.inj ha)
  cases ms with
  | nil => cases h1
  | cons x r => cases h1
theorem nameOk_nm {m : Str} (h : nameOk m = true) : 1 ≤ m.length ∧ m.length ≤ 6 ∧ (∀ c ∈ m.cps.toList, c ∈ ("abcdefghijklmnopqrstuvwxyz" : Str).cps.toList) ∧ m ≠ "zzzzzz" := by
  unfold nameOk at h
  simp only [Bool.and_eq_true, decide_eq_true_eq, Bool.not_eq_true', decide_eq_false_iff_not, List.all_eq_true] at h
  exact ⟨h.1, h.2.1, fun c hc => List.contains_iff_mem.mp (h.2.2.1 c hc), h.2.2.2⟩
theorem wd_ok {ms : List Str} {mks : List (Str × Option (Int × Int))} {rds : List (Int × Rdg)} (hn : ∀ m ∈ ms, nameOk m = true) (nd : ms.Nodup) (h8 : ms.length ≤ 8) (hk : mks.map (·.1) = ms) (hb : ∀ x ∈ mks, AtB x.2) (hl : rds.length ≤ 22) (pw : (rds.map (·.1)).Pairwise (· < ·)) (hr : ∀ x ∈ rds, RdD ms x.2) : (Wd.mk mks rds).Ok := by
  have en : (Wd.mk mks rds).names = ms := hk
  refine ⟨by rw [en]; exact nd, ?_, fun m hm => nameOk_nm (hn m (by rw [en] at hm; exact hm)), fun m x y hm => hb _ hm x y rfl, hl, pw, fun n r hm => ?_⟩
  · show mks.length ≤ 8
    rw [← hk, List.length_map] at h8; exact h8
  · have := hr _ hm
    rw [en]
    exact ⟨this.o, this.t, this.ne, this.b.a.1, this.b.a.2, this.b.u.1, this.b.u.2, this.b.w.1, this.b.w.2⟩
section
variable {P : Program} {w : World} {K : PySem.W.Frag} {mg : Str → Option Value} {base : Heap} {aN : Addr} {uM uW uL : Value} {C fI fM fR fN fH : Addr} {fdI fdM fdR fdN fdH : FuncData}
def spGround (K : PySem.W.Frag) : Sp := SpD (α := Unit) (fun _ d vs H => vs = [.int 8]) (fun _ v H => ∃ W : Wd, W.Ok ∧ WwV K W v H)
theorem ok_l_ground (D : DefAt K mg "_law_ground" s_l_ground) (U : Uni K mg aN uM uW uL) (c_l_pull : Cal P w K mg base 1 "_law_pull" ["_law_draw", "_law_top"] spPull) (c_l_names : Cal P w K mg base 3 "_law_names" ["_law_draw"] spNamesL)
    (c_l_marks : Cal P w K mg base 2 "_law_marks" ["_law_draw", "_law_mine"] (spMarksL K)) (c_l_readings : Cal P w K mg base 3 "_law_readings" ["_law_draw", "_law_mine"] (spReadingsL K)) : Cal P w K mg base 4 "_law_ground" ["_law_draw", "_law_most"] (spGround K) := by
  refine D.cal 3 sc_l_ground (fun _ _ _ _ _ _ us hl => match us, hl with | [_, _], _ => rfl) (fun vs H Q E h => ?_) (fun f cdv A outer s H vs Q E hr h => ?_)
  · obtain ⟨x, _, _, _, _, rfl, _, rfl, _⟩ := h; rfl
  obtain ⟨_, d, l, cs, _, rfl, hd, rfl, k⟩ := h
  refine ⟨_, (pss_cons (ps_set (i := 2) sc_l_ground.nd rfl (Or.inl rfl) (pe_slice sl_list (c_l_names.call (hr.mono (by decide)) (by rfl) (pa_cons (pv 0) pa_nil)) po_none (po_some (pe_op op_add pe_int (c_l_pull.call (hr.mono (by decide)) (by rfl) (pa_cons (pv 0) (pa_cons (pe_op op_sub (pv 1) pe_int) pa_nil)))))))
      (pss_cons (ps_set (i := 3) sc_l_ground.nd rfl (Or.inl rfl) (c_l_marks.call (hr.mono (by decide)) (by rfl) (pa_cons (pv 0) (pa_cons (pv 2) pa_nil))))
      (pss_one (ps_ret (pe_disp (pps_cons pe_str (pv 3) (pps_cons pe_str (c_l_readings.call (hr.mono (by decide)) (by rfl) (pa_cons (pv 0) (pa_cons (pv 2) pa_nil))) pps_nil)) (by rfl) (by rfl) (fun z => by cases z) (by decide)))))), ?_⟩
  have e0 : ED d l cs H H := ED.refl hd
  refine st_set (E := ED d l cs) (R := fun v H1 => ∃ ms : List Str, (∀ m ∈ ms, nameOk m = true) ∧ ms.Nodup ∧ 2 ≤ ms.length ∧ ms.length ≤ 8 ∧ LstV (ms.map V.str) v H1) (fun H1 e1 Q q => ?_) e0 ?_
  · refine ev_D (d := d) (l := l) (cs := cs) (H := H) (α := Unit) () (ev_var rfl) ea_nil (fun vs H1 _ r => r) H1 e1 _ fun v H2 e2 ⟨ys, y1, y2, y3, a, ea, ha⟩ => ?_
    subst ea
    have e02 := PreE.trans e1 e2
    have ne := lst_ne e02.b ha
    refine ev_addIn (E := ED d l cs) (H := H) (lo := 0) (hi := 7) (j := 2) ev_c (ev_pull (top := 7) (ev_var rfl) (ev_I0 (i := 8) (j := 1) (ev_var rfl) ev_c) (by decide) (by decide)) H2 e02 _ fun v' H3 e3 ⟨r, rv, r1, r2⟩ => ?_
    refine ⟨r, rv, a, ys.map V.str, rfl, SqL.of (e3.s _ _ ha ne), fun p hp => ?_⟩
    obtain ⟨n, rfl⟩ := Int.eq_ofNat_of_zero_le (show 0 ≤ r by omega)
    have hcut : cutV (ys.map V.str) none (some (n : Int)) = (ys.take n).map V.str := by
      unfold cutV
      rw [HT.sIx_none, HT.sIx_nat, List.length_map, List.drop_zero, List.map_take]
      congr 1; omega
    rw [hcut]
    exact q _ _ (PreE.trans e2 (PreE.trans e3 (PreE.new (PreE.rr e3) hp))) ⟨ys.take n, fun m hm => y1 m (List.mem_of_mem_take hm), (List.take_sublist n ys).nodup y2, by rw [List.length_take]; omega, by rw [List.length_take]; omega, p, rfl, upd_same⟩
  rintro _ H1 e1 ⟨ms, hn, nd, h2, h8, a, rfl, ha⟩
  have ne := lst_ne e1.b ha
  have mine : ∀ {H' : Hp} {σ : L2.St}, ED d l cs H1 H' → σ[2]? = some (some (.ref a)) → Eva (ED d l cs) (tVar 2) σ H' (Lb d (ms.map V.str)) := fun {H' σ} e h => ev_varR h ⟨a, rfl, e.s _ _ ha ne, ne⟩
  refine st_set (E := ED d l cs) (ev_D (α := List Str) ms (ev_var rfl) (ea_cons (mine (PreE.rr e1) rfl) ea_nil) ?_) (PreE.rr e1) ?_
  · rintro vs H' _ ⟨v, r, rfl, hv, rfl⟩
    exact ⟨⟨v, rfl, hv⟩, nd, h2, h8⟩
  rintro _ H2 e2 ⟨mks, mk1, mk2, dM, kM, rfl, hdM, hkM⟩
  refine st_ret (E := ED d l cs) (R := fun v H => ∃ W : Wd, W.Ok ∧ WwV K W v H) (fun H3 e3 Q q => ?_) (PreE.rr e2) fun v H3 e3 r => k v H3 (PreE.trans (PreE.trans e1 e2) e3) r
  intro p hp
  have e4 : ED d l cs H3 (upd H3 p (.dK [])) := PreE.new (PreE.rr e3) hp
  have p4 : (upd H3 p (.dK [])) p = some (.dK []) := upd_same
  generalize upd H3 p (.dK []) = H4 at e4 p4
  have e14 := PreE.trans (PreE.trans e2 e3) e4
  refine ⟨_, rfl, ?_⟩
  refine ev_DN (d := d) (l := l) (cs := cs) (H := H4) (α := List Str) ms (ev_var rfl) (ea_cons (mine e14 rfl) ea_nil) ?_ H4 (PreE.rr e4) _ fun dR H5 e5 ndR ⟨rds, rd1, rd2, rd3, _, kR, ev, hdR, hkR⟩ => ?_
  · rintro vs H' _ ⟨v, r, rfl, hv, rfl⟩
    exact ⟨⟨v, rfl, hv⟩, nd, h2, h8⟩
  cases ev
  have p5 : H5 p = some (.dK []) := PreE.one e5 (fun _ z => nomatch z) p4
  have e35 := PreE.trans e4 e5
  have e25 := PreE.trans e3 e35
  have hdM5 : H5 dM = some (.dK kM) := PreE.one e25 (fun _ z => nomatch z) hdM
  have hkM5 := hkM.mono (PreE.wk e25).tup
  have dMp : dM ≠ p := fun z => by
    have this : H3 dM = some (.dK kM) := PreE.one e3 (fun _ z => nomatch z) hdM
    rw [z, hp] at this; cases this
  have hdR4 : dR ≠ p := fun z => by
    rw [z, p4] at ndR; cases ndR
  refine ⟨p5, [(kS "marks", .ref dM), (kS "readings", .ref dR)], rfl, by simp, ?_⟩
  have tp : Tp H5 (upd H5 p (.dK (mergeK [] [(kS "marks", .ref dM), (kS "readings", .ref dR)]))) := Tp.putD p5
  refine q _ _ (PreE.muts e35 hp) ⟨⟨mks, rds⟩, wd_ok hn nd h8 mk1 mk2 rd1 rd2 rd3, p, dM, dR, kM, kR, rfl, ?_⟩
  rw [ww_merge] at tp ⊢
  refine ⟨dMp.symm, hdR4.symm, fun z => ?_, upd_same, by rw [upd_ne dMp]; exact hdM5, hkM5.mono tp, by rw [upd_ne hdR4]; exact hdR, hkR.mono tp⟩
  have this : H4 dM = some (.dK kM) := PreE.one (PreE.trans e3 e4) (fun _ z => nomatch z) hdM
  rw [z, ndR] at this; cases this
end
end Gm

set_option maxHeartbeats 4000000
namespace Gm
open PySem PySem.Spec PyProof.Rows L2
/-! ### the closure, in rounds -/
def h1S (a b : Str) (L : List Str) : List Str := if decide (a ∈ L) && !decide (b ∈ L) then L ++ [b] else L
def hS (L : List Str) (r : Rdg) : List Str := h1S r.other r.one (h1S r.one r.other L)
def rnd (rds : List (Int × Rdg)) (L : List Str) : List Str := rds.foldl (fun L x => hS L x.2) L
def rnds (rds : List (Int × Rdg)) (L : List Str) : Nat → List Str
  | 0 => L
  | n + 1 => rnd rds (rnds rds L n)
theorem h1S_cases (a b : Str) (L : List Str) : h1S a b L = L ∨ (h1S a b L = L ++ [b] ∧ a ∈ L ∧ b ∉ L) := by
  unfold h1S
  split
  · rename_i h
    simp only [Bool.and_eq_true, decide_eq_true_eq, Bool.not_eq_true', decide_eq_false_iff_not] at h
    exact .inr ⟨rfl, h.1, h.2⟩
  · exact .inl rfl
theorem h1S_len (a b : Str) (L : List Str) : L.length ≤ (h1S a b L).length := by
  rcases h1S_cases a b L with e | ⟨e, _⟩
  · rw [e]; exact Nat.le_refl _
  · rw [e, List.length_append]; omega
theorem h1S_fix {a b : Str} {L : List Str} (h : (h1S a b L).length = L.length) : h1S a b L = L := by
  rcases h1S_cases a b L with e | ⟨e, _⟩
  · exact e
  · rw [e, List.length_append] at h; simp at h
theorem hS_len (L : List Str) (r : Rdg) : L.length ≤ (hS L r).length := Nat.le_trans (h1S_len _ _ _) (h1S_len _ _ _)
theorem hS_fix {L : List Str} {r : Rdg} (h : (hS L r).length = L.length) : hS L r = L ∧ (r.one ∈ L ↔ r.other ∈ L) := by
  unfold hS at h ⊢
  have a1 := h1S_len r.one r.other L
  have a2 := h1S_len r.other r.one (h1S r.one r.other L)
  have e1 : h1S r.one r.other L = L := h1S_fix (by omega)
  rw [e1] at h ⊢
  have e2 : h1S r.other r.one L = L := h1S_fix h
  refine ⟨e2, fun m => Classical.byContradiction fun n => ?_, fun m => Classical.byContradiction fun n => ?_⟩
  · unfold h1S at e1
    rw [decide_eq_true m, decide_eq_false n] at e1
    have := congrArg List.length e1
    simp at this
  · unfold h1S at e2
    rw [decide_eq_true m, decide_eq_false n] at e2
    have := congrArg List.length e2
    simp at this
theorem rnd_len : ∀ (rds : List (Int × Rdg)) (L : List Str), L.length ≤ (rnd rds L).length
  | [], _ => Nat.le_refl _
  | x :: rds, L => Nat.le_trans (hS_len L x.2) (rnd_len rds _)
theorem rnd_fix : ∀ (rds : List (Int × Rdg)) (L : List Str), (rnd rds L).length = L.length → rnd rds L = L ∧ ∀ n r, (n, r) ∈ rds → (r.one ∈ L ↔ r.other ∈ L)
  | [], _, _ => ⟨rfl, fun _ _ h => by simp at h⟩
  | x :: rds, L, h => by
    have h : (rnd rds (hS L x.2)).length = L.length := h
    have a1 := hS_len L x.2
    have a2 := rnd_len rds (hS L x.2)
    obtain ⟨e1, c1⟩ := hS_fix (L := L) (r := x.2) (by omega)
    have hh : rnd (x :: rds) L = rnd rds (hS L x.2) := rfl
    rw [hh, e1]
    rw [e1] at h
    obtain ⟨e2, c2⟩ := rnd_fix rds L h
    refine ⟨e2, fun n r hr => ?_⟩
    rcases List.mem_cons.mp hr with e | hr
    · subst e; exact c1
    · exact c2 n r hr
theorem rnds_len (rds : List (Int × Rdg)) (L : List Str) : ∀ n, (∃ i, i < n ∧ (rnds rds L (i + 1)).length = (rnds rds L i).length) ∨ L.length + n ≤ (rnds rds L n).length
  | 0 => .inr (Nat.le_refl _)
  | n + 1 => by
    rcases rnds_len rds L n with ⟨i, hi, e⟩ | h
    · exact .inl ⟨i, by omega, e⟩
    · by_cases e : (rnds rds L (n + 1)).length = (rnds rds L n).length
      · exact .inl ⟨n, by omega, e⟩
      · have := rnd_len rds (rnds rds L n)
        have e2 : rnds rds L (n + 1) = rnd rds (rnds rds L n) := rfl
        rw [e2] at e ⊢
        exact .inr (by omega)
theorem rnds_stay {rds : List (Int × Rdg)} {L : List Str} {i : Nat} (h : rnd rds (rnds rds L i) = rnds rds L i) : ∀ n, i ≤ n → rnds rds L n = rnds rds L i
  | 0, hn => by have : i = 0 := by omega
                subst this; rfl
  | n + 1, hn => by
    by_cases e : i = n + 1
    · subst e; rfl
    · have := rnds_stay h n (by omega)
      show rnd rds (rnds rds L n) = _
      rw [this, h]
/-- a property of the members that a step keeps -/
structure HL (W : Wd) (L : List Str) : Prop where
  nd : L.Nodup
  hg : ∀ m ∈ L, m ∈ W.names ∧ W.Hang m
theorem HL.h1 {W : Wd} {L : List Str} {a b : Str} (h : HL W L) (hb : b ∈ W.names) (hh : W.Hang a → W.Hang b) : HL W (h1S a b L) := by
  rcases h1S_cases a b L with e | ⟨e, ha, hn⟩
  · rw [e]; exact h
  · rw [e]
    refine ⟨?_, fun m hm => ?_⟩
    · rw [List.nodup_append]
      exact ⟨h.nd, by simp, fun x hx y hy => by rw [List.mem_singleton.mp hy]; intro z; exact hn (by rw [← z]; exact hx)⟩
    · rcases List.mem_append.mp hm with hm | hm
      · exact h.hg m hm
      · rw [List.mem_singleton.mp hm]; exact ⟨hb, hh (h.hg a ha).2⟩
theorem HL.step {W : Wd} (ok : W.Ok) {L : List Str} {n : Int} {r : Rdg} (h : HL W L) (hr : (n, r) ∈ W.rds) : HL W (hS L r) := by
  have := ok.rd n r hr
  exact (h.h1 this.2.1 (.fwd hr)).h1 this.1 (.bwd hr)
theorem HL.fold {W : Wd} (ok : W.Ok) : ∀ (rds : List (Int × Rdg)) (L : List Str), (∀ x ∈ rds, x ∈ W.rds) → HL W L → HL W (rnd rds L)
  | [], _, _, h => h
  | x :: rds, L, hs, h => HL.fold ok rds _ (fun y hy => hs y (List.mem_cons_of_mem _ hy)) (h.step ok (n := x.1) (r := x.2) (hs x List.mem_cons_self))
theorem HL.rnds {W : Wd} (ok : W.Ok) {L : List Str} (h : HL W L) : ∀ n, HL W (rnds W.rds L n)
  | 0 => h
  | n + 1 => HL.fold ok _ _ (fun x hx => hx) (HL.rnds ok h n)
theorem HL.len {W : Wd} {L : List Str} (ok : W.Ok) (h : HL W L) : L.length ≤ W.mks.length := by
  have : ∀ (L N : List Str), L.Nodup → (∀ m ∈ L, m ∈ N) → L.length ≤ N.length := by
    intro L
    induction L with
    | nil => intro N _ _; exact Nat.zero_le _
    | cons a L ih =>
      intro N nd hs
      rw [List.nodup_cons] at nd
      have ha := hs a List.mem_cons_self
      have := ih (N.erase a) nd.2 fun m hm => (List.mem_erase_of_ne (fun z => nd.1 (by rw [← z]; exact hm))).mpr (hs m (List.mem_cons_of_mem _ hm))
      rw [List.length_erase_of_mem ha] at this
      have hp : 0 < N.length := List.length_pos_of_mem ha
      rw [List.length_cons]; omega
  have := this L W.names h.nd fun m hm => (h.hg m hm).1
  unfold Wd.names at this
  rw [List.length_map] at this; exact this
theorem h1S_sub (a b : Str) (L : List Str) : ∀ m ∈ L, m ∈ h1S a b L := fun m hm => by
  rcases h1S_cases a b L with e | ⟨e, _⟩
  · rw [e]; exact hm
  · rw [e]; exact List.mem_append_left _ hm
theorem rnd_sub : ∀ (rds : List (Int × Rdg)) (L : List Str), ∀ m ∈ L, m ∈ rnd rds L
  | [], _, _, h => h
  | x :: rds, L, m, h => rnd_sub rds _ m (h1S_sub _ _ _ m (h1S_sub _ _ _ m h))
theorem rnds_sub (rds : List (Int × Rdg)) (L : List Str) : ∀ n, ∀ m ∈ L, m ∈ rnds rds L n
  | 0, _, h => h
  | n + 1, m, h => rnd_sub rds _ m (rnds_sub rds L n m h)
/-- the fixed marks, as the law begins -/
def fixN (W : Wd) : List Str := (W.mks.filter fun x => x.2.isSome).map (·.1)
theorem fixN_hl {W : Wd} (ok : W.Ok) : HL W (fixN W) := by
  refine ⟨(List.filter_sublist.map _).nodup ok.nd, fun m hm => ?_⟩
  obtain ⟨⟨m', o⟩, hx, rfl⟩ := List.mem_map.mp hm
  obtain ⟨hx, ho⟩ := List.mem_filter.mp hx
  refine ⟨List.mem_map.mpr ⟨_, hx, rfl⟩, ?_⟩
  cases o with
  | none => cases ho
  | some p => exact .fix hx
theorem rounds_hung {W : Wd} (ok : W.Ok) : srt (rnds W.rds (fixN W) W.mks.length) = W.hung := by
  have hl := (fixN_hl ok).rnds ok W.mks.length
  have cl : ∀ n r, (n, r) ∈ W.rds → (r.one ∈ rnds W.rds (fixN W) W.mks.length ↔ r.other ∈ rnds W.rds (fixN W) W.mks.length) := by
    by_cases h0 : fixN W = []
    · have : ∀ n, rnds W.rds ([] : List Str) n = [] := by
        have hr : ∀ rds : List (Int × Rdg), rnd rds [] = [] := by
          intro rds
          induction rds with
          | nil => rfl
          | cons x rds ih => exact ih
        intro n
        induction n with
        | zero => rfl
        | succ n ih => show rnd _ (rnds _ _ n) = _; rw [ih, hr]
      rw [h0, this]
      intro n r _; simp
    · rcases rnds_len W.rds (fixN W) W.mks.length with ⟨i, hi, e⟩ | h
      · obtain ⟨e1, c⟩ := rnd_fix W.rds (rnds W.rds (fixN W) i) e
        rw [rnds_stay e1 _ (by omega)]; exact c
      · have h1 := hl.len ok
        have h2 : 0 < (fixN W).length := List.length_pos_iff.mpr h0
        omega
  have all : ∀ m, W.Hang m → m ∈ rnds W.rds (fixN W) W.mks.length := fun m h => by
    induction h with
    | fix h => exact rnds_sub _ _ _ _ (List.mem_map.mpr ⟨_, List.mem_filter.mpr ⟨h, rfl⟩, rfl⟩)
    | fwd h _ ih => exact (cl _ _ h).mp ih
    | bwd h _ ih => exact (cl _ _ h).mpr ih
  unfold Wd.hung
  refine srt_congr ((List.perm_ext_iff_of_nodup hl.nd (ok.nd.filter _)).mpr fun m => ?_)
  rw [List.mem_filter, Wd.hg_iff]
  exact ⟨fun h => hl.hg m h, fun h => all m h.2⟩
end Gm

set_option maxHeartbeats 4000000
namespace Gm
open PySem PySem.Spec PyProof.Rows L2
section
variable {K : PySem.W.Frag} {σ : L2.St} {H H' : Hp} {te ta tb td : TE} {R : V → Hp → Prop}
/-- a comprehension with a test; its list is new -/
theorem ev_lcF {wi : TI} {n : Nat} {Y : Nat → V → Hp → Prop} {g : TG} {tt : TT} {own : List Nat} (hI : EvI Same wi σ H n Y) (hn : n ≤ 100000) (b : Nat → Bool) (R : Nat → V → Hp → Prop) [hR : ∀ i, MonW (R i)]
    (step : ∀ i x H', i < n → Same H H' → Y i x H' → ∃ σ2, TgOk g x (wipe σ own) H' σ2 ∧ wipe σ2 own = wipe σ own ∧ EvT Same tt σ2 H' (b i) ∧ (b i = true → Eva Same te σ2 H' (R i))) :
    EvaN (tLc wi g tt te own) σ H (fun v H' => ∃ D ys, v = .ref D ∧ H' D = some (.lst ys) ∧ Paired (fun y i => R i y H') ys ((List.range n).filter b)) := fun H1 e Q q =>
  hI H1 e _ fun J H2 e2 jk D hD => by
    have e12 := e.trans e2
    refine ⟨fun i m H' => m = n - i ∧ i ≤ n ∧ Same H2 H' ∧ ∃ acc, H' D = some (.lst acc) ∧ Paired (fun y i => R i y H') acc ((List.range i).filter b), ⟨n, by simp, Nat.zero_le _, Same.new hD, [], upd_same, .nil⟩, ?_⟩
    rintro i m H' ⟨rfl, hi, e3, acc, ha, hp⟩
    by_cases hlt : i < n
    · refine .inr ⟨((jk H' e3).2 i hlt).1, fun H'' => i + 1 ≤ n ∧ Same H2 H'' ∧ ∃ acc, H'' D = some (.lst acc) ∧ Paired (fun y i => R i y H'') acc ((List.range (i + 1)).filter b), fun H'' w => ⟨n - (i + 1), by omega, rfl, w⟩, fun x H4 y => ?_⟩
      obtain ⟨e4, yx⟩ := ((jk H' e3).2 i hlt).2 x H4 y
      have e24 := e3.trans e4
      obtain ⟨σ2, tg, hw, hb, hv⟩ := step i x H4 hlt (e12.trans e24) yx
      refine tg _ ⟨hw, hb H4 (Same.refl _) _ fun H5 e5 => ?_⟩
      have e25 := e24.trans e5
      have ha5 : H5 D = some (.lst acc) := (e4.trans e5) _ _ ha
      have hp5 := pimp (fun y i (r : R i y H') => MonW.mono (e4.trans e5).wk r) hp
      have hlen : acc.length ≤ i := by
        rw [hp.length]
        exact Nat.le_trans (List.length_filter_le _ _) (by simp)
      cases hbi : b i with
      | false =>
        refine iteF ⟨hlt, e25, acc, ha5, ?_⟩
        rw [filter_snoc, hbi]
        simpa using hp5
      | true =>
        refine iteT (hv hbi H5 e5 _ fun y H6 e6 ry => ⟨acc, e6 _ _ ha5, Nat.lt_of_le_of_lt (Nat.le_trans hlen (Nat.le_trans hi hn)) (by decide), hlt, Same.mut (e25.trans e6) hD, acc ++ [y], upd_same, ?_⟩)
        rw [filter_snoc, hbi]
        have w6 : Wk H6 (upd H6 D (.lst (acc ++ [y]))) := Wk.putL (e6 _ _ ha5)
        refine papp (pimp (fun y i (r : R i y H5) => MonW.mono (e6.wk.trans w6) r) hp5) (.cons (MonW.mono w6 ry) .nil)
    · have en : i = n := by omega
      subst en
      exact .inl ⟨(jk H' e3).1, q _ H' (e2.trans e3) (e2.free hD) ⟨D, acc, rfl, ha, hp⟩⟩
theorem st_lockSetN {D : Ends} {d : Addr} {kvs : List (Key × V)} {i : Nat} [MonL R] (h : H d = some (.dK kvs)) (ht : ∀ od, EvaN te σ (upd H d (.frz od (.dK kvs))) R) (k : ∀ p H1, Same H H1 → H p = none → R (.ref p) H1 → D.nx (σ.set i (some (.ref p))) H1) : tLock (tAsg te (gName i)) D σ H :=
  st_lock h fun od => ht od _ (Same.refl _) _ fun p H2 e2 n r => ⟨e2 _ _ upd_same, k p _ (Same.lock h e2) (by
    by_cases e : p = d
    · subst e; rw [upd_same] at n; cases n
    · rw [upd_ne e] at n; exact n) (MonL.mono (WkL.unlock (e2 _ _ upd_same)) r)⟩
theorem inV_S (m : Str) (L : List Str) : inV (.str m) (L.map V.str) = decide (m ∈ L) := by
  unfold inV
  rw [Bool.eq_iff_iff, List.any_eq_true, decide_eq_true_eq]
  constructor
  · rintro ⟨y, hy, e⟩
    obtain ⟨x, hx, rfl⟩ := List.mem_map.mp hy
    have e : (x == m) = true := e
    rw [beq_iff_eq] at e
    rw [← e]; exact hx
  · intro h
    exact ⟨.str m, List.mem_map.mpr ⟨m, h, rfl⟩, by show (m == m) = true; exact beq_self_eq_true m⟩
theorem flat_S : ∀ L : List Str, (L.map V.str).all flatV = true
  | [] => rfl
  | _ :: L => by rw [List.map_cons, List.all_cons, flat_S L]; rfl
theorem ev_inS {p : Addr} {L : List Str} {m : Str} (ha : Eva Same ta σ H (Is (.str m))) (hb : Eva Same tb σ H (Is (.ref p))) (hp : H p = some (.lst (L.map V.str))) : Eva Same (tOp (rIn K false) ta tb) σ H (Is (.bl (decide (m ∈ L)))) := fun H1 e Q q =>
  ha H1 e _ fun x H2 e2 rx => hb H2 (e.trans e2) _ fun y H3 e3 ry => by
    rw [show x = _ from rx]
    exact ⟨p, L.map V.str, ry, .inl (SqL.of ((e.trans e2).trans e3 _ _ hp)), rfl, flat_S L, q _ H3 (e2.trans e3) (by rw [inV_S]; rfl)⟩
theorem ev_notinS {p : Addr} {L : List Str} {m : Str} (ha : Eva Same ta σ H (Is (.str m))) (hb : Eva Same tb σ H (Is (.ref p))) (hp : H p = some (.lst (L.map V.str))) : Eva Same (tOp (rIn K true) ta tb) σ H (Is (.bl (!decide (m ∈ L)))) := fun H1 e Q q =>
  ha H1 e _ fun x H2 e2 rx => hb H2 (e.trans e2) _ fun y H3 e3 ry => by
    rw [show x = _ from rx]
    exact ⟨p, L.map V.str, ry, .inl (SqL.of (((e.trans e2).trans e3) _ _ hp)), rfl, flat_S L, q _ H3 (e2.trans e3) (by rw [inV_S]; rfl)⟩
theorem ev_sortedS {p : Addr} {L : List Str} (ha : Eva Same ta σ H (Is (.ref p))) (hp : H p = some (.lst (L.map V.str))) (hl : L.length < 64) : Eva Same (tCB (rSortedS K) (tCons ta tNil)) σ H (LstV ((srt L).map V.str)) := fun H1 e Q q =>
  ha H1 e _ fun x H2 e2 rx => ⟨p, L, by rw [show x = _ from rx], SqL.of ((e.trans e2) _ _ hp), hl, fun ys r pm so hr => by
    rw [srt_of pm so]
    exact q _ _ (e2.trans (Same.new hr)) ⟨r, rfl, upd_same⟩⟩
theorem ev_lenDx {d : Addr} {kvs : List (Key × V)} (ha : Eva Same ta σ H (Is (.ref d))) (hd : H d = some (.dK kvs)) : Eva Same (tCB (fun xs H Q => ∃ a kvs, xs = [V.ref a] ∧ H a = some (.dK kvs) ∧ Q (.int kvs.length) H) (tCons ta tNil)) σ H (Is (.int (kvs.length : Int))) := fun H1 e Q q =>
  ha H1 e _ fun x H2 e2 rx => ⟨d, kvs, by rw [show x = _ from rx], (e.trans e2) _ _ hd, q _ H2 e2 rfl⟩
/-- for k in d, d a dict that an expression gives -/
theorem st_forKe {d : Addr} {kvs : List (Key × V)} {g : TG} {tb : TS} {D : Ends} (hd : H d = some (.dK kvs)) (hv : ∀ od, Eva Same te σ (upd H d (.frz od (.dK kvs))) (Is (.ref d)))
    (k : ∀ od H1, Same (upd H d (.frz od (.dK kvs))) H1 → ∃ Pv : Nat → L2.St → Hp → Prop, Pv 0 σ H1 ∧ (∀ i σ' H', Pv i σ' H' → H' d = some (.frz od (.dK kvs))) ∧
      (∀ i kk vv σ' H', kvs[i]? = some (kk, vv) → Pv i σ' H' → g (kV kk) σ' H' fun σ2 H3 => tb { nx := Pv (i + 1), ct := Pv (i + 1), bk := fun σ' H' => H' d = some (.frz od (.dK kvs)) ∧ D.nx σ' (upd H' d (.dK kvs)), rt := fun v H' => H' d = some (.frz od (.dK kvs)) ∧ D.rt v (upd H' d (.dK kvs)) } σ2 H3) ∧
      (∀ σ' H', Pv kvs.length σ' H' → D.nx σ' (upd H' d (.dK kvs)))) : tLock (tFor (iKeys te) g tb) D σ H := by
  refine st_lock hd fun od => ?_
  refine hv od _ (Same.refl _) _ fun v H1 e1 rv => ?_
  obtain ⟨Pv, h0, hl, hs, hdn⟩ := k od H1 e1
  refine ⟨d, od, rv, .inl ⟨kvs, e1 _ _ upd_same, for_it walk_keys Pv h0 (fun i σ' H' _ p => hl i σ' H' p) ?_ fun σ' H' p => ⟨hl _ σ' H' p, hdn σ' H' p⟩⟩⟩
  rintro i x σ' H1 H2 hi p ⟨rfl, kk, vv, hk, rfl⟩
  exact hs i kk vv σ' _ hk p
end
section
variable {P : Program} {w : World} {K : PySem.W.Frag} {mg : Str → Option Value} {base : Heap} {aN : Addr} {uM uW uL : Value} {C fI fM fR fN fH : Addr} {fdI fdM fdR fdN fdH : FuncData}
def PreWw (K : PySem.W.Frag) (W : Wd) : List V → Hp → Prop := fun vs H => (∃ v, vs = [v] ∧ WwV K W v H) ∧ W.Ok
def spSurvey (K : PySem.W.Frag) (C : Addr) : Sp := SpG (α := Wd) (PreWw K) (fun W v H => SurV K C W v H)
theorem ok_l_survey (D : DefAt K mg "_law_survey" s_l_survey) (U : Uni K mg aN uM uW uL) (M : SurM K mg C fI fM fR fN fH) (c_Survey_init : MFn P w K mg base 5 fI fdI ["self", "marks", "readings"] (spInit K C)) : Cal P w K mg base 7 "_law_survey" ["_law_w"] (spSurvey K C) := by
  refine D.cal 6 sc_l_survey (fun _ _ _ _ _ _ us hl => match us, hl with | [_], _ => rfl) (fun vs H Q E h => ?_) (fun f cdv A outer s H vs Q E hr h => ?_)
  · obtain ⟨x, ⟨⟨_, rfl, _⟩, _⟩, _⟩ := h; rfl
  obtain ⟨W, ⟨⟨_, rfl, d, dM, dR, kM, kR, rfl, hw⟩, ok⟩, k⟩ := h
  refine ⟨_, (pss_one (ps_ret (pe_make M.mkk c_Survey_init.F (hr.mono (by decide)) (by rfl) M.mg c_Survey_init.b .nil pass0 (pa_cons (pe_callTy call_dictD (by rfl) U.dict (by decide +kernel) (pa_cons (pe_dget (hu_of hr) (pv 0) pe_str (fun _ _ => rfl)) pa_nil)) (pa_cons (pe_callTy call_dictD (by rfl) U.dict (by decide +kernel) (pa_cons (pe_dget (hu_of hr) (pv 0) pe_str (fun _ _ => rfl)) pa_nil)) pa_nil))))), ?_⟩
  have h1 : Eva Same (tDGet (tVar 0) (tC (.str "marks"))) (start n_l_survey [.ref d]) H (Is (.ref dM)) := ev_dget (k := kS "marks") (ev_var rfl) (.inl hw.d) ev_c (ww_marks dM dR)
  have h2 : Eva Same (tDGet (tVar 0) (tC (.str "readings"))) (start n_l_survey [.ref d]) H (Is (.ref dR)) := ev_dget (k := kS "readings") (ev_var rfl) (.inl hw.d) ev_c (ww_readings dM dR)
  refine st_ret (E := Same) (R := SurV K C W) (fun H1 e1 Q q => ?_) (Same.refl _) fun v H1 e r => k v H1 e r
  refine ea_cons (E := Same) (R := DcX kS (AtV K) W.mks) (Eva.imp (ev_dictD h1 (.inl hw.m)).eva fun v H2 e2 ⟨p, ep, hp⟩ => ⟨p, kM, ep, hp, hw.m'.mono e2.tp⟩) (ea_cons (R := DcX kI (RdV K) W.rds) (Eva.imp (ev_dictD h2 (.inl hw.r)).eva fun v H2 e2 ⟨p, ep, hp⟩ => ⟨p, kR, ep, hp, hw.r'.mono e2.tp⟩) ea_nil) H1 e1 _ fun vs H2 e2 ra => ?_
  obtain ⟨v1, _, rfl, hv1, v2, _, rfl, hv2, rfl⟩ := ra
  intro x dx hx hdx hne
  have e3 : Same H2 (upd (upd H2 dx (.own x)) x (.ins C dx [])) := (Same.new hdx).trans (Same.new (by rw [upd_ne hne.symm]; exact hx))
  refine ⟨W, x, dx, v1, v2, rfl, upd_same, MonE.mono e3 hv1, MonE.mono e3 hv2, ok, fun H4 hs4 sb => ⟨rfl, q _ H4 (e2.trans fun a o ha => ?_) hs4⟩⟩
  exact sb a o (e3 _ _ ha) (fun z => by rw [z, hx] at ha; cases ha)
/-- _law_open -/
def spOpen (K : PySem.W.Frag) : Sp := fun vs H Q _ => ∃ (a : Addr) (cs : List Int), vs = [.ref a] ∧ SqL K H a (cs.map V.int) ∧ ∀ d l H', Same H H' → DrOk d l (cs.take 63) H' → Q (.ref d) H'
theorem ok_l_open (D : DefAt K mg "_law_open" s_l_open) (U : Uni K mg aN uM uW uL) : Cal P w K mg base 1 "_law_open" ["_law_script"] (spOpen K) := by
  refine D.cal 0 sc_l_open (fun _ _ _ _ _ _ us hl => match us, hl with | [_], _ => rfl) (fun vs H Q E h => ?_) (fun f cdv A outer s H vs Q E hr h => ?_)
  · obtain ⟨_, _, rfl, _⟩ := h; rfl
  obtain ⟨a, cs, rfl, ha, k⟩ := h
  refine ⟨_, (pss_one (ps_ret (pe_lst (pa_cons (pe_callTy call_list_of (by rfl) U.list (by decide +kernel) (pa_cons (pe_slice sl_list (pv 0) po_none (po_some pe_int)) pa_nil)) (pa_cons pe_int (pa_cons pe_int (pa_cons pe_int (pa_cons pe_int pa_nil)))))))), ?_⟩
  refine ⟨_, rfl, 63, rfl, a, cs.map V.int, rfl, ha, fun p hp => ?_⟩
  have hcut : cutV (cs.map V.int) none (some 63) = (cs.take 63).map V.int := by
    unfold cutV
    rw [HT.sIx_none, show (63 : Int) = ((63 : Nat) : Int) from rfl, HT.sIx_nat, List.length_map, List.drop_zero, List.map_take]
    by_cases h : 63 ≤ cs.length
    · congr 1; omega
    · rw [List.take_of_length_le (by rw [List.length_map]; omega), List.take_of_length_le (by rw [List.length_map]; omega)]
  rw [hcut]
  have e1 : Same H (upd H p (.lst ((cs.take 63).map V.int))) := Same.new hp
  refine ⟨p, _, rfl, .inl (SqL.of upd_same), fun l hl => ?_⟩
  generalize upd H p (.lst ((cs.take 63).map V.int)) = H1 at e1 hl
  have e2 : Same H1 (upd H1 l (.lst ((cs.take 63).map V.int))) := Same.new hl
  have l2 : (upd H1 l (.lst ((cs.take 63).map V.int))) l = some (.lst ((cs.take 63).map V.int)) := upd_same
  generalize upd H1 l (.lst ((cs.take 63).map V.int)) = H2 at e2 l2
  refine ⟨(by show 5 ≤ sizeLine; decide), fun d hd => ?_⟩
  exact k d l _ ((e1.trans e2).trans (Same.new hd)) ⟨0, 0, 811, 0, upd_same, by rw [upd_ne (fun z => by rw [z, hd] at l2; cases l2)]; exact l2, by decide, by decide, by decide⟩
end
end Gm

set_option maxHeartbeats 4000000
namespace Gm
open PySem PySem.Spec PyProof.Rows L2
theorem same_upd {A B : Hp} {d : Addr} {o : HO} (e : Same A B) : Same (upd A d o) (upd B d o) := fun a u h => by
  by_cases z : a = d
  · subst z; rw [upd_same] at h ⊢; exact h
  · rw [upd_ne z] at h ⊢; exact e a u h
theorem at_isN {K : PySem.W.Frag} {H : Hp} {o : Option (Int × Int)} {v : V} (h : AtV K o v H) : decide (v = .non) = o.isNone := by
  cases o with
  | none => cases (show v = .non from h); rfl
  | some p => obtain ⟨a, rfl, _⟩ := (show TupV K _ v H from h); rfl
/-- a mark's place in the world's dict -/
theorem mk_val {K : PySem.W.Frag} {W : Wd} {kM : List (Key × V)} {H : Hp} (ok : W.Ok) (h : Dc kS (AtV K) W.mks kM H) {m : Str} (hm : m ∈ W.names) : ∃ v, valV kM (kS m) = some v ∧ AtV K (W.fx m) v H := by
  obtain ⟨⟨m', o⟩, v, hx, e, hv, hr, hf⟩ := h.has inr_inj hm
  have e : m' = m := e
  subst e
  rw [Wd.fx_none hf]
  exact ⟨v, hv, hr⟩
theorem rd_val {K : PySem.W.Frag} {W : Wd} {kR : List (Key × V)} {H : Hp} (ok : W.Ok) (h : Dc kI (RdV K) W.rds kR H) {n : Int} {r : Rdg} (hm : (n, r) ∈ W.rds) : ∃ v, valV kR (kI n) = some v ∧ RdV K r v H := by
  have := h.val inl_inj n
  rw [ok.find hm] at this
  exact this
section
variable {P : Program} {w : World} {K : PySem.W.Frag} {mg : Str → Option Value} {base : Heap} {aN : Addr} {uM uW uL : Value} {C fI fM fR fN fH : Addr} {fdI fdM fdR fdN fdH : FuncData}
noncomputable def spLHung (K : PySem.W.Frag) : Sp := SpG (α := Wd) (PreWw K) (fun W => LstV (W.hung.map V.str))
theorem ok_l_hung (D : DefAt K mg "_law_hung" s_l_hung) (U : Uni K mg aN uM uW uL) : Cal P w K mg base 1 "_law_hung" ["_law_w"] (spLHung K) := by
  refine D.cal 0 sc_l_hung (fun _ _ _ _ _ _ us hl => match us, hl with | [_], _ => rfl) (fun vs H Q E h => ?_) (fun f cdv A outer s H vs Q E hr h => ?_)
  · obtain ⟨x, ⟨⟨_, rfl, _⟩, _⟩, _⟩ := h; rfl
  obtain ⟨W, ⟨⟨_, rfl, d, dM, dR, kM, kR, rfl, hw⟩, ok⟩, k⟩ := h
  have l8 := ok.len
  have lM : kM.length = W.mks.length := hw.m'.length
  refine ⟨_, (pss_cons (ps_lock (ps_setLc (i := 1) (own := [("_law_name", 6)]) (g := (gName 6)) rfl sc_l_hung.nd rfl rfl (sw_true rfl rfl rfl (by decide +kernel)) (pi_keys (pe_dget (hu_of hr) (pv 0) pe_str (fun _ _ => rfl))) (blkOk_by (N := n_l_hung) (sc := defScope s_l_hung) (own := [("_law_name", 6)]) (by decide +kernel)) (fun _ _ _ _ _ => (pg_name (i := 6) sc_l_hung.nd rfl (Or.inl rfl))) (fun _ _ _ _ _ => pts_one (pt_cmpR op_notN (pe_dget (hu_of hr) (pe_dget (hu_of hr) (pv 0) pe_str (fun _ _ => rfl)) (pv 6) (fun _ _ => rfl)) pe_non (nomark _))) (fun _ _ _ _ _ => (pv 6))))
      (pss_cons (ps_for PassesOwn.never rfl (pi_range1 (by rfl) U.range (pa_cons (pe_callB call_lenD (by rfl) U.len PySem.boot_len (pa_cons (pe_dget (hu_of hr) (pv 0) pe_str (fun _ _ => rfl)) pa_nil)) pa_nil)) (pg_name (i := 2) sc_l_hung.nd rfl (Or.inl rfl)) (pss_one (ps_lock (ps_for PassesOwn.never rfl (pi_keys (pe_dget (hu_of hr) (pv 0) pe_str (fun _ _ => rfl))) (pg_name (i := 3) sc_l_hung.nd rfl (Or.inl rfl)) (pss_cons (ps_asg (pe_slice sl_tup (pe_dget (hu_of hr) (pe_dget (hu_of hr) (pv 0) pe_str (fun _ _ => rfl)) (pv 3) (fun _ _ => rfl)) po_none (po_some pe_int)) (pg_tup rfl (pgs_cons (pg_name (i := 4) sc_l_hung.nd rfl (Or.inl rfl)) (pgs_cons (pg_name (i := 5) sc_l_hung.nd rfl (Or.inl rfl)) pgs_nil))))
      (pss_cons (ps_if (PW.pt (pw_and (pt_cmpR op_in_seq (pv 4) (pv 1) (by rfl)) (pw_and1 (pt_cmpR op_notIn_seq (pv 5) (pv 1) (by rfl))))) (pss_one (ps_expr (pe_bm PySem.F.plainAttrs_list PySem.F.slot_list_append PySem.F.type_list_append mt_append (pv 1) (pa_cons (pv 5) pa_nil)))) pss_nil)
      (pss_one (ps_if (PW.pt (pw_and (pt_cmpR op_in_seq (pv 5) (pv 1) (by rfl)) (pw_and1 (pt_cmpR op_notIn_seq (pv 4) (pv 1) (by rfl))))) (pss_one (ps_expr (pe_bm PySem.F.plainAttrs_list PySem.F.slot_list_append PySem.F.type_list_append mt_append (pv 1) (pa_cons (pv 4) pa_nil)))) pss_nil))))))))
      (pss_one (ps_ret (pe_callB cr_sortedS (by rfl) U.sorted (by decide +kernel) (pa_cons (pv 1) pa_nil)))))), ?_⟩
  have ddM := hw.n1
  have ddR := hw.n2
  refine st_seq (st_lockSetN (R := LstV ((fixN W).map V.str)) hw.m (fun od => ?_) ?_)
  · have hm1 : (upd H dM (.frz od (.dK kM))) dM = some (.frz od (.dK kM)) := upd_same
    have hd1 : (upd H dM (.frz od (.dK kM))) d = some (.dK (wwK dM dR)) := by rw [upd_ne ddM]; exact hw.d
    have w1 : Wk H (upd H dM (.frz od (.dK kM))) := Wk.lock hw.m
    have hmks : Dc kS (AtV K) W.mks kM (upd H dM (.frz od (.dK kM))) := hw.m'.mono w1.tup
    generalize upd H dM (.frz od (.dK kM)) = Hf at hm1 hd1 hmks
    have hget : ∀ {H' : Hp} {σ : L2.St}, Same Hf H' → σ[0]? = some (some (.ref d)) → Eva Same (tDGet (tVar 0) (tC (.str "marks"))) σ H' (Is (.ref dM)) := fun {H' σ} e h0 => ev_dget (k := kS "marks") (ev_var h0) (.inl (e _ _ hd1)) ev_c (ww_marks dM dR)
    refine EvaN.imp (ev_lcF (n := kM.length) (b := fun i => (W.mks.getD i (default, none)).2.isSome) (R := fun i => Is (.str (W.mks.getD i (default, none)).1)) (ei_keys (hget (Same.refl _) rfl) hm1) (by omega) ?_) ?_
    · rintro i x H' hi e ⟨kk, vv, hk, rfl⟩
      obtain ⟨c, hc, rk, _⟩ := pget hmks hk
      rw [getD_lt (default, none) (by omega)] at hc
      cases hc
      have rk : kk = kS (W.mks.getD i (default, none)).1 := rk
      subst rk
      have hmem : W.mks.getD i (default, none) ∈ W.mks := List.mem_of_getElem? (getD_lt _ (by omega))
      generalize W.mks.getD i (default, none) = c at hmem
      obtain ⟨m, o⟩ := c
      obtain ⟨v, hv, hav⟩ := mk_val ok (hmks.mono e.tp) (m := m) (List.mem_map.mpr ⟨_, hmem, rfl⟩)
      rw [Wd.fx_mem ok hmem] at hav
      refine ⟨_, tg_name, rfl, EvT.is (et_test (ev_notN (ev_dget (k := kS m) (hget e rfl) (.inr ⟨od, e _ _ hm1⟩) (ev_var rfl) hv))) ?_, fun _ => ev_var rfl⟩
      rw [at_isN hav]
      cases o <;> rfl
    · rintro v H1 _ ⟨L, ys, ev, hL, hys⟩
      refine ⟨L, ev, ?_⟩
      rw [hL, paired_is hys, lM]
      unfold fixN
      have := range_filter_getD' (d := ((default : Str), (none : Option (Int × Int)))) (fun x : Str × Option (Int × Int) => x.2.isSome) (fun x => V.str x.1) W.mks
      rw [List.map_map]
      exact congrArg (fun l => some (HO.lst l)) this
  rintro p H1 e1 np ⟨_, ep, hp⟩
  cases ep
  dsimp only
  have hw1 := hw.up e1
  have hgm : ∀ {H' : Hp} {σ : L2.St}, H' d = some (.dK (wwK dM dR)) → σ[0]? = some (some (.ref d)) → Eva Same (tDGet (tVar 0) (tC (.str "marks"))) σ H' (Is (.ref dM)) := fun {H' σ} e h0 => ev_dget (k := kS "marks") (ev_var h0) (.inl e) ev_c (ww_marks dM dR)
  have hgr : ∀ {H' : Hp} {σ : L2.St}, H' d = some (.dK (wwK dM dR)) → σ[0]? = some (some (.ref d)) → Eva Same (tDGet (tVar 0) (tC (.str "readings"))) σ H' (Is (.ref dR)) := fun {H' σ} e h0 => ev_dget (k := kS "readings") (ev_var h0) (.inl e) ev_c (ww_readings dM dR)
  refine st_seq (st_forR1 (n := kM.length) (ev_lenDx (hgm hw1.d rfl) hw1.m) (by omega) fun H2 e2 => ?_)
  refine ⟨fun i σ H3 => ∃ o2 o3 o4 o5 o6, σ = [some (.ref d), some (.ref p), o2, o3, o4, o5, o6] ∧ Same H H3 ∧ H3 p = some (.lst ((rnds W.rds (fixN W) i).map V.str)), ⟨none, none, none, none, none, rfl, e1.trans e2, e2 _ _ hp⟩, ?_, ?_⟩
  · rintro i σ H3 hi ⟨o2, o3, o4, o5, o6, rfl, e3, p3⟩
    have hw3 := hw.up e3
    have hlL := (fixN_hl ok).rnds ok i
    generalize hL0 : rnds W.rds (fixN W) i = L0 at p3 hlL
    have pdR : p ≠ dR := ne_of p3 hw3.r (fun z => nomatch z)
    refine st_forKe hw3.r (fun od => hgr (by rw [upd_ne ddR]; exact hw3.d) rfl) fun od H4 e4 => ?_
    have ef : Same (upd H dR (.frz od (.dK kR))) H4 := (same_upd e3).trans e4
    have npf : (upd H dR (.frz od (.dK kR))) p = none := by rw [upd_ne pdR]; exact np
    have wf : Wk H (upd H dR (.frz od (.dK kR))) := Wk.lock hw.r
    refine ⟨fun j σ H5 => ∃ o2 o3 o4 o5 o6, σ = [some (.ref d), some (.ref p), o2, o3, o4, o5, o6] ∧ Same (upd H dR (.frz od (.dK kR))) H5 ∧ H5 p = some (.lst ((rnd (W.rds.take j) L0).map V.str)),
      ⟨_, o3, o4, o5, o6, rfl, ef, e4 _ _ (by rw [upd_ne pdR]; exact p3)⟩, fun j σ H5 q => by obtain ⟨_, _, _, _, _, _, e5, _⟩ := q; exact e5 _ _ upd_same, ?_, ?_⟩
    · rintro j kk vv σ H5 hk ⟨o2, o3, o4, o5, o6, rfl, e5, p5⟩
      obtain ⟨⟨n, r⟩, hr, rk, _⟩ := pget hw.r' hk
      have rk : kk = kI n := rk
      subst rk
      have hmem : (n, r) ∈ W.rds := List.mem_of_getElem? hr
      have hr5 : Dc kI (RdV K) W.rds kR H5 := hw.r'.mono (fun a xs h => e5.tp _ _ (wf.tup _ _ h))
      have hd5 : H5 d = some (.dK (wwK dM dR)) := e5 _ _ (by rw [upd_ne ddR]; exact hw.d)
      have hR5 : H5 dR = some (.frz od (.dK kR)) := e5 _ _ upd_same
      obtain ⟨v, hv, hrv⟩ := rd_val ok hr5 hmem
      have hlj := HL.fold ok (W.rds.take j) L0 (fun x hx => List.mem_of_mem_take hx) hlL
      have hsn : rnd (W.rds.take (j + 1)) L0 = hS (rnd (W.rds.take j) L0) r := by
        unfold rnd
        rw [List.take_succ, hr, List.foldl_append]; rfl
      generalize rnd (W.rds.take j) L0 = L at p5 hlj hsn
      show tSeq _ _ _ [some (.ref d), some (.ref p), o2, some (.int n), o4, o5, o6] H5
      refine st_seq ?_
      refine ev_cut2 (K := K) (v1 := .str r.one) (v2 := .str r.other) (rest := [.int r.ac, .int r.up, .int r.wt]) (Eva.imp (ev_dget (k := kI n) (hgr hd5 rfl) (.inr ⟨od, hR5⟩) (ev_var rfl) hv) fun v' H6 e6 rv' => by rw [show v' = v from rv']; exact MonT.mono e6.tp hrv) (by simp) H5 (Same.refl _) _ fun tv H6 e6 htv => ?_
      have p6 := e6 _ _ p5
      have e06 := e5.trans e6
      refine tg_tup (σ2 := [some (.ref d), some (.ref p), o2, some (.int n), some (.str r.one), some (.str r.other), o6]) htv rfl (fun Q q => ⟨_, _, rfl, _, _, rfl, rfl, q⟩) _ ?_
      have hlen : L.length < 100000 := by have := hlj.len ok; omega
      dsimp only
      refine st_ifJ (E := Same) (b := decide (r.one ∈ L) && !decide (r.other ∈ L)) (fun σ H7 => σ = [some (.ref d), some (.ref p), o2, some (.int n), some (.str r.one), some (.str r.other), o6] ∧ Same (upd H dR (.frz od (.dK kR))) H7 ∧ H7 p = some (.lst ((h1S r.one r.other L).map V.str))) ?_ (Same.refl _) ?_ ?_ ?_
      · exact et_and (et_test (ev_inS (ev_var rfl) (ev_var rfl) p6)) fun _ => et_test (ev_notinS (ev_var rfl) (ev_var rfl) p6)
      · intro nx hnx z H7 e7
        refine st_append (R := Is (.str r.other)) rfl (e7 _ _ p6) (by rw [List.length_map]; exact hlen) (ev_var rfl) ?_
        rintro _ H8 e8 rfl
        refine hnx _ _ ⟨rfl, Same.mut ((e06.trans e7).trans e8) npf, ?_⟩
        rw [upd_same]
        unfold h1S
        rw [if_pos z, List.map_append]; rfl
      · intro z H7 e7
        refine ⟨rfl, e06.trans e7, ?_⟩
        unfold h1S
        rw [z]; exact e7 _ _ p6
      · rintro σ H7 ⟨rfl, e7, p7⟩
        have hl1 : HL W (h1S r.one r.other L) := hlj.h1 (ok.rd n r hmem).2.1 (.fwd hmem)
        have hS1 : hS L r = h1S r.other r.one (h1S r.one r.other L) := rfl
        rw [hS1] at hsn
        generalize h1S r.one r.other L = L1 at p7 hl1 hsn
        have hlen1 : L1.length < 100000 := by have := hl1.len ok; omega
        refine st_ifL (E := Same) (b := decide (r.other ∈ L1) && !decide (r.one ∈ L1)) (et_and (et_test (ev_inS (ev_var rfl) (ev_var rfl) p7)) fun _ => et_test (ev_notinS (ev_var rfl) (ev_var rfl) p7)) (Same.refl _) (fun z H8 e8 => ?_) (fun z H8 e8 => ?_)
        · refine st_append (R := Is (.str r.one)) rfl (e8 _ _ p7) (by rw [List.length_map]; exact hlen1) (ev_var rfl) ?_
          rintro _ H9 e9 rfl
          refine ⟨_, _, _, _, _, rfl, Same.mut ((e7.trans e8).trans e9) npf, ?_⟩
          rw [upd_same, hsn]
          unfold h1S
          rw [if_pos z, List.map_append]; rfl
        · refine ⟨_, _, _, _, _, rfl, e7.trans e8, ?_⟩
          rw [hsn]
          unfold h1S
          rw [z]; exact e8 _ _ p7
    · rintro σ H5 ⟨o2, o3, o4, o5, o6, rfl, e5, p5⟩
      have lR : kR.length = W.rds.length := hw.r'.length
      rw [List.take_of_length_le (by omega)] at p5
      refine ⟨_, _, _, _, _, rfl, Same.lock hw.r e5, ?_⟩
      rw [upd_ne pdR]
      have hz : rnds W.rds (fixN W) (i + 1) = rnd W.rds L0 := by rw [← hL0]; rfl
      rw [hz]; exact p5
  · rintro σ H3 ⟨o2, o3, o4, o5, o6, rfl, e3, p3⟩
    rw [lM] at p3
    have hl := ((fixN_hl ok).rnds ok W.mks.length).len ok
    refine st_ret (E := Same) (ev_sortedS (ev_var rfl) p3 (by omega)) (Same.refl _) fun v H4 e4 r => k v H4 (e3.trans e4) ?_
    rw [rounds_hung ok] at r
    exact r
end
end Gm

set_option maxHeartbeats 4000000
namespace Gm
open PySem PySem.Spec PyProof.Rows L2
/-- a rest in the dict of rests -/
theorem rs_find {pl : PlL} {W : Wd} (ok : W.Ok) {n : Int} {r : Rdg} {s : Rat × Rat} (hr : (n, r) ∈ W.rds) (hro : restO pl r = some s) : (restsF pl W.rds).find? (fun x => decide (x.1 = n)) = some (n, s) := by
  have hin : (n, s) ∈ restsF pl W.rds := List.mem_filterMap.mpr ⟨(n, r), hr, by rw [hro]; rfl⟩
  obtain ⟨⟨n', s'⟩, q, e, hx⟩ := find_mem (k := n) (List.mem_map.mpr ⟨_, hin, rfl⟩)
  have e : n' = n := e
  subst e
  rw [q]
  rw [restsF_T] at hx
  obtain ⟨⟨⟨n2, r2⟩, s2⟩, ht, he⟩ := List.mem_map.mp hx
  obtain ⟨m1, m2⟩ := restsT_mem ht
  have he1 : n2 = n' := congrArg Prod.fst he
  have he2 : s2 = s' := congrArg Prod.snd he
  subst he1 he2
  have h1 := ok.find m1
  rw [ok.find hr] at h1
  cases h1
  rw [show restO pl r = some s2 from m2] at hro
  cases hro
  rfl
theorem rs_val {K : PySem.W.Frag} {H : Hp} {pl : PlL} {W : Wd} {kT : List (Key × V)} (ok : W.Ok) (h : Dc kI (SpV K) (restsF pl W.rds) kT H) {n : Int} {r : Rdg} {s : Rat × Rat} (hr : (n, r) ∈ W.rds) (hro : restO pl r = some s) : ∃ v, valV kT (kI n) = some v ∧ SpV K s v H := by
  have := h.val inl_inj n
  rw [rs_find ok hr hro] at this
  exact this
/-- what the i-th key of the rests stands for -/
theorem rs_at {K : PySem.W.Frag} {H : Hp} {pl : PlL} {W : Wd} {kT : List (Key × V)} (h : Dc kI (SpV K) (restsF pl W.rds) kT H) {i : Nat} {kk : Key} {vv : V} (hk : kT[i]? = some (kk, vv)) : ∃ n r s, kk = kI n ∧ (n, r) ∈ W.rds ∧ restO pl r = some s ∧ (restsT pl W.rds)[i]? = some ((n, r), s) := by
  obtain ⟨b, hb, rk, rv⟩ := pget h hk
  rw [restsF_T, List.getElem?_map] at hb
  obtain ⟨t, ht, rfl⟩ := Option.map_eq_some_iff.mp hb
  obtain ⟨⟨n, r⟩, s⟩ := t
  obtain ⟨m1, m2⟩ := restsT_mem (List.mem_of_getElem? ht)
  exact ⟨n, r, s, rk, m1, m2, ht⟩
section
variable {K : PySem.W.Frag} {σ : L2.St} {H H' : Hp} {ta tb : TE}
/-- (n, 1) as written -/
theorem ev_n1 {n : Int} (ha : Eva Same ta σ H (Is (.int n))) : Eva Same (tTup (tCons ta (tCons (tC (.int 1)) tNil))) σ H (Rt K (n : Rat)) := by
  refine Eva.imp (ev_tup (ea_cons ha (ea_cons ev_c ea_nil)) 2 fun vs H1 r => ?_) fun v H1 e r => ?_
  · obtain ⟨_, _, rfl, _, _, _, rfl, _, rfl⟩ := r; simp
  · obtain ⟨a, vs, H0, rfl, ha, ⟨u, _, rfl, hu, u', _, rfl, hu', rfl⟩, w⟩ := r
    cases hu; cases hu'
    exact ⟨a, rfl, SqT.of ha⟩
end
section
variable {P : Program} {w : World} {K : PySem.W.Frag} {mg : Str → Option Value} {base : Heap} {aN : Addr} {uM uW uL : Value} {C fI fM fR fN fH : Addr} {fdI fdM fdR fdN fdH : FuncData}
theorem en_lrests {σ : L2.St} {H : Hp} {ta tb : TE} {X : XK} {W : Wd} {pl : PlL} (ha : Eva Same ta σ H (PlV K pl)) (hb : Eva Same tb σ H (DcX kI (RdV K) W.rds)) (ok : W.Ok) (po : PlOk pl) : EvaN (tCall (spLRests K) [] X (tCons ta (tCons tb tNil))) σ H (RsX K (restsF pl W.rds)) := by
  refine en_N (α := Wd × PlL) (W, pl) (ea_cons ha (ea_cons hb ea_nil)) ?_
  rintro vs H' _ ⟨v, r', rfl, hv, v', r'', rfl, hv', rfl⟩
  exact ⟨⟨v, v', rfl, hv, hv'⟩, ok, po⟩
def spLCost (K : PySem.W.Frag) : Sp := SpG (α := Wd × PlL) (PrePR K) (fun x => Rt K (costF x.2 x.1.rds))
theorem nq_wsq {D : Nat} {w : Int} {x : Rat} (hw : 1 ≤ w ∧ w ≤ 9) (h : Nq D 6002 x) : Nq (D * D) 12008 ((w : Rat) * (x * x)) := (nq_sq h).smul (c := 4) (by omega)
def amt (A : Rat) (w : Int) (s : Rat × Rat) : Nat → Rat
  | 0 => A
  | 1 => A + (w : Rat) * (s.1 * s.1)
  | _ => A + (w : Rat) * (s.1 * s.1) + (w : Rat) * (s.2 * s.2)
theorem amt_end (A : Rat) (w : Int) (s : Rat × Rat) : amt A w s 2 = A + partF w s := by unfold amt partF; grind
theorem amt_step (A : Rat) (w : Int) (s : Rat × Rat) {j : Nat} (hj : j < 2) : amt A w s (j + 1) = amt A w s j + (w : Rat) * (sel s j * sel s j) := by
  match j, hj with
  | 0, _ => rfl
  | 1, _ => rfl
theorem amt_nq {D : Nat} {A : Rat} {w : Int} {s : Rat × Rat} (hA : Nq (D * D) 12015 A) (hw : 1 ≤ w ∧ w ≤ 9) (h : Nq D 6002 s.1 ∧ Nq D 6002 s.2) (j : Nat) : Nq (D * D) 12017 (amt A w s j) := by
  have a1 := hA.add (nq_wsq hw h.1) (e := 12015) (Nat.le_refl _) (by decide)
  match j with
  | 0 => exact hA.mono (by decide)
  | 1 => exact a1.mono (by decide)
  | j + 2 => exact a1.add (nq_wsq hw h.2) (e := 12016) (Nat.le_refl _) (by decide)
theorem nq_sel {D b : Nat} {s : Rat × Rat} (h : Nq D b s.1 ∧ Nq D b s.2) (j : Nat) : Nq D b (sel s j) := by unfold sel; split; exact h.1; exact h.2
theorem ok_l_cost (D : DefAt K mg "_law_cost" s_l_cost) (U : Uni K mg aN uM uW uL) (c_l_rests : Cal P w K mg base 4 "_law_rests" ["_law_placing", "_law_readings_here"] (spLRests K)) (c_l_add : Cal P w K mg base 2 "_law_add" ["_law_a", "_law_b"] (spPlus K)) (c_l_mul : Cal P w K mg base 2 "_law_mul" ["_law_a", "_law_b"] (spTimes K)) :
    Cal P w K mg base 5 "_law_cost" ["_law_placing", "_law_readings_here"] (spLCost K) := by
  refine D.cal 4 sc_l_cost (fun _ _ _ _ _ _ us hl => match us, hl with | [_, _], _ => rfl) (fun vs H Q E h => ?_) (fun f cdv A outer s H vs Q E hr h => ?_)
  · obtain ⟨x, ⟨⟨_, _, rfl, _⟩, _⟩, _⟩ := h; rfl
  obtain ⟨⟨W, pl⟩, ⟨⟨v1, _, rfl, hpl, ⟨dR, kR, rfl, hdR, hkR⟩⟩, ok, plok⟩, k⟩ := h
  have ok : W.Ok := ok
  have plok : PlOk pl := plok
  have hpl : PlV K pl v1 H := hpl
  have hkR : Dc kI (RdV K) W.rds kR H := hkR
  refine ⟨_, (pss_cons (ps_set (i := 2) sc_l_cost.nd rfl (Or.inl rfl) (c_l_rests.call (hr.mono (by decide)) (by rfl) (pa_cons (pv 0) (pa_cons (pv 1) pa_nil))))
      (pss_cons (ps_set (i := 3) sc_l_cost.nd rfl (Or.inl rfl) (pe_tup (pa_cons pe_int (pa_cons pe_int pa_nil))))
      (pss_cons (ps_lock (ps_for PassesOwn.never rfl (pi_keys (pv 2)) (pg_name (i := 4) sc_l_cost.nd rfl (Or.inl rfl)) (pss_one (ps_for PassesOwn.never rfl (pi_tup (pe_dget (hu_of hr) (pv 2) (pv 4) (fun _ _ => rfl))) (pg_name (i := 5) sc_l_cost.nd rfl (Or.inl rfl)) (pss_one (ps_set (i := 3) sc_l_cost.nd rfl (Or.inl rfl) (c_l_add.call (hr.mono (by decide)) (by rfl) (pa_cons (pv 3) (pa_cons (c_l_mul.call (hr.mono (by decide)) (by rfl) (pa_cons (pe_tup (pa_cons (pe_ix ix_tup (pe_dget (hu_of hr) (pv 1) (pv 4) (fun _ _ => rfl)) pe_int (fun _ _ => rfl)) (pa_cons pe_int pa_nil))) (pa_cons (c_l_mul.call (hr.mono (by decide)) (by rfl) (pa_cons (pv 5) (pa_cons (pv 5) pa_nil))) pa_nil))) pa_nil)))))))))
      (pss_one (ps_ret (pv 3)))))), ?_⟩
  refine st_setN (en_lrests (ev_varR rfl hpl) (ev_varR rfl ⟨dR, kR, rfl, hdR, hkR⟩) ok plok) ?_
  rintro dT H1 e1 nT ⟨_, kT, ed, hdT, hkT⟩
  cases ed
  refine st_set (E := Same) (R := Rt K 0) (Eva.imp (ev_n1 (K := K) (n := 0) ev_c) fun v H' _ r => r) (Same.refl _) fun va H2 e2 hva => ?_
  have hT2 := e2 _ _ hdT
  obtain ⟨D, D0, D1, hN⟩ := id plok
  have cn := costL_nq ok D1 hN
  refine st_forK (kvs := kT) hT2 rfl fun od => ?_
  have wl : Wk H2 (upd H2 dT (.frz od (.dK kT))) := Wk.lock hT2
  have dRT : dR ≠ dT := fun e => by rw [e, nT] at hdR; cases hdR
  have e02 := e1.trans e2
  refine ⟨fun i σ H3 => ∃ va o4 o5, σ = [some v1, some (.ref dR), some (.ref dT), some va, o4, o5] ∧ Same (upd H2 dT (.frz od (.dK kT))) H3 ∧ Rt K (tot ((costL pl W.rds).take i)) va H3,
    ⟨va, none, none, rfl, Same.refl _, MonW.mono wl hva⟩, fun i σ H3 q => by obtain ⟨_, _, _, _, e3, _⟩ := q; exact e3 _ _ upd_same, ?_, ?_⟩
  · rintro i kk vv σ H3 hk ⟨va, o4, o5, rfl, e3, hva3⟩
    obtain ⟨n, r, s, rfl, hmem, hro, hti⟩ := rs_at hkT hk
    have rb := ok.rdb hmem
    have nr := nq_restO D1 hN rb hro
    have w3 : Wk H2 H3 := wl.trans e3.wk
    have t13 : Tp H1 H3 := fun a xs h => w3.tup _ _ (e2.tp _ _ h)
    have hdR3 : H3 dR = some (.dK kR) := e3 _ _ (by rw [upd_ne dRT]; exact e02 _ _ hdR)
    have hkR3 : Dc kI (RdV K) W.rds kR H3 := hkR.mono (fun a xs h => w3.tup _ _ (e02.tp _ _ h))
    have hdT3 : H3 dT = some (.frz od (.dK kT)) := e3 _ _ upd_same
    obtain ⟨vr, hvr, hvr2⟩ := rd_val ok hkR3 hmem
    obtain ⟨vs, hvs, hvs2⟩ := rs_val ok (hkT.mono t13) hmem hro
    have hq : (costL pl W.rds)[i]? = some (partF r.wt s) := by rw [costL_T, List.getElem?_map, hti]; rfl
    have hA := cn.2 i
    have hsum := (tot_take hq).trans (amt_end _ r.wt s).symm
    generalize tot ((costL pl W.rds).take i) = A at hva3 hA hsum
    show tFor _ _ _ _ [some v1, some (.ref dR), some (.ref dT), some va, some (.int n), o5] H3
    refine st_forTx (K := K) (R := SpV K s) (Eva.imp (ev_dget (k := kI n) (ev_var rfl) (.inr ⟨od, hdT3⟩) (ev_var rfl) hvs) fun v H4 e4 r => by rw [show v = vs from r]; exact MonW.mono e4.wk hvs2) (Same.refl _) ?_
    rintro _ H4 e4 ⟨u1, u2, ⟨t, rfl, ht⟩, hu1, hu2⟩
    refine ⟨t, [u1, u2], rfl, ht, fun j σ H5 => ∃ va o5, σ = [some v1, some (.ref dR), some (.ref dT), some va, some (.int n), o5] ∧ Same H3 H5 ∧ Tp H4 H5 ∧ Rt K (amt A r.wt s j) va H5, ⟨va, o5, rfl, e4, Tp.refl _, MonW.mono e4.wk hva3⟩, fun j σ H5 _ q => by
      obtain ⟨_, _, _, _, t5, _⟩ := q
      exact ht.elim (fun h => .inl (t5 _ _ h)) .inr, ?_, ?_⟩
    · rintro j x σ H5 hx ⟨va, o5, rfl, e5, t5, hva5⟩
      have hjx : j < 2 ∧ Rt K (sel s j) x H5 := by
        match j, hx with
        | 0, hx => have hx : u1 = x := by simpa using hx
                   subst hx; exact ⟨by decide, MonT.mono t5 hu1⟩
        | 1, hx => have hx : u2 = x := by simpa using hx
                   subst hx; exact ⟨by decide, MonT.mono t5 hu2⟩
        | j + 2, hx => simp at hx
      obtain ⟨hj, hxr⟩ := hjx
      have hsj := nq_sel nr j
      show tAsg _ _ _ [some v1, some (.ref dR), some (.ref dT), some va, some (.int n), some x] H5
      have hrd : Eva Same (tDGet (tVar 1) (tVar 4)) [some v1, some (.ref dR), some (.ref dT), some va, some (.int n), some x] H5 (RdV K r) := Eva.imp (ev_dget (k := kI n) (ev_var rfl) (.inl (e5 _ _ hdR3)) (ev_var rfl) hvr) fun v H6 e6 r' => by rw [show v = vr from r']; exact MonT.mono (e5.trans e6).tp hvr2
      refine st_set1 (E := Same) (R := Rt K (amt A r.wt s (j + 1))) ?_ (Same.refl _) fun v H6 e6 hv => ⟨v, _, rfl, e5.trans e6, t5.trans e6.tp, hv⟩
      rw [amt_step A r.wt s hj]
      exact ev_R2 (ev_varR rfl hva5) (ev_R2 (ev_n1 (rdv_ix hrd).2.2) (ev_R2 (ev_varR rfl hxr) (ev_varR rfl hxr) (sm_of hsj D0 D1 (by decide)) (sm_of hsj D0 D1 (by decide))) (sm_int (small_pow (by have := rb.w; omega) (by decide))) (sm_of2 (nq_sq hsj) D0 D1 (by decide))) (sm_of2 (amt_nq hA rb.w nr j) D0 D1 (by decide)) (sm_of2 (nq_wsq rb.w hsj) D0 D1 (by decide))
    · rintro σ H5 ⟨va, o5, rfl, e5, t5, hva5⟩
      exact ⟨va, _, _, rfl, e3.trans e5, by rw [hsum]; exact hva5⟩
  · rintro σ H3 ⟨va, o4, o5, rfl, e3, hva3⟩
    rw [List.take_of_length_le (by rw [hkT.length, restsF_T, costL_T, List.length_map, List.length_map]; exact Nat.le_refl _)] at hva3
    have e03 : Same H (upd H3 dT (.dK kT)) := e02.trans (Same.lock hT2 e3)
    have wu : Wk H3 (upd H3 dT (.dK kT)) := Wk.unlock (e3 _ _ upd_same)
    exact st_ret (E := Same) (ev_varR rfl (MonW.mono wu hva3)) (Same.refl _) fun v H4 e4 r => k v H4 (e03.trans e4) r
end
end Gm

set_option maxHeartbeats 4000000
namespace Gm
open PySem PySem.Spec PyProof.Rows L2
def gapF (a b : Rat × Rat) : Rat × Rat := (b.1 - a.1, b.2 - a.2)
def exO (sh : PlL) (r : Rdg) : Option (Rat × Rat) := match lk sh r.one, lk sh r.other with
  | some a, some b => some (gapF a b)
  | _, _ => none
def exL (sh : PlL) (rds : List (Int × Rdg)) : List Rat := rds.filterMap fun x => (exO sh x.2).map fun s => partF x.2.wt s
def exF (sh : PlL) (rds : List (Int × Rdg)) : Rat := tot (exL sh rds)
theorem exO_some {sh : PlL} {r : Rdg} {s : Rat × Rat} (h : exO sh r = some s) : ∃ a b, lk sh r.one = some a ∧ lk sh r.other = some b ∧ s = gapF a b := by
  unfold exO at h
  cases e1 : lk sh r.one with
  | none => rw [e1] at h; cases h
  | some a =>
    cases e2 : lk sh r.other with
    | none => rw [e1, e2] at h; cases h
    | some b => rw [e1, e2] at h; cases h; exact ⟨a, b, rfl, rfl, rfl⟩
theorem exL_snoc {sh : PlL} {rds : List (Int × Rdg)} {i : Nat} {n : Int} {r : Rdg} (h : rds[i]? = some (n, r)) : tot (exL sh (rds.take (i + 1))) = (match exO sh r with | some s => tot (exL sh (rds.take i)) + partF r.wt s | none => tot (exL sh (rds.take i))) := by
  unfold exL tot
  rw [List.take_succ, h, List.filterMap_append, List.foldl_append]
  cases e : exO sh r with
  | none => simp [e]
  | some s => simp [e]
theorem gap_sel (a b : Rat × Rat) (j : Nat) : sel (gapF a b) j = sel b j - sel a j := by unfold sel gapF; split <;> rfl
theorem nq_exO {sh : PlL} {D : Nat} {r : Rdg} {s : Rat × Rat} (hN : ∀ x ∈ sh, Nq D 6000 x.2.1 ∧ Nq D 6000 x.2.2) (h : exO sh r = some s) : Nq D 6002 s.1 ∧ Nq D 6002 s.2 := by
  obtain ⟨a, b, ha, hb, rfl⟩ := exO_some h
  have na := hN _ (lk_mem ha)
  have nb := hN _ (lk_mem hb)
  exact ⟨(nq_gap na.1 nb.1).mono (by decide), (nq_gap na.2 nb.2).mono (by decide)⟩
theorem exL_nq {sh : PlL} {W : Wd} {D : Nat} (ok : W.Ok) (hN : ∀ x ∈ sh, Nq D 6000 x.2.1 ∧ Nq D 6000 x.2.2) (i : Nat) : Nq (D * D) 12015 (tot (exL sh (W.rds.take i))) := by
  refine tot_nq (c := 6) (fun q hq => ?_) ?_
  · obtain ⟨⟨n, r⟩, hx, e⟩ := List.mem_filterMap.mp hq
    obtain ⟨s, hs, rfl⟩ := Option.map_eq_some_iff.mp e
    exact nq_part (ok.rdb (List.mem_of_mem_take hx)).w (nq_exO hN hs)
  · refine Nat.le_trans (List.length_filterMap_le _ _) ?_
    rw [List.length_take]
    have := ok.rlen; omega
section
variable {P : Program} {w : World} {K : PySem.W.Frag} {mg : Str → Option Value} {base : Heap} {aN : Addr} {uM uW uL : Value} {C fI fM fR fN fH : Addr} {fdI fdM fdR fdN fdH : FuncData}
def PreWP (K : PySem.W.Frag) (x : Wd × PlL) : List V → Hp → Prop := fun vs H => (∃ u v, vs = [u, v] ∧ WwV K x.1 u H ∧ PlV K x.2 v H) ∧ x.1.Ok ∧ PlOk x.2
def spExcess (K : PySem.W.Frag) : Sp := SpG (α := Wd × PlL) (PreWP K) (fun x => Rt K (exF x.2 x.1.rds))
theorem ok_l_excess (D : DefAt K mg "_law_excess" s_l_excess) (U : Uni K mg aN uM uW uL) (c_l_sub : Cal P w K mg base 2 "_law_sub" ["_law_a", "_law_b"] (spMinus K)) (c_l_add : Cal P w K mg base 2 "_law_add" ["_law_a", "_law_b"] (spPlus K)) (c_l_mul : Cal P w K mg base 2 "_law_mul" ["_law_a", "_law_b"] (spTimes K)) :
    Cal P w K mg base 3 "_law_excess" ["_law_w", "_law_shifts"] (spExcess K) := by
  refine D.cal 2 sc_l_excess (fun _ _ _ _ _ _ us hl => match us, hl with | [_, _], _ => rfl) (fun vs H Q E h => ?_) (fun f cdv A outer s H vs Q E hr h => ?_)
  · obtain ⟨x, ⟨⟨_, _, rfl, _⟩, _⟩, _⟩ := h; rfl
  obtain ⟨⟨W, sh⟩, ⟨⟨_, _, rfl, ⟨d, dM, dR, kM, kR, rfl, hw⟩, ⟨dS, kS', rfl, hdS, hkS⟩⟩, ok, plok⟩, k⟩ := h
  have ok : W.Ok := ok
  have hw : WwA K W d dM dR kM kR H := hw
  have hkS : Dc kS (SpV K) sh kS' H := hkS
  obtain ⟨D, D0, D1, hN⟩ := (plok : PlOk sh)
  refine ⟨_, (pss_cons (ps_set (i := 2) sc_l_excess.nd rfl (Or.inl rfl) (pe_tup (pa_cons pe_int (pa_cons pe_int pa_nil))))
      (pss_cons (ps_lock (ps_for PassesOwn.never rfl (pi_keys (pe_dget (hu_of hr) (pv 0) pe_str (fun _ _ => rfl))) (pg_name (i := 3) sc_l_excess.nd rfl (Or.inl rfl)) (pss_cons (ps_asg (pe_dget (hu_of hr) (pe_dget (hu_of hr) (pv 0) pe_str (fun _ _ => rfl)) (pv 3) (fun _ _ => rfl)) (pg_tup rfl (pgs_cons (pg_name (i := 4) sc_l_excess.nd rfl (Or.inl rfl)) (pgs_cons (pg_name (i := 5) sc_l_excess.nd rfl (Or.inl rfl)) (pgs_cons (pg_name (i := 6) sc_l_excess.nd rfl (Or.inl rfl)) (pgs_cons (pg_name (i := 7) sc_l_excess.nd rfl (Or.inl rfl)) (pgs_cons (pg_name (i := 8) sc_l_excess.nd rfl (Or.inl rfl)) pgs_nil)))))))
      (pss_one (ps_if (PW.pt (pw_and (pt_cmp (pc_din (hu_of hr) (pv 4) (pv 1))) (pw_and1 (pt_cmp (pc_din (hu_of hr) (pv 5) (pv 1)))))) (pss_one (ps_for PassesOwn.never rfl (pi_range1 (by rfl) U.range (pa_cons pe_int pa_nil)) (pg_name (i := 9) sc_l_excess.nd rfl (Or.inl rfl)) (pss_cons (ps_set (i := 10) sc_l_excess.nd rfl (Or.inl rfl) (c_l_sub.call (hr.mono (by decide)) (by rfl) (pa_cons (pe_ix ix_tup (pe_dget (hu_of hr) (pv 1) (pv 5) (fun _ _ => rfl)) (pv 9) (fun _ _ => rfl)) (pa_cons (pe_ix ix_tup (pe_dget (hu_of hr) (pv 1) (pv 4) (fun _ _ => rfl)) (pv 9) (fun _ _ => rfl)) pa_nil))))
      (pss_one (ps_set (i := 2) sc_l_excess.nd rfl (Or.inl rfl) (c_l_add.call (hr.mono (by decide)) (by rfl) (pa_cons (pv 2) (pa_cons (c_l_mul.call (hr.mono (by decide)) (by rfl) (pa_cons (pe_tup (pa_cons (pv 8) (pa_cons pe_int pa_nil))) (pa_cons (c_l_mul.call (hr.mono (by decide)) (by rfl) (pa_cons (pv 10) (pa_cons (pv 10) pa_nil))) pa_nil))) pa_nil)))))))) pss_nil)))))
      (pss_one (ps_ret (pv 2))))), ?_⟩
  refine st_set (E := Same) (R := Rt K 0) (Eva.imp (ev_n1 (K := K) (n := 0) ev_c) fun v H' _ r => r) (Same.refl _) fun va H2 e2 hva => ?_
  have hw2 := hw.up e2
  have hgr : ∀ {H' : Hp} {σ : L2.St}, H' d = some (.dK (wwK dM dR)) → σ[0]? = some (some (.ref d)) → Eva Same (tDGet (tVar 0) (tC (.str "readings"))) σ H' (Is (.ref dR)) := fun {H' σ} e h0 => ev_dget (k := kS "readings") (ev_var h0) (.inl e) ev_c (ww_readings dM dR)
  refine st_seq (st_forKe hw2.r (fun od => hgr (by rw [upd_ne hw.n2]; exact hw2.d) rfl) fun od H3 e3 => ?_)
  have wl : Wk H2 (upd H2 dR (.frz od (.dK kR))) := Wk.lock hw2.r
  have w03 : Wk H H3 := (e2.wk.trans wl).trans e3.wk
  refine ⟨fun i σ H4 => ∃ va o3 o4 o5 o6 o7 o8 o9 o10, σ = [some (.ref d), some (.ref dS), some va, o3, o4, o5, o6, o7, o8, o9, o10] ∧ Same (upd H2 dR (.frz od (.dK kR))) H4 ∧ Rt K (tot (exL sh (W.rds.take i))) va H4,
    ⟨va, none, none, none, none, none, none, none, none, rfl, e3, MonW.mono (wl.trans e3.wk) hva⟩, fun i σ H4 q => by obtain ⟨_, _, _, _, _, _, _, _, _, _, e4, _⟩ := q; exact e4 _ _ upd_same, ?_, ?_⟩
  · rintro i kk vv σ H4 hk ⟨va, o3, o4, o5, o6, o7, o8, o9, o10, rfl, e4, hva4⟩
    obtain ⟨⟨n, r⟩, hr, rk, _⟩ := pget hw2.r' hk
    have rk : kk = kI n := rk
    subst rk
    have hmem : (n, r) ∈ W.rds := List.mem_of_getElem? hr
    have rb := ok.rdb hmem
    have w4 : Wk H H4 := (e2.wk.trans wl).trans e4.wk
    have hd4 : H4 d = some (.dK (wwK dM dR)) := e4 _ _ (by rw [upd_ne hw.n2]; exact hw2.d)
    have hR4 : H4 dR = some (.frz od (.dK kR)) := e4 _ _ upd_same
    have hkR4 : Dc kI (RdV K) W.rds kR H4 := hw.r'.mono w4.tup
    have hkS4 : Dc kS (SpV K) sh kS' H4 := hkS.mono w4.tup
    have hdS4 : Rd H4 dS (.dK kS') := w4.dic _ _ hdS
    obtain ⟨vr, hvr, hvr2⟩ := rd_val ok hkR4 hmem
    have hA := exL_nq ok hN i
    have hsn := exL_snoc (sh := sh) hr
    generalize tot (exL sh (W.rds.take i)) = A0 at hva4 hA hsn
    show tSeq _ _ _ [some (.ref d), some (.ref dS), some va, some (.int n), o4, o5, o6, o7, o8, o9, o10] H4
    refine st_seq ?_
    refine (show Eva Same (tDGet (tDGet (tVar 0) (tC (.str "readings"))) (tVar 3)) [some (.ref d), some (.ref dS), some va, some (.int n), o4, o5, o6, o7, o8, o9, o10] H4 (RdV K r) from Eva.imp (ev_dget (k := kI n) (hgr hd4 rfl) (.inr ⟨od, hR4⟩) (ev_var rfl) hvr) fun v H5 e5 r' => by rw [show v = vr from r']; exact MonT.mono e5.tp hvr2) H4 (Same.refl _) _ fun tv H5 e5 htv => ?_
    refine tg_tup (σ2 := [some (.ref d), some (.ref dS), some va, some (.int n), some (.str r.one), some (.str r.other), some (.int r.ac), some (.int r.up), some (.int r.wt), o9, o10]) htv rfl (fun Q q => ⟨_, _, rfl, _, _, rfl, _, _, rfl, _, _, rfl, _, _, rfl, rfl, q⟩) _ ?_
    have e45 := e4.trans e5
    have hkS5 := hkS4.mono e5.tp
    have hdS5 := e5.wk.dic _ _ hdS4
    have hva5 : Rt K A0 va H5 := MonW.mono e5.wk hva4
    dsimp only
    refine st_ifL (E := Same) (b := (exO sh r).isSome) (EvT.is (et_and (et_B (ev_din (k := kS r.one) (ev_var rfl) (ev_var rfl) hdS5)) fun _ => et_B (ev_din (k := kS r.other) (ev_var rfl) (ev_var rfl) hdS5)) ?_) (Same.refl _) (fun z H6 e6 => ?_) (fun z H6 e6 => ?_)
    · rw [lk_has hkS5, lk_has hkS5]
      unfold exO
      cases lk sh r.one <;> cases lk sh r.other <;> rfl
    · obtain ⟨sp, hsp⟩ := Option.isSome_iff_exists.mp z
      obtain ⟨a, b, ha, hb, hab⟩ := exO_some hsp
      have na := hN _ (lk_mem ha)
      have nb := hN _ (lk_mem hb)
      have ns := nq_exO hN hsp
      rw [hsp] at hsn
      have hsn : tot (exL sh (W.rds.take (i + 1))) = A0 + partF r.wt sp := hsn
      rw [← amt_end] at hsn
      refine st_forR1 (n := 2) ev_c (by decide) fun H7 e7 => ?_
      have e67 := e6.trans e7
      refine ⟨fun j σ H8 => ∃ va o9 o10, σ = [some (.ref d), some (.ref dS), some va, some (.int n), some (.str r.one), some (.str r.other), some (.int r.ac), some (.int r.up), some (.int r.wt), o9, o10] ∧ Same H5 H8 ∧ Rt K (amt A0 r.wt sp j) va H8, ⟨va, o9, o10, rfl, e67, MonW.mono e67.wk hva5⟩, ?_, ?_⟩
      · rintro j σ H8 hj ⟨va, o9, o10, rfl, e8, hva8⟩
        have hkS8 := hkS5.mono e8.tp
        have hdS8 := e8.wk.dic _ _ hdS5
        have nja := nq_sel na j
        have njb := nq_sel nb j
        have nsj := nq_sel ns j
        show tSeq _ _ _ [some (.ref d), some (.ref dS), some va, some (.int n), some (.str r.one), some (.str r.other), some (.int r.ac), some (.int r.up), some (.int r.wt), some (.int (j : Int)), o10] H8
        refine st_set (E := Same) (R := Rt K (sel sp j)) ?_ (Same.refl _) fun vg H9 e9 hvg => ?_
        · rw [hab, gap_sel]
          exact ev_R2 (ev_coord (i := j) (ev_spot (ev_var rfl) hdS8 hkS8 (ev_var rfl) hb) (ev_var rfl) hj) (ev_coord (i := j) (ev_spot (ev_var rfl) hdS8 hkS8 (ev_var rfl) ha) (ev_var rfl) hj) (sm_of njb D0 D1 (by decide)) (sm_of nja D0 D1 (by decide))
        · refine st_set1 (E := Same) (R := Rt K (amt A0 r.wt sp (j + 1))) ?_ (Same.refl _) fun v H10 e10 hv => ⟨v, _, _, rfl, (e8.trans e9).trans e10, hv⟩
          rw [amt_step A0 r.wt sp hj]
          exact ev_R2 (ev_varR rfl (MonW.mono e9.wk hva8)) (ev_R2 (ev_n1 (ev_var rfl)) (ev_R2 (ev_varR rfl hvg) (ev_varR rfl hvg) (sm_of nsj D0 D1 (by decide)) (sm_of nsj D0 D1 (by decide))) (sm_int (small_pow (by have := rb.w; omega) (by decide))) (sm_of2 (nq_sq nsj) D0 D1 (by decide))) (sm_of2 (amt_nq hA rb.w ns j) D0 D1 (by decide)) (sm_of2 (nq_wsq rb.w nsj) D0 D1 (by decide))
      · rintro σ H8 ⟨va, o9, o10, rfl, e8, hva8⟩
        exact ⟨va, _, _, _, _, _, _, _, _, rfl, e45.trans e8, by rw [hsn]; exact hva8⟩
    · have hn := Option.isNone_iff_eq_none.mp (Option.isSome_eq_false_iff.mp z)
      rw [hn] at hsn
      exact ⟨va, _, _, _, _, _, _, _, _, rfl, e45.trans e6, by rw [hsn]; exact MonW.mono e6.wk hva5⟩
  · rintro σ H4 ⟨va, o3, o4, o5, o6, o7, o8, o9, o10, rfl, e4, hva4⟩
    have lR : kR.length = W.rds.length := hw.r'.length
    rw [List.take_of_length_le (by omega)] at hva4
    have e04 : Same H (upd H4 dR (.dK kR)) := e2.trans (Same.lock hw2.r e4)
    have wu : Wk H4 (upd H4 dR (.dK kR)) := Wk.unlock (e4 _ _ upd_same)
    exact st_ret (E := Same) (ev_varR rfl (MonW.mono wu hva4)) (Same.refl _) fun v H5 e5 r => k v H5 (e04.trans e5) r
end
end Gm

set_option maxHeartbeats 4000000
namespace Gm
open PySem PySem.Spec PyProof.Rows L2
/-! ### sums of the law, by name -/
def gStep (g : Str → Nat → Rat) (m0 : Str) (j0 : Nat) (q : Rat) : Str → Nat → Rat := fun m j => if m = m0 ∧ j = j0 then g m j + q else g m j
/-- a reading's part one way is taken in -/
def gRd (g : Str → Nat → Rat) (r : Rdg) (s : Rat × Rat) (j0 : Nat) : Str → Nat → Rat := gStep (gStep g r.other j0 ((r.wt : Rat) * sel s j0)) r.one j0 (-((r.wt : Rat) * sel s j0))
def gT (T : List ((Int × Rdg) × (Rat × Rat))) (m : Str) (j : Nat) : Rat := T.foldl (fun acc t => acc + pm m t.1.2 ((t.1.2.wt : Rat) * sel t.2 j)) 0
theorem gRd_at (g : Str → Nat → Rat) (r : Rdg) (s : Rat × Rat) (j0 : Nat) (m : Str) : gRd g r s j0 m j0 = g m j0 + pm m r ((r.wt : Rat) * sel s j0) := by
  unfold gRd gStep pm
  by_cases h1 : m = r.one
  · by_cases h2 : m = r.other
    · rw [if_pos ⟨h1, rfl⟩, if_pos ⟨h2, rfl⟩, if_pos h2.symm, if_pos h1.symm]; grind
    · rw [if_pos ⟨h1, rfl⟩, if_neg (fun z => h2 z.1), if_neg (fun z => h2 z.symm), if_pos h1.symm]; grind
  · by_cases h2 : m = r.other
    · rw [if_neg (fun z => h1 z.1), if_pos ⟨h2, rfl⟩, if_pos h2.symm, if_neg (fun z => h1 z.symm)]; grind
    · rw [if_neg (fun z => h1 z.1), if_neg (fun z => h2 z.1), if_neg (fun z => h2 z.symm), if_neg (fun z => h1 z.symm)]; grind
theorem gRd_ne (g : Str → Nat → Rat) (r : Rdg) (s : Rat × Rat) {j0 j : Nat} (h : j ≠ j0) (m : Str) : gRd g r s j0 m j = g m j := by
  unfold gRd gStep
  rw [if_neg (fun z => h z.2), if_neg (fun z => h z.2)]
/-- both ways, so far -/
def gJ (g : Str → Nat → Rat) (r : Rdg) (s : Rat × Rat) : Nat → Str → Nat → Rat
  | 0 => g
  | j + 1 => gRd (gJ g r s j) r s j
theorem gJ_two (g : Str → Nat → Rat) (r : Rdg) (s : Rat × Rat) (m : Str) {j : Nat} (hj : j < 2) : gJ g r s 2 m j = g m j + pm m r ((r.wt : Rat) * sel s j) := by
  show gRd (gRd g r s 0) r s 1 m j = _
  rcases (by omega : j = 0 ∨ j = 1) with rfl | rfl
  · rw [gRd_ne _ _ _ (by decide), gRd_at]
  · rw [gRd_at, gRd_ne _ _ _ (by decide)]
theorem gT_snoc {T : List ((Int × Rdg) × (Rat × Rat))} {i : Nat} {n : Int} {r : Rdg} {s : Rat × Rat} (h : T[i]? = some ((n, r), s)) (m : Str) (j : Nat) : gT (T.take (i + 1)) m j = gT (T.take i) m j + pm m r ((r.wt : Rat) * sel s j) := by
  unfold gT
  rw [List.take_succ, h, List.foldl_append]; rfl
theorem gT_unc (pl : PlL) (m : Str) (j : Nat) : ∀ rds : List (Int × Rdg), gT (restsT pl rds) m j = uncF pl rds m j := by
  intro rds
  rw [uncF_sg]
  have key : ∀ (rds : List (Int × Rdg)) (acc : Rat), (restsT pl rds).foldl (fun acc t => acc + pm m t.1.2 ((t.1.2.wt : Rat) * sel t.2 j)) acc = acc + sgR rds (uncPart pl j) m := by
    intro rds
    induction rds with
    | nil => intro acc; show acc = acc + 0; rw [Rat.add_zero]
    | cons x rds ih =>
      intro acc
      have e : sgR (x :: rds) (uncPart pl j) m = pm m x.2 (uncPart pl j x.2) + sgR rds (uncPart pl j) m := rfl
      rw [e, uncPart_sel]
      cases hro : restO pl x.2 with
      | none =>
        have : restsT pl (x :: rds) = restsT pl rds := by unfold restsT; rw [List.filterMap_cons, hro]; rfl
        rw [this, ih]
        have : pm m x.2 0 = 0 := by unfold pm; split <;> split <;> grind
        show _ = acc + (pm m x.2 0 + _)
        rw [this]; grind
      | some s =>
        have : restsT pl (x :: rds) = (x, s) :: restsT pl rds := by unfold restsT; rw [List.filterMap_cons, hro]; rfl
        rw [this, List.foldl_cons, ih]
        show acc + pm m x.2 ((x.2.wt : Rat) * sel s j) + _ = acc + (pm m x.2 ((x.2.wt : Rat) * sel s j) + _)
        grind
  unfold gT
  rw [key]; grind
/-- sizes -/
def BQ (D c : Nat) (q : Rat) : Prop := ∃ z : Int, q * (D : Rat) = (z : Rat) ∧ z.natAbs ≤ c * 2 ^ 6006
theorem BQ.zero {D c : Nat} : BQ D c 0 := ⟨0, by rw [Rat.zero_mul]; rfl, by simp⟩
theorem BQ.mono {D c e : Nat} {q : Rat} (h : BQ D c q) (l : c ≤ e) : BQ D e q := by obtain ⟨z, h1, h2⟩ := h; exact ⟨z, h1, Nat.le_trans h2 (Nat.mul_le_mul_right _ l)⟩
theorem BQ.add {D c : Nat} {q p : Rat} (h : BQ D c q) (g : Nq D 6006 p) : BQ D (c + 1) (q + p) := by
  obtain ⟨z, h1, h2⟩ := h
  obtain ⟨y, g1, g2⟩ := g
  refine ⟨z + y, by rw [Rat.add_mul, h1, g1, Rat.intCast_add], ?_⟩
  rw [Nat.add_mul, Nat.one_mul]; omega
theorem BQ.nq {D c : Nat} {q : Rat} (h : BQ D c q) (l : c ≤ 128) : Nq D 6013 q := by
  obtain ⟨z, h1, h2⟩ := h
  refine ⟨z, h1, Nat.le_trans h2 ?_⟩
  rw [show (2 : Nat) ^ 6013 = 2 ^ 7 * 2 ^ 6006 by rw [← Nat.pow_add]]
  exact Nat.mul_le_mul_right _ l
theorem nq_neg {D b : Nat} {q : Rat} (h : Nq D b q) : Nq D b (-q) := by
  obtain ⟨z, h1, h2⟩ := h
  exact ⟨-z, by rw [Rat.neg_mul, h1, Rat.intCast_neg], by omega⟩
theorem gStep_bq {D c : Nat} {g : Str → Nat → Rat} {m0 : Str} {j0 : Nat} {q : Rat} (h : ∀ m j, BQ D c (g m j)) (hq : Nq D 6006 q) : ∀ m j, BQ D (c + 1) (gStep g m0 j0 q m j) := fun m j => by
  unfold gStep
  split
  · exact (h m j).add hq
  · exact (h m j).mono (by omega)
/-! ### in the heap -/
def SumsH (K : PySem.W.Frag) (PQ : List (Str × Addr)) (g : Str → Nat → Rat) (H : Hp) : Prop := ∀ m q, (m, q) ∈ PQ → RowAt K H q [g m 0, g m 1]
theorem SumsH.same {K : PySem.W.Frag} {PQ : List (Str × Addr)} {g : Str → Nat → Rat} {H H' : Hp} (h : SumsH K PQ g H) (e : Same H H') : SumsH K PQ g H' := fun m q hm => (h m q hm).same e
structure PqOk (PQ : List (Str × Addr)) : Prop where
  n : (PQ.map (·.1)).Nodup
  q : (PQ.map (·.2)).Nodup
theorem pq_inj {PQ : List (Str × Addr)} (ok : PqOk PQ) {m m' : Str} {q : Addr} (h : (m, q) ∈ PQ) (h' : (m', q) ∈ PQ) : m = m' := by
  obtain ⟨i, hi⟩ := List.getElem?_of_mem h
  obtain ⟨j, hj⟩ := List.getElem?_of_mem h'
  have := nd_ix ok.q (show (PQ.map (·.2))[i]? = some q by rw [List.getElem?_map, hi]; rfl) (show (PQ.map (·.2))[j]? = some q by rw [List.getElem?_map, hj]; rfl)
  subst this
  rw [hi] at hj
  have := Option.some.inj hj
  exact congrArg Prod.fst this
theorem pq_fun {PQ : List (Str × Addr)} (ok : PqOk PQ) {m : Str} {q q' : Addr} (h : (m, q) ∈ PQ) (h' : (m, q') ∈ PQ) : q = q' := by
  obtain ⟨i, hi⟩ := List.getElem?_of_mem h
  obtain ⟨j, hj⟩ := List.getElem?_of_mem h'
  have := nd_ix ok.n (show (PQ.map (·.1))[i]? = some m by rw [List.getElem?_map, hi]; rfl) (show (PQ.map (·.1))[j]? = some m by rw [List.getElem?_map, hj]; rfl)
  subst this
  rw [hi] at hj
  have := Option.some.inj hj
  exact congrArg Prod.snd this
def pqK (PQ : List (Str × Addr)) : List (Key × V) := PQ.map fun x => (kS x.1, V.ref x.2)
theorem pq_val {PQ : List (Str × Addr)} (ok : PqOk PQ) {m : Str} {q : Addr} (h : (m, q) ∈ PQ) : valV (pqK PQ) (kS m) = some (.ref q) := by
  have hm : (kS m, V.ref q) ∈ pqK PQ := List.mem_map.mpr ⟨_, h, rfl⟩
  obtain ⟨⟨k', v'⟩, hf, e, hx⟩ := find_mem (xs := pqK PQ) (k := kS m) (List.mem_map.mpr ⟨_, hm, rfl⟩)
  have e : k' = kS m := e
  subst e
  obtain ⟨⟨m2, q2⟩, h2, e2⟩ := List.mem_map.mp hx
  have e3 := Sum.inr.inj (congrArg Prod.fst e2)
  have e4 : V.ref q2 = v' := congrArg Prod.snd e2
  have e3 : m2 = m := e3
  subst e3
  rw [pq_fun ok h h2, e4]
  unfold valV
  rw [hf]; rfl
section
variable {K : PySem.W.Frag} {σ : L2.St} {H H' : Hp} {te ta tb tq to ti : TE}
/-- xs[i] = e, xs by an expression -/
theorem st_setixE {R : V → Hp → Prop} [MonE Same R] {p : Addr} {xs : List V} {z : Int} {j : Nat} {D : Ends} (ho : Eva Same to σ H (Is (.ref p))) (hp : H p = some (.lst xs)) (hz : Eva Same ti σ H (Is (.int z))) (hj : ixN xs.length z = some j) (hv : Eva Same te σ H R)
    (k : ∀ v H1, Same H H1 → R v H1 → D.nx σ (upd H1 p (.lst (xs.set j v)))) : tAsg te (gSub to ti rSetL) D σ H :=
  hv H (Same.refl _) _ fun v H1 e1 r => ho H1 e1 _ fun o H2 e2 ro => hz H2 (e1.trans e2) _ fun z' H3 e3 rz => ⟨p, xs, z, j, ro, rz, ((e1.trans e2).trans e3) _ _ hp, hj, k v H3 ((e1.trans e2).trans e3) (MonE.mono (e2.trans e3) r)⟩
theorem row2_at {q : Addr} {g0 g1 : Rat} (h : RowAt K H q [g0, g1]) : ∃ u0 u1, H q = some (.lst [u0, u1]) ∧ Rt K g0 u0 H ∧ Rt K g1 u1 H := by
  obtain ⟨vs, h1, h2⟩ := h
  obtain ⟨u, v, rfl, a, b⟩ := paired2 h2
  exact ⟨u, v, h1, a, b⟩
/-- sums[m][j] = f(sums[m][j], q) -/
theorem st_sumput {f : Rat → Rat → Rat} {PQ : List (Str × Addr)} {g : Str → Nat → Rat} {m0 : Str} {q0 : Addr} {j : Nat} {q qf : Rat} {D : Ends} {X : XK} (ok : PqOk PQ) (h : SumsH K PQ g H) (hm : (m0, q0) ∈ PQ) (ho : Eva Same to σ H (Is (.ref q0))) (ho2 : Eva Same ta σ H (Is (.ref q0))) (hi : Eva Same ti σ H (Is (.int (j : Int)))) (hi2 : Eva Same tb σ H (Is (.int (j : Int)))) (hj : j < 2)
    (hq : Eva Same tq σ H (Rt K q)) (s1 : Sm (g m0 j)) (s2 : Sm q) (hf : ∀ x, f x q = x + qf) (k : ∀ v0 v1 H1, Same H H1 → (∃ u0 u1, H1 q0 = some (.lst [u0, u1])) → SumsH K PQ (gStep g m0 j qf) (upd H1 q0 (.lst [v0, v1])) → D.nx σ (upd H1 q0 (.lst [v0, v1]))) :
    tAsg (tCall (spR2 K f) [] X (tCons (tOp (rIxL K) to ti) (tCons tq tNil))) (gSub ta tb rSetL) D σ H := by
  obtain ⟨u0, u1, hu, g0, g1⟩ := row2_at (h m0 q0 hm)
  have hrd : Eva Same (tOp (rIxL K) to ti) σ H (Rt K (g m0 j)) := by
    rcases (by omega : j = 0 ∨ j = 1) with rfl | rfl
    · exact Eva.imp (ev_ixL (v := u0) ho (SqL.of hu) (fun z => z) hi rfl) fun v H1 e r => by rw [show v = u0 from r]; exact MonW.mono e.wk g0
    · exact Eva.imp (ev_ixL (v := u1) ho (SqL.of hu) (fun z => z) hi rfl) fun v H1 e r => by rw [show v = u1 from r]; exact MonW.mono e.wk g1
  refine st_setixE (R := Rt K (f (g m0 j) q)) (z := (j : Int)) (j := j) ho2 hu hi2 (ixN_nat hj) (ev_R2 hrd hq s1 s2) fun v H1 e1 hv => ?_
  rw [set_two hj]
  have hu1 := e1 _ _ hu
  refine k _ _ _ e1 ⟨_, _, hu1⟩ fun m q' hmq => ?_
  rw [hf] at hv
  by_cases e : q' = q0
  · subst e
    have em := pq_inj ok hmq hm
    subst em
    have t : Tp H1 (upd H1 q' (.lst [if j = 0 then v else u0, if j = 0 then u1 else v])) := Tp.putL hu1
    have key0 : Rt K (gStep g m j qf m 0) (if j = 0 then v else u0) H1 := by
      unfold gStep
      by_cases hj0 : j = 0
      · subst hj0
        rw [if_pos rfl, if_pos ⟨rfl, rfl⟩]; exact hv
      · rw [if_neg hj0, if_neg (fun z => hj0 z.2.symm)]; exact MonW.mono e1.wk g0
    have key1 : Rt K (gStep g m j qf m 1) (if j = 0 then u1 else v) H1 := by
      unfold gStep
      by_cases hj0 : j = 0
      · subst hj0
        rw [if_pos rfl, if_neg (fun z => by cases z.2)]; exact MonW.mono e1.wk g1
      · have h1 : 1 = j := by omega
        rw [if_neg hj0, if_pos ⟨rfl, h1⟩, h1]; exact hv
    exact ⟨_, upd_same, .cons (MonT.mono t key0) (.cons (MonT.mono t key1) .nil)⟩
  · have hne : m ≠ m0 := fun z => e (by subst z; exact pq_fun ok hmq hm)
    have := ((h m q' hmq).same e1).put (ys := [if j = 0 then v else u0, if j = 0 then u1 else v]) e hu1
    have e2 : ∀ i, gStep g m0 j qf m i = g m i := fun i => by unfold gStep; rw [if_neg (fun z => hne z.1)]
    rw [e2, e2]
    exact this
end
theorem mergeK_new : ∀ (more acc : List (Key × V)), ((acc ++ more).map (·.1)).Nodup → mergeK acc more = acc ++ more
  | [], acc, _ => by show acc = acc ++ []; rw [List.append_nil]
  | x :: more, acc, nd => by
    have h1 : putK acc x.1 x.2 = acc ++ [x] := putK_new _ (valV_none fun p hp z => by
      rw [List.map_append, List.nodup_append] at nd
      exact nd.2.2 p.1 (List.mem_map.mpr ⟨p, hp, rfl⟩) x.1 (by simp) z)
    show mergeK (putK acc x.1 x.2) more = _
    rw [h1, mergeK_new more (acc ++ [x]) (by rw [List.append_assoc]; exact nd), List.append_assoc]; rfl
end Gm

set_option maxHeartbeats 4000000
namespace Gm
open PySem PySem.Spec PyProof.Rows L2
/-- two ratios in a list, as data -/
def dL2 (a b : Rat) : PyData := .list [dR a, dR b]
theorem dp_L2 {K : PySem.W.Frag} {H : Hp} {q : Addr} {a b : Rat} (h : RowAt K H q [a, b]) : Dp K H (.ref q) (dL2 a b) := by
  obtain ⟨vs, h1, h2⟩ := h
  obtain ⟨u, v, rfl, x, y⟩ := paired2 h2
  exact .lst (SqL.of h1) (.cons (dp_R x) (.cons (dp_R y) .nil))
theorem sh_L2 (a b : Rat) : SeqAt.shaped (dL2 a b) = true := rfl
theorem eqv_L2 (a b c e : Rat) : PyData.eqv (dL2 a b) (dL2 c e) = decide ((a, b) = (c, e)) := by
  have h : PyData.eqv (dL2 a b) (dL2 c e) = (PyData.eqv (dR a) (dR c) && (PyData.eqv (dR b) (dR e) && true)) := by
    simp [dL2, PyData.eqv, PyData.eqvAll]
  rw [h, eqv_R, eqv_R, Bool.eq_iff_iff]
  simp only [Bool.and_true, Bool.and_eq_true, decide_eq_true_eq]
  constructor
  · rintro ⟨h1, h2⟩; rw [h1, h2]
  · intro z; exact ⟨congrArg Prod.fst z, congrArg Prod.snd z⟩
def condF (W : Wd) (pl : PlL) (x : Str × (Rat × Rat)) : Bool := match W.fx x.1 with
  | none => decide ((uncF pl W.rds x.1 0, uncF pl W.rds x.1 1) = ((0 : Rat), (0 : Rat)))
  | some p => decide (x.2 = ((p.1 : Rat), (p.2 : Rat)))
theorem cond_all {W : Wd} {pl : PlL} (hk : srt (pl.map (·.1)) = W.hung) : pl.all (condF W pl) = (pl.all (atF W) && W.free.all fun m => decide ((uncF pl W.rds m 0, uncF pl W.rds m 1) = ((0 : Rat), (0 : Rat)))) := by
  rw [Bool.eq_iff_iff, Bool.and_eq_true, List.all_eq_true, List.all_eq_true, List.all_eq_true]
  constructor
  · intro h
    refine ⟨fun x hx => ?_, fun m hm => ?_⟩
    · have := h x hx
      unfold condF at this
      unfold atF
      cases e : W.fx x.1 with
      | none => rfl
      | some p => rw [e] at this; exact this
    · obtain ⟨h1, h2⟩ := Wd.free_mem.mp hm
      rw [← hk, srt_mem] at h1
      obtain ⟨x, hx, rfl⟩ := List.mem_map.mp h1
      have := h x hx
      unfold condF at this
      rw [h2] at this; exact this
  · rintro ⟨h1, h2⟩ x hx
    unfold condF
    have ha := h1 x hx
    unfold atF at ha
    cases e : W.fx x.1 with
    | none =>
      exact h2 x.1 (Wd.free_mem.mpr ⟨by rw [← hk, srt_mem]; exact List.mem_map.mpr ⟨x, hx, rfl⟩, e⟩)
    | some p => rw [e] at ha; exact ha
section
variable {K : PySem.W.Frag} {σ : L2.St} {H H' : Hp} {te ta tb : TE}
theorem ev_lcP {wi : TI} {n : Nat} {Y : Nat → V → Hp → Prop} {g : TG} {tt : TT} {own : List Nat} (hI : EvI Same wi σ H n Y) (hn : n ≤ 100000) (ms : List Str) (hl : ms.length = n)
    (step : ∀ i x H', i < n → Same H H' → Y i x H' → ∃ σ2, TgOk g x (wipe σ own) H' σ2 ∧ wipe σ2 own = wipe σ own ∧ EvT Same tt σ2 H' true ∧ ∀ H1, Same H' H1 → ∀ Q : VK, (∀ t q H2, Same H1 H2 → H1 q = none → SqT K H2 t [.str (ms.getD i default), .ref q] → RowAt K H2 q [0, 0] → Q (.ref t) H2) → te σ2 H1 Q) :
    ∀ H1, Same H H1 → ∀ Q : VK, (∀ D ts PQ H2, Same H1 H2 → H2 D = some (.lst (ts.map V.ref)) → Paired (fun t (x : Str × Addr) => SqT K H2 t [.str x.1, .ref x.2]) ts PQ → PQ.map (·.1) = ms → (PQ.map (·.2)).Nodup → (∀ x ∈ PQ, H1 x.2 = none) → SumsH K PQ (fun _ _ => 0) H2 → Q (.ref D) H2) → tLc wi g tt te own σ H1 Q := fun H1 e Q q =>
  hI H1 e _ fun J H2 e2 jk D hD => by
    have e12 := e.trans e2
    refine ⟨fun i m H' => m = n - i ∧ i ≤ n ∧ Same H2 H' ∧ ∃ ts PQ, H' D = some (.lst (ts.map V.ref)) ∧ Paired (fun t (x : Str × Addr) => SqT K H' t [.str x.1, .ref x.2]) ts PQ ∧ PQ.map (·.1) = ms.take i ∧ (PQ.map (·.2)).Nodup ∧ (∀ x ∈ PQ, H2 x.2 = none ∧ x.2 ≠ D) ∧ SumsH K PQ (fun _ _ => 0) H',
      ⟨n, by simp, Nat.zero_le _, Same.new hD, [], [], upd_same, .nil, rfl, by simp, fun x hx => by simp at hx, fun m q hx => by simp at hx⟩, ?_⟩
    rintro i m H' ⟨rfl, hi, e3, ts, PQ, ha, hp, hk, hnd, hfr, hs⟩
    by_cases hlt : i < n
    · refine .inr ⟨((jk H' e3).2 i hlt).1, fun H'' => i + 1 ≤ n ∧ Same H2 H'' ∧ ∃ ts PQ, H'' D = some (.lst (ts.map V.ref)) ∧ Paired (fun t (x : Str × Addr) => SqT K H'' t [.str x.1, .ref x.2]) ts PQ ∧ PQ.map (·.1) = ms.take (i + 1) ∧ (PQ.map (·.2)).Nodup ∧ (∀ x ∈ PQ, H2 x.2 = none ∧ x.2 ≠ D) ∧ SumsH K PQ (fun _ _ => 0) H'', fun H'' w => ⟨n - (i + 1), by omega, rfl, w⟩, fun x H4 y => ?_⟩
      obtain ⟨e4, yx⟩ := ((jk H' e3).2 i hlt).2 x H4 y
      have e24 := e3.trans e4
      obtain ⟨σ2, tg, hw, hb, hv⟩ := step i x H4 hlt (e12.trans e24) yx
      refine tg _ ⟨hw, hb H4 (Same.refl _) _ fun H5 e5 => ?_⟩
      have e45 := e4.trans e5
      have ha5 := e45 _ _ ha
      have hlen : ts.length ≤ i := by
        have h1 : PQ.length = (ms.take i).length := by rw [← hk, List.length_map]
        rw [hp.length, h1, List.length_take]; omega
      refine iteT (hv H5 e5 _ fun t q' H6 e6 nq ht hrow => ?_)
      have e46 := e45.trans e6
      have ha6 := e46 _ _ ha
      have qD : q' ≠ D := fun z => by rw [z, ha5] at nq; cases nq
      have w6 : Wk H6 (upd H6 D (.lst (ts.map V.ref ++ [.ref t]))) := Wk.putL ha6
      have old : ∀ x ∈ PQ, x.2 ≠ q' := fun x hx z => by
        obtain ⟨vs, h1, _⟩ := (hs x.1 x.2 hx).same e45
        rw [z, nq] at h1; cases h1
      refine ⟨_, ha6, by rw [List.length_map]; exact Nat.lt_of_le_of_lt (Nat.le_trans hlen (Nat.le_trans hi hn)) (by decide), hlt, Same.mut (e3.trans e46) hD, ts ++ [t], PQ ++ [(ms.getD i default, q')], ?_, ?_, ?_, ?_, ?_, ?_⟩
      · rw [List.map_append]; exact upd_same
      · exact papp (pimp (fun t x r => w6.sqT (e46.wk.sqT r)) hp) (.cons (w6.sqT ht) .nil)
      · rw [List.map_append, hk, List.take_succ, getD_lt (default : Str) (by omega)]; rfl
      · rw [List.map_append, List.nodup_append]
        refine ⟨hnd, by simp, fun a hx b hb => ?_⟩
        obtain ⟨x, hx', ex⟩ := List.mem_map.mp hx
        have hb : b = q' := by simpa using hb
        rw [hb, ← ex]; exact old x hx'
      · intro x hx
        rcases List.mem_append.mp hx with hx | hx
        · exact hfr x hx
        · rw [List.mem_singleton.mp hx]
          exact ⟨(e24.trans e5).free nq, qD⟩
      · intro m q2 hx
        rcases List.mem_append.mp hx with hx | hx
        · exact ((hs m q2 hx).same e46).put (hfr _ hx).2 ha6
        · have hx := List.mem_singleton.mp hx
          have h2 : q2 = q' := congrArg Prod.snd hx
          rw [h2]; exact hrow.put qD ha6
    · have en : i = n := by omega
      subst en
      rw [List.take_of_length_le (by omega)] at hk
      exact .inl ⟨(jk H' e3).1, q D ts PQ H' (e2.trans e3) ha hp hk hnd (fun x hx => e2.free (hfr x hx).1) hs⟩
end
/-- the heap while the sums are gathered -/
structure SL (K : PySem.W.Frag) (HB HT : Hp) (PQ : List (Str × Addr)) (dS : Addr) (g : Str → Nat → Rat) (H : Hp) : Prop where
  s : Same HB H
  d : H dS = some (.dK (pqK PQ))
  t : Tp HT H
  g : SumsH K PQ g H
theorem SL.same {K : PySem.W.Frag} {HB HT : Hp} {PQ : List (Str × Addr)} {dS : Addr} {g : Str → Nat → Rat} {H H' : Hp} (h : SL K HB HT PQ dS g H) (e : Same H H') : SL K HB HT PQ dS g H' := ⟨h.s.trans e, e _ _ h.d, h.t.trans e.tp, h.g.same e⟩
end Gm

set_option maxHeartbeats 4000000
namespace Gm
open PySem PySem.Spec PyProof.Rows L2
theorem gJ_bq {D c : Nat} {g : Str → Nat → Rat} {r : Rdg} {s : Rat × Rat} (h : ∀ m j, BQ D c (g m j)) (hq : ∀ j, Nq D 6006 ((r.wt : Rat) * sel s j)) : ∀ (n : Nat) m j, BQ D (c + 2 * n) (gJ g r s n m j)
  | 0, m, j => h m j
  | n + 1, m, j => by
    have h1 := gStep_bq (m0 := r.other) (j0 := n) (gJ_bq h hq n) (hq n)
    exact (gStep_bq (m0 := r.one) (j0 := n) h1 (nq_neg (hq n)) m j).mono (by omega)
theorem gT_bq {D : Nat} {pl : PlL} {W : Wd} (ok : W.Ok) (D1 : D < 2 ^ 2000) (hN : ∀ x ∈ pl, Nq D 6000 x.2.1 ∧ Nq D 6000 x.2.2) : ∀ (i : Nat) m j, BQ D (2 * i) (gT ((restsT pl W.rds).take i) m j)
  | 0, m, j => BQ.zero
  | i + 1, m, j => by
    have ih := gT_bq ok D1 hN i m j
    cases h : (restsT pl W.rds)[i]? with
    | none =>
      have e : (restsT pl W.rds).take (i + 1) = (restsT pl W.rds).take i := by rw [List.take_succ, h]; simp
      rw [e]; exact ih.mono (by omega)
    | some t =>
      obtain ⟨⟨n, r⟩, s⟩ := t
      obtain ⟨m1, m2⟩ := restsT_mem (List.mem_of_getElem? h)
      have rb := ok.rdb m1
      have nr := nq_restO D1 hN rb m2
      have hq : Nq D 6006 ((r.wt : Rat) * sel s j) := (nq_sel nr j).smul (c := 4) (by have := rb.w; omega)
      rw [gT_snoc h]
      unfold pm
      split <;> split
      · have : gT ((restsT pl W.rds).take i) m j + ((r.wt : Rat) * sel s j - (r.wt : Rat) * sel s j) = gT ((restsT pl W.rds).take i) m j := by grind
        rw [this]; exact ih.mono (by omega)
      · have : gT ((restsT pl W.rds).take i) m j + ((r.wt : Rat) * sel s j - 0) = gT ((restsT pl W.rds).take i) m j + (r.wt : Rat) * sel s j := by grind
        rw [this]; exact (ih.add hq).mono (by omega)
      · have : gT ((restsT pl W.rds).take i) m j + (0 - (r.wt : Rat) * sel s j) = gT ((restsT pl W.rds).take i) m j + -((r.wt : Rat) * sel s j) := by grind
        rw [this]; exact (ih.add (nq_neg hq)).mono (by omega)
      · have : gT ((restsT pl W.rds).take i) m j + (0 - 0) = gT ((restsT pl W.rds).take i) m j := by grind
        rw [this]; exact ih.mono (by omega)
theorem lk_isSome_mem {pl : PlL} {m : Str} {s : Rat × Rat} (h : lk pl m = some s) : m ∈ pl.map (·.1) := List.mem_map.mpr ⟨_, lk_mem h, rfl⟩
section
variable {K : PySem.W.Frag} {σ : L2.St} {H : Hp} {tk z1 z2 : TE}
theorem ev_nameZ {m : Str} (hk : Eva Same tk σ H (Is (.str m))) (h1 : Eva Same z1 σ H (Rt K 0)) (h2 : Eva Same z2 σ H (Rt K 0)) : ∀ H1, Same H H1 → ∀ Q : VK, (∀ t q H2, Same H1 H2 → H1 q = none → SqT K H2 t [.str m, .ref q] → RowAt K H2 q [0, 0] → Q (.ref t) H2) → tTup (tCons tk (tCons (tLst (tCons z1 (tCons z2 tNil))) tNil)) σ H1 Q := fun H1 e Q q =>
  hk H1 e _ fun v H2 e2 rv => h1 H2 (e.trans e2) _ fun v1 H6 e6 r1 => h2 H6 ((e.trans e2).trans e6) _ fun v2 H7 e7 r2 => by
    rw [show v = _ from rv]
    refine ⟨(by show 2 ≤ sizeLine; decide), fun q' nq => ⟨(by show 2 ≤ sizeLine; decide), fun t nt => ?_⟩⟩
    have e8 : Same H7 (upd H7 q' (.lst [v1, v2])) := Same.new nq
    have q8 : (upd H7 q' (.lst [v1, v2])) q' = some (.lst [v1, v2]) := upd_same
    generalize upd H7 q' (.lst [v1, v2]) = H8 at e8 q8 nt
    have e9 : Same H8 (upd H8 t (.tup [.str m, .ref q'])) := Same.new nt
    have e27 := (e2.trans e6).trans e7
    exact q t q' _ ((e27.trans e8).trans e9) (e27.free nq) (SqT.of upd_same) ⟨[v1, v2], e9 _ _ q8, .cons (MonW.mono ((e7.trans e8).trans e9).wk r1) (.cons (MonW.mono (e8.trans e9).wk r2) .nil)⟩
end
def RowV (K : PySem.W.Frag) (l : List Rat) : V → Hp → Prop := fun v H => ∃ q, v = .ref q ∧ RowAt K H q l
instance {K : PySem.W.Frag} {l : List Rat} : MonE Same (RowV K l) := ⟨fun e ⟨q, ev, h⟩ => ⟨q, ev, h.same e⟩⟩
theorem dp_RowV {K : PySem.W.Frag} {H : Hp} {a b : Rat} {v : V} (h : RowV K [a, b] v H) : Dp K H v (dL2 a b) := by
  obtain ⟨q, rfl, h⟩ := h; exact dp_L2 h
theorem ev_two0 {K : PySem.W.Frag} {σ : L2.St} {H : Hp} {z1 z2 : TE} (h1 : Eva Same z1 σ H (Rt K 0)) (h2 : Eva Same z2 σ H (Rt K 0)) : Eva Same (tLst (tCons z1 (tCons z2 tNil))) σ H (RowV K [0, 0]) := fun H1 e Q q =>
  h1 H1 e _ fun v1 H2 e2 r1 => h2 H2 (e.trans e2) _ fun v2 H3 e3 r2 => ⟨(by show 2 ≤ sizeLine; decide), fun p hp => q _ _ ((e2.trans e3).trans (Same.new hp)) ⟨p, rfl, [v1, v2], upd_same, .cons (MonW.mono (e3.trans (Same.new hp)).wk r1) (.cons (MonW.mono (Same.new hp).wk r2) .nil)⟩⟩
theorem condF_none {W : Wd} {pl : PlL} {m : Str} {s : Rat × Rat} (h : W.fx m = none) : condF W pl (m, s) = decide ((uncF pl W.rds m 0, uncF pl W.rds m 1) = ((0 : Rat), (0 : Rat))) := by unfold condF; rw [h]
theorem condF_some {W : Wd} {pl : PlL} {m : Str} {s : Rat × Rat} {p : Int × Int} (h : W.fx m = some p) : condF W pl (m, s) = decide (s = ((p.1 : Rat), (p.2 : Rat))) := by unfold condF; rw [h]
section
variable {P : Program} {w : World} {K : PySem.W.Frag} {mg : Str → Option Value} {base : Heap} {aN : Addr} {uM uW uL : Value} {C fI fM fR fN fH : Addr} {fdI fdM fdR fdN fdH : FuncData}
def PreWX (K : PySem.W.Frag) (x : Wd × PlL) : List V → Hp → Prop := fun vs H => (∃ u v, vs = [u, v] ∧ WwV K x.1 u H ∧ PlX K x.2 v H) ∧ x.1.Ok ∧ PlOk x.2 ∧ KeysOk x.2
noncomputable def spLBal (K : PySem.W.Frag) : Sp := SpG (α := Wd × PlL) (PreWX K) (fun x v _ => v = .bl (balF x.1 x.2))
theorem ev_lhung {σ : L2.St} {H : Hp} {ta : TE} {X : XK} {W : Wd} (ha : Eva Same ta σ H (WwV K W)) (ok : W.Ok) : Eva Same (tCall (spLHung K) [] X (tCons ta tNil)) σ H (LstV (W.hung.map V.str)) := by
  refine ev_G (α := Wd) W (ea_cons ha ea_nil) ?_
  rintro vs H' _ ⟨v, r', rfl, hv, rfl⟩
  exact ⟨⟨v, rfl, hv⟩, ok⟩
theorem ok_l_balanced (D : DefAt K mg "_law_balanced" s_l_balanced) (U : Uni K mg aN uM uW uL) (c_l_hung : Cal P w K mg base 1 "_law_hung" ["_law_w"] (spLHung K)) (c_l_rests : Cal P w K mg base 4 "_law_rests" ["_law_placing", "_law_readings_here"] (spLRests K)) (c_l_mul : Cal P w K mg base 2 "_law_mul" ["_law_a", "_law_b"] (spTimes K))
    (c_l_add : Cal P w K mg base 2 "_law_add" ["_law_a", "_law_b"] (spPlus K)) (c_l_sub : Cal P w K mg base 2 "_law_sub" ["_law_a", "_law_b"] (spMinus K)) : Cal P w K mg base 5 "_law_balanced" ["_law_w", "_law_placing"] (spLBal K) := by
  refine D.cal 4 sc_l_balanced (fun _ _ _ _ _ _ us hl => match us, hl with | [_, _], _ => rfl) (fun vs H Q E h => ?_) (fun f cdv A outer s H vs Q E hr h => ?_)
  · obtain ⟨x, ⟨⟨_, _, rfl, _⟩, _⟩, _⟩ := h; rfl
  obtain ⟨⟨W, pl⟩, ⟨⟨_, _, rfl, ⟨d, dM, dR, kM, kR, rfl, hw⟩, ⟨dP, kvs, rfl, hd, hp⟩⟩, ok, plok, ko⟩, k⟩ := h
  have ok : W.Ok := ok
  have ko : KeysOk pl := ko
  have hw : WwA K W d dM dR kM kR H := hw
  have hp : Dc kS (SpV K) pl kvs H := hp
  have plok : PlOk pl := plok
  have k : ∀ v H', Same H H' → v = .bl (balF W pl) → Q v H' := k
  have hks : kvs.map (·.1) = (pl.map (·.1)).map Sum.inr := by rw [hp.keys, List.map_map]; rfl
  have so1 : ∀ x ∈ srt (pl.map (·.1)), PyData.strOk x = true := fun x hx => ko.so x (srt_mem.mp hx)
  have so2 : ∀ x ∈ W.hung, PyData.strOk x = true := fun x hx => ok.strOk (Wd.hung_mem.mp hx).1
  refine ⟨_, (pss_cons (ps_if (pt_cmpR (op_neD hr.units) (pe_callB (call_sortedD rfl) (by rfl) U.sorted (by decide +kernel) (pa_cons (pv 1) pa_nil)) (c_l_hung.call (hr.mono (by decide)) (by rfl) (pa_cons (pv 0) pa_nil)) (nomark _)) (pss_one (ps_ret pe_bl)) pss_nil)
      (pss_cons (ps_set (i := 2) sc_l_balanced.nd rfl (Or.inl rfl) (pe_callTy (call_dictP rfl) (by rfl) U.dict (by decide +kernel) (pa_cons (pe_lock (pe_lc (own := [("_law_name", 12)]) (g := (gName 12)) rfl sc_l_balanced.nd (pi_keys (pv 1)) (blkOk_by (N := n_l_balanced) (sc := defScope s_l_balanced) (own := [("_law_name", 12)]) (by decide +kernel)) (fun _ _ _ _ _ => (pg_name (i := 12) sc_l_balanced.nd rfl (Or.inl rfl))) (fun _ _ _ _ _ => pts_nil) (fun _ _ _ _ _ => (pe_tup (pa_cons (pv 12) (pa_cons (pe_lst (pa_cons (pe_tup (pa_cons pe_int (pa_cons pe_int pa_nil))) (pa_cons (pe_tup (pa_cons pe_int (pa_cons pe_int pa_nil))) pa_nil))) pa_nil)))))) pa_nil)))
      (pss_cons (ps_set (i := 3) sc_l_balanced.nd rfl (Or.inl rfl) (c_l_rests.call (hr.mono (by decide)) (by rfl) (pa_cons (pv 1) (pa_cons (pe_dget (hu_of hr) (pv 0) pe_str (fun _ _ => rfl)) pa_nil))))
      (pss_cons (ps_lock (ps_for PassesOwn.never rfl (pi_keys (pv 3)) (pg_name (i := 4) sc_l_balanced.nd rfl (Or.inl rfl)) (pss_cons (ps_asg (pe_dget (hu_of hr) (pe_dget (hu_of hr) (pv 0) pe_str (fun _ _ => rfl)) (pv 4) (fun _ _ => rfl)) (pg_tup rfl (pgs_cons (pg_name (i := 5) sc_l_balanced.nd rfl (Or.inl rfl)) (pgs_cons (pg_name (i := 6) sc_l_balanced.nd rfl (Or.inl rfl)) (pgs_cons (pg_name (i := 7) sc_l_balanced.nd rfl (Or.inl rfl)) (pgs_cons (pg_name (i := 8) sc_l_balanced.nd rfl (Or.inl rfl)) (pgs_cons (pg_name (i := 9) sc_l_balanced.nd rfl (Or.inl rfl)) pgs_nil)))))))
      (pss_one (ps_for PassesOwn.never rfl (pi_range1 (by rfl) U.range (pa_cons pe_int pa_nil)) (pg_name (i := 10) sc_l_balanced.nd rfl (Or.inl rfl)) (pss_cons (ps_set (i := 11) sc_l_balanced.nd rfl (Or.inl rfl) (c_l_mul.call (hr.mono (by decide)) (by rfl) (pa_cons (pe_tup (pa_cons (pv 9) (pa_cons pe_int pa_nil))) (pa_cons (pe_ix ix_tup (pe_dget (hu_of hr) (pv 3) (pv 4) (fun _ _ => rfl)) (pv 10) (fun _ _ => rfl)) pa_nil))))
      (pss_cons (ps_asg (c_l_add.call (hr.mono (by decide)) (by rfl) (pa_cons (pe_ix ix_list (pe_dget (hu_of hr) (pv 2) (pv 6) (fun _ _ => rfl)) (pv 10) (fun _ _ => rfl)) (pa_cons (pv 11) pa_nil))) (pg_sub (pe_dget (hu_of hr) (pv 2) (pv 6) (fun _ _ => rfl)) (pv 10) set_list))
      (pss_one (ps_asg (c_l_sub.call (hr.mono (by decide)) (by rfl) (pa_cons (pe_ix ix_list (pe_dget (hu_of hr) (pv 2) (pv 5) (fun _ _ => rfl)) (pv 10) (fun _ _ => rfl)) (pa_cons (pv 11) pa_nil))) (pg_sub (pe_dget (hu_of hr) (pv 2) (pv 5) (fun _ _ => rfl)) (pv 10) set_list))))))))))
      (pss_cons (ps_lock (ps_for PassesOwn.never rfl (pi_keys (pv 1)) (pg_name (i := 12) sc_l_balanced.nd rfl (Or.inl rfl)) (pss_cons (ps_set (i := 10) sc_l_balanced.nd rfl (Or.inl rfl) (pe_dget (hu_of hr) (pe_dget (hu_of hr) (pv 0) pe_str (fun _ _ => rfl)) (pv 12) (fun _ _ => rfl)))
      (pss_cons (ps_if (PW.pt (pw_and (pt_cmpR op_isN (pv 10) pe_non (nomark _)) (pw_and1 (pt_cmpR (op_neD hr.units) (pe_dget (hu_of hr) (pv 2) (pv 12) (fun _ _ => rfl)) (pe_lst (pa_cons (pe_tup (pa_cons pe_int (pa_cons pe_int pa_nil))) (pa_cons (pe_tup (pa_cons pe_int (pa_cons pe_int pa_nil))) pa_nil))) (nomark _))))) (pss_one (ps_ret pe_bl)) pss_nil)
      (pss_one (ps_if (PW.pt (pw_and (pt_cmpR op_notN (pv 10) pe_non (nomark _)) (pw_and1 (pt_cmpR (op_neD hr.units) (pe_dget (hu_of hr) (pv 1) (pv 12) (fun _ _ => rfl)) (pe_tup (pa_cons (pe_tup (pa_cons (pe_ix ix_tup (pv 10) pe_int (fun _ _ => rfl)) (pa_cons pe_int pa_nil))) (pa_cons (pe_tup (pa_cons (pe_ix ix_tup (pv 10) pe_int (fun _ _ => rfl)) (pa_cons pe_int pa_nil))) pa_nil))) (nomark _))))) (pss_one (ps_ret pe_bl)) pss_nil))))))
      (pss_one (ps_ret pe_bl))))))), ?_⟩
  refine st_ifN (E := Same) (b := !decide (srt (pl.map (·.1)) = W.hung)) (EvT.is (et_test (ev_neD (R := LstV ((srt (pl.map (·.1))).map V.str)) (S := LstV (W.hung.map V.str)) (d := dLs (srt (pl.map (·.1)))) (e := dLs W.hung)
    (Eva.imp (ev_sortedD (ks := pl.map (·.1)) (ev_var rfl) (.inl hd) hks (by rw [List.length_map]; have := ko.len; omega)) fun v H2 _ ⟨a, ea, ha, _⟩ => ⟨a, ea, ha⟩)
    (ev_lhung (ev_varR rfl ⟨d, dM, dR, kM, kR, rfl, hw⟩) ok) (fun _ _ => dp_L) (fun _ _ => dp_L) (sh_L so1) (sh_L so2))) (by rw [eqv_L])) (Same.refl _) (fun z H2 e2 => ?_) (fun z H2 e2 => ?_)
  · refine st_ret (E := Same) (R := Is (.bl false)) ev_c (Same.refl _) fun v H3 e3 r => k v H3 (e2.trans e3) ?_
    have z : decide (srt (pl.map (·.1)) = W.hung) = false := by simpa using z
    rw [show v = _ from r]; unfold balF; rw [z]; rfl
  have z : decide (srt (pl.map (·.1)) = W.hung) = true := by simpa using z
  have zz := of_decide_eq_true z
  have hbal : balF W pl = pl.all (condF W pl) := by unfold balF; rw [z, cond_all zz, Bool.true_and]
  have hd2 := e2 _ _ hd
  have hp2 := hp.mono e2.tp
  have hw2 := hw.up e2
  obtain ⟨Dn, D0, D1, hN⟩ := id plok
  have lkv : kvs.length = pl.length := hp.length
  -- sums
  refine st_seq ?_
  refine ⟨dP, _, hd2, trivial, fun od => ?_⟩
  have fz : (upd H2 dP (.frz od (.dK kvs))) dP = some (.frz od (.dK kvs)) := upd_same
  refine ev_lcP (K := K) (H := upd H2 dP (.frz od (.dK kvs))) (n := kvs.length) (ei_keys (ev_var rfl) fz) (by have := ko.len; omega) (pl.map (·.1)) (by rw [List.length_map, lkv]) ?_ _ (Same.refl _) _ fun L ts PQ H3 e3 hL hts hkPQ hq hfr hs => ?_
  · rintro i x H' hi e ⟨kk, vv, hk, rfl⟩
    have hkk : kk = kS ((pl.map (·.1)).getD i default) := by
      have h1 : (kvs.map (·.1))[i]? = some kk := by rw [List.getElem?_map, hk]; rfl
      rw [hks, List.getElem?_map, getD_lt (default : Str) (by rw [List.length_map, ← lkv]; exact hi)] at h1
      exact (Option.some.inj h1).symm
    subst hkk
    refine ⟨_, tg_name, rfl, fun H5 e5 Q q => q H5 (Same.refl _), ?_⟩
    exact ev_nameZ (ev_var rfl) (Eva.imp (ev_n1 (K := K) (n := 0) ev_c) fun v H' _ r => r) (Eva.imp (ev_n1 (K := K) (n := 0) ev_c) fun v H' _ r => r)
  have ef := Same.lock (od := od) hd2 e3
  have fz3 : H3 dP = some (.frz od (.dK kvs)) := e3 _ _ fz
  have wu : Wk H3 (upd H3 dP (.dK kvs)) := Wk.unlock fz3
  refine ⟨fz3, ?_⟩
  have LdP : L ≠ dP := ne_of hL fz3 (fun z => nomatch z)
  have pqok : PqOk PQ := ⟨by rw [hkPQ]; exact ko.nd, hq⟩
  have hs4 : SumsH K PQ (fun _ _ => 0) (upd H3 dP (.dK kvs)) := fun m q hm => by
    obtain ⟨vs, h1, h2⟩ := hs m q hm
    exact ⟨vs, by rw [upd_ne (ne_of h1 fz3 (fun z => nomatch z))]; exact h1, pimp (fun _ _ r => MonW.mono wu r) h2⟩
  have hL4 : (upd H3 dP (.dK kvs)) L = some (.lst (ts.map V.ref)) := by rw [upd_ne LdP]; exact hL
  have hts4 := pimp (fun t (x : Str × Addr) (r : SqT K H3 t [.str x.1, .ref x.2]) => wu.sqT r) hts
  have hfr2 : ∀ x ∈ PQ, H2 x.2 = none := fun x hx => by
    have := hfr x hx
    by_cases e : x.2 = dP
    · rw [e, upd_same] at this; cases this
    · rw [upd_ne e] at this; exact this
  generalize upd H3 dP (.dK kvs) = H4 at ef wu hs4 hL4 hts4
  refine ⟨L, ts, pqK PQ, rfl, SqL.of hL4, ?_, fun dS ndS => ?_⟩
  · unfold pqK
    exact paired_mapR (f := fun x : Str × Addr => (kS x.1, V.ref x.2)) (fun t x r => r) hts4
  have hmk : mergeK [] (pqK PQ) = pqK PQ := mergeK_new _ [] (by
    show ((pqK PQ).map (·.1)).Nodup
    have : (pqK PQ).map (·.1) = (PQ.map (·.1)).map kS := by unfold pqK; rw [List.map_map, List.map_map]; rfl
    rw [this]
    rw [hkPQ]
    exact List.Pairwise.map _ (fun a b h z => h (Sum.inr.inj z)) ko.nd)
  rw [hmk]
  have e45 : Same H4 (upd H4 dS (.dK (pqK PQ))) := Same.new ndS
  have hdS5 : (upd H4 dS (.dK (pqK PQ))) dS = some (.dK (pqK PQ)) := upd_same
  dsimp only
  generalize upd H4 dS (.dK (pqK PQ)) = H5 at e45 hdS5
  have e25 : Same H2 H5 := ef.trans e45
  have hs5 := hs4.same e45
  have hgr : ∀ {H' : Hp} {σ : L2.St}, H' d = some (.dK (wwK dM dR)) → σ[0]? = some (some (.ref d)) → Eva Same (tDGet (tVar 0) (tC (.str "readings"))) σ H' (Is (.ref dR)) := fun {H' σ} e h0 => ev_dget (k := kS "readings") (ev_var h0) (.inl e) ev_c (ww_readings dM dR)
  have hgm : ∀ {H' : Hp} {σ : L2.St}, H' d = some (.dK (wwK dM dR)) → σ[0]? = some (some (.ref d)) → Eva Same (tDGet (tVar 0) (tC (.str "marks"))) σ H' (Is (.ref dM)) := fun {H' σ} e h0 => ev_dget (k := kS "marks") (ev_var h0) (.inl e) ev_c (ww_marks dM dR)
  have hw5 := hw2.up e25
  -- told
  refine st_setN (en_lrests (ev_varR (R := PlV K pl) rfl ⟨dP, kvs, rfl, .inl (e25 _ _ hd2), hp2.mono e25.tp⟩) (Eva.imp (hgr hw5.d rfl) fun v H' e r => by rw [show v = _ from r]; exact ⟨dR, kR, rfl, e _ _ hw5.r, hw5.r'.mono e.tp⟩) ok plok) ?_
  rintro dT H6 e6 nT ⟨_, kT, ed, hdT, hkT⟩
  cases ed
  have e26 := e25.trans e6
  have hs6 := hs5.same e6
  refine st_forK (kvs := kT) hdT rfl fun odT => ?_
  have wlT : Wk H6 (upd H6 dT (.frz odT (.dK kT))) := Wk.lock hdT
  have nT2 : H2 dT = none := by
    cases q : H2 dT with
    | none => rfl
    | some o => rw [e25 _ _ q] at nT; cases nT
  have lT : kT.length = (restsT pl W.rds).length := by rw [hkT.length, restsF_T, List.length_map]
  have l22 : (restsT pl W.rds).length ≤ 22 := Nat.le_trans (List.length_filterMap_le _ _) ok.rlen
  refine ⟨fun i σ H7 => ∃ o4 o5 o6 o7 o8 o9 o10 o11 o12, σ = [some (.ref d), some (.ref dP), some (.ref dS), some (.ref dT), o4, o5, o6, o7, o8, o9, o10, o11, o12] ∧ SL K H2 H6 PQ dS (gT ((restsT pl W.rds).take i)) H7 ∧ H7 dT = some (.frz odT (.dK kT)),
    ⟨none, none, none, none, none, none, none, none, none, rfl, ⟨Same.mut e26 nT2, ?_, wlT.tup, fun m q hm => ?_⟩, upd_same⟩, fun i σ H7 q => by obtain ⟨_, _, _, _, _, _, _, _, _, _, _, q⟩ := q; exact q, ?_, ?_⟩
  · rw [upd_ne (fun z => by rw [← z, hdS5] at nT; cases nT)]; exact e6 _ _ hdS5
  · obtain ⟨vs, h1, h2⟩ := hs6 m q hm
    exact ⟨vs, by rw [upd_ne (ne_of h1 hdT (fun z => nomatch z))]; exact h1, pimp (fun _ _ r => MonW.mono wlT r) h2⟩
  · rintro i kk vv σ H7 hk ⟨o4, o5, o6, o7, o8, o9, o10, o11, o12, rfl, sl7, hT7⟩
    obtain ⟨n, r, s, rfl, hmem, hro, hti⟩ := rs_at hkT hk
    have rb := ok.rdb hmem
    have nr := nq_restO D1 hN rb hro
    have hw7 := hw2.up sl7.s
    obtain ⟨vr, hvr, hvr2⟩ := rd_val ok hw7.r' hmem
    obtain ⟨vs, hvs, hvs2⟩ := rs_val ok (hkT.mono sl7.t) hmem hro
    obtain ⟨sa, sb, hla, hlb, _⟩ := restO_some hro
    have inPQ : ∀ {m : Str} {x : Rat × Rat}, lk pl m = some x → ∃ q, (m, q) ∈ PQ := fun {m x} h => by
      have := lk_isSome_mem h
      rw [← hkPQ] at this
      obtain ⟨y, hy, e⟩ := List.mem_map.mp this
      exact ⟨y.2, by rw [← e]; exact hy⟩
    have hgT : ∀ m j, j < 2 → gT ((restsT pl W.rds).take (i + 1)) m j = gJ (gT ((restsT pl W.rds).take i)) r s 2 m j := fun m j hj => by rw [gT_snoc hti, gJ_two _ _ _ _ hj]
    have hb7 := gT_bq (pl := pl) ok D1 hN i
    have hi22 : i < 22 := by
      have := (List.getElem?_eq_some_iff.mp hti).1; omega
    generalize gT ((restsT pl W.rds).take i) = g0 at sl7 hgT hb7
    show tSeq _ _ _ [some (.ref d), some (.ref dP), some (.ref dS), some (.ref dT), some (.int n), o5, o6, o7, o8, o9, o10, o11, o12] H7
    refine st_seq ?_
    refine (show Eva Same (tDGet (tDGet (tVar 0) (tC (.str "readings"))) (tVar 4)) [some (.ref d), some (.ref dP), some (.ref dS), some (.ref dT), some (.int n), o5, o6, o7, o8, o9, o10, o11, o12] H7 (RdV K r) from Eva.imp (ev_dget (k := kI n) (hgr hw7.d rfl) (.inl hw7.r) (ev_var rfl) hvr) fun v H8 e8 r' => by rw [show v = vr from r']; exact MonT.mono e8.tp hvr2) H7 (Same.refl _) _ fun tv H8 e8 htv => ?_
    refine tg_tup (σ2 := [some (.ref d), some (.ref dP), some (.ref dS), some (.ref dT), some (.int n), some (.str r.one), some (.str r.other), some (.int r.ac), some (.int r.up), some (.int r.wt), o10, o11, o12]) htv rfl (fun Q q => ⟨_, _, rfl, _, _, rfl, _, _, rfl, _, _, rfl, _, _, rfl, rfl, q⟩) _ ?_
    dsimp only
    have sl8 := sl7.same e8
    have hT8 := e8 _ _ hT7
    refine st_forR1 (n := 2) ev_c (by decide) fun H9 e9 => ?_
    refine ⟨fun j σ H10 => ∃ o10 o11, σ = [some (.ref d), some (.ref dP), some (.ref dS), some (.ref dT), some (.int n), some (.str r.one), some (.str r.other), some (.int r.ac), some (.int r.up), some (.int r.wt), o10, o11, o12] ∧ SL K H2 H6 PQ dS (gJ g0 r s j) H10 ∧ H10 dT = some (.frz odT (.dK kT)), ⟨o10, o11, rfl, sl8.same e9, e9 _ _ hT8⟩, ?_, ?_⟩
    · rintro j σ H10 hj ⟨o10, o11, rfl, sl10, hT10⟩
      have hq6 : ∀ j, Nq Dn 6006 ((r.wt : Rat) * sel s j) := fun j => (nq_sel nr j).smul (c := 4) (by have := rb.w; omega)
      have hbj := gJ_bq (g := g0) (r := r) (s := s) hb7 hq6 j
      show tSeq _ _ _ [some (.ref d), some (.ref dP), some (.ref dS), some (.ref dT), some (.int n), some (.str r.one), some (.str r.other), some (.int r.ac), some (.int r.up), some (.int r.wt), some (.int (j : Int)), o11, o12] H10
      refine st_set (E := Same) (R := Rt K ((r.wt : Rat) * sel s j)) (ev_R2 (ev_n1 (ev_var rfl)) (ev_coord (i := j) (Eva.imp (ev_dget (k := kI n) (ev_var rfl) (.inr ⟨odT, hT10⟩) (ev_var rfl) hvs) fun v H11 e11 r' => by
        rw [show v = vs from r']
        obtain ⟨v2, hv2, hv22⟩ := rs_val ok (hkT.mono (sl10.t.trans e11.tp)) hmem hro
        rw [hvs] at hv2
        cases hv2
        exact hv22) (ev_var rfl) hj) (sm_int (small_pow (by have := rb.w; omega) (by decide))) (sm_of (nq_sel nr j) D0 D1 (by decide))) (Same.refl _) fun vp H11 e11 hvp => ?_
      have sl11 := sl10.same e11
      have hT11 := e11 _ _ hT10
      obtain ⟨q1, hq1⟩ := inPQ hlb
      obtain ⟨q2, hq2⟩ := inPQ hla
      have smp : Sm ((r.wt : Rat) * sel s j) := sm_of (hq6 j) D0 D1 (by decide)
      have hsum : ∀ {H' : Hp} {σ : L2.St} {m : Str} {q : Addr} {te : TE}, H' dS = some (.dK (pqK PQ)) → (m, q) ∈ PQ → σ[2]? = some (some (.ref dS)) → Eva Same te σ H' (Is (.str m)) → Eva Same (tDGet (tVar 2) te) σ H' (Is (.ref q)) := fun {H' σ m q te} h hm h2 hk => ev_dget (k := kS m) (ev_var h2) (.inl h) hk (pq_val pqok hm)
      refine st_seq (st_sumput (K := K) (f := (· + ·)) (q := (r.wt : Rat) * sel s j) (qf := (r.wt : Rat) * sel s j) (j := j) pqok sl11.g hq1 (hsum sl11.d hq1 rfl (ev_var rfl)) (hsum sl11.d hq1 rfl (ev_var rfl)) (ev_var rfl) (ev_var rfl) hj (ev_varR rfl hvp) (sm_of ((hbj _ _).nq (by omega)) D0 D1 (by decide)) smp (fun x => rfl) fun w0 w1 H12 e12 ⟨u0, u1, hu⟩ hg12 => ?_)
      have sl12 : SL K H2 H6 PQ dS (gStep (gJ g0 r s j) r.other j ((r.wt : Rat) * sel s j)) (upd H12 q1 (.lst [w0, w1])) := ⟨Same.mut (sl11.s.trans e12) (hfr2 _ hq1), by rw [upd_ne (ne_of (e12 _ _ sl11.d) hu (fun z => nomatch z))]; exact e12 _ _ sl11.d, (sl11.t.trans e12.tp).trans (Tp.putL hu), hg12⟩
      have hT12 : (upd H12 q1 (.lst [w0, w1])) dT = some (.frz odT (.dK kT)) := by rw [upd_ne (ne_of (e12 _ _ hT11) hu (fun z => nomatch z))]; exact e12 _ _ hT11
      have hvp12 : Rt K ((r.wt : Rat) * sel s j) vp (upd H12 q1 (.lst [w0, w1])) := MonT.mono (Tp.putL hu) (MonW.mono e12.wk hvp)
      have hbj2 := gStep_bq (m0 := r.other) (j0 := j) hbj (hq6 j)
      dsimp only
      generalize upd H12 q1 (.lst [w0, w1]) = H13 at sl12 hT12 hvp12
      refine st_sumput (K := K) (f := (· - ·)) (q := (r.wt : Rat) * sel s j) (qf := -((r.wt : Rat) * sel s j)) (j := j) pqok sl12.g hq2 (hsum sl12.d hq2 rfl (ev_var rfl)) (hsum sl12.d hq2 rfl (ev_var rfl)) (ev_var rfl) (ev_var rfl) hj (ev_varR rfl hvp12) (sm_of ((hbj2 _ _).nq (by omega)) D0 D1 (by decide)) smp (fun x => Rat.sub_eq_add_neg _ _) fun w0 w1 H14 e14 ⟨u0, u1, hu2⟩ hg14 => ?_
      exact ⟨_, _, rfl, ⟨Same.mut (sl12.s.trans e14) (hfr2 _ hq2), by rw [upd_ne (ne_of (e14 _ _ sl12.d) hu2 (fun z => nomatch z))]; exact e14 _ _ sl12.d, (sl12.t.trans e14.tp).trans (Tp.putL hu2), hg14⟩, by rw [upd_ne (ne_of (e14 _ _ hT12) hu2 (fun z => nomatch z))]; exact e14 _ _ hT12⟩
    · rintro σ H10 ⟨o10, o11, rfl, sl10, hT10⟩
      refine ⟨_, _, _, _, _, _, _, _, _, rfl, ⟨sl10.s, sl10.d, sl10.t, fun m q hm => ?_⟩, hT10⟩
      rw [hgT m 0 (by decide), hgT m 1 (by decide)]
      exact sl10.g m q hm
  · rintro σ H7 ⟨o4, o5, o6, o7, o8, o9, o10, o11, o12, rfl, sl7, hT7⟩
    rw [lT, List.take_length] at sl7
    have wuT : Wk H7 (upd H7 dT (.dK kT)) := Wk.unlock hT7
    have e8 : Same H2 (upd H7 dT (.dK kT)) := Same.mut sl7.s nT2
    have dS8 : (upd H7 dT (.dK kT)) dS = some (.dK (pqK PQ)) := by rw [upd_ne (ne_of sl7.d hT7 (fun z => nomatch z))]; exact sl7.d
    have hs8 : ∀ m q, (m, q) ∈ PQ → RowAt K (upd H7 dT (.dK kT)) q [uncF pl W.rds m 0, uncF pl W.rds m 1] := fun m q hm => by
      obtain ⟨vs, h1, h2⟩ := sl7.g m q hm
      rw [gT_unc, gT_unc] at h2
      exact ⟨vs, by rw [upd_ne (ne_of h1 hT7 (fun z => nomatch z))]; exact h1, pimp (fun _ _ r => MonW.mono wuT r) h2⟩
    generalize upd H7 dT (.dK kT) = H8 at e8 dS8 hs8
    have hd8 := e8 _ _ hd2
    refine st_forK (kvs := kvs) hd8 rfl fun odP => ?_
    have wlP : Wk H8 (upd H8 dP (.frz odP (.dK kvs))) := Wk.lock hd8
    refine ⟨fun i σ H9 => ∃ o4 o5 o6 o7 o8 o9 o10 o11 o12, σ = [some (.ref d), some (.ref dP), some (.ref dS), some (.ref dT), o4, o5, o6, o7, o8, o9, o10, o11, o12] ∧ Same (upd H8 dP (.frz odP (.dK kvs))) H9 ∧ (pl.take i).all (condF W pl) = true,
      ⟨o4, o5, o6, o7, o8, o9, o10, o11, o12, rfl, Same.refl _, rfl⟩, fun i σ H9 q => by obtain ⟨_, _, _, _, _, _, _, _, _, _, q, _⟩ := q; exact q _ _ upd_same, ?_, ?_⟩
    · rintro i kk vv σ H9 hk ⟨o4, o5, o6, o7, o8, o9, o10, o11, o12, rfl, e9, al⟩
      obtain ⟨⟨m, s⟩, hm, rk, _⟩ := pget hp2 hk
      have rk : kk = kS m := rk
      subst rk
      have w9 : Wk H8 H9 := wlP.trans e9.wk
      have t29 : Tp H2 H9 := fun a xs h => w9.tup _ _ (e8.tp _ _ h)
      have hmem : (m, s) ∈ pl := List.mem_of_getElem? hm
      have hmk : m ∈ pl.map (·.1) := List.mem_map.mpr ⟨_, hmem, rfl⟩
      have hmn : m ∈ W.names := (Wd.hung_mem.mp (by rw [← zz]; exact srt_mem.mpr hmk)).1
      have hlk : lk pl m = some s := lk_of ko.nd hmem
      obtain ⟨⟨m', q⟩, hmq, em⟩ := List.mem_map.mp (show m ∈ PQ.map (·.1) by rw [hkPQ]; exact hmk)
      have em : m' = m := em
      subst em
      have hw8 := hw2.up e8
      obtain ⟨vm, hvm, hav⟩ := mk_val ok (hw2.m'.mono t29) hmn
      have hrow8 := hs8 _ _ hmq
      have hrow9 : RowAt K H9 q [uncF pl W.rds m' 0, uncF pl W.rds m' 1] := by
        obtain ⟨vs, h1, h2⟩ := hrow8
        exact ⟨vs, e9 _ _ (by rw [upd_ne (ne_of h1 hd8 (fun z => nomatch z))]; exact h1), pimp (fun _ _ r => MonW.mono w9 r) h2⟩
      have hd9 : Rd H9 d (.dK (wwK dM dR)) := w9.dic _ _ (.inl hw8.d)
      have hM9 : Rd H9 dM (.dK kM) := w9.dic _ _ (.inl hw8.m)
      have hS9 : Rd H9 dS (.dK (pqK PQ)) := w9.dic _ _ (.inl dS8)
      have hP9 : H9 dP = some (.frz odP (.dK kvs)) := e9 _ _ upd_same
      show tSeq _ _ _ [some (.ref d), some (.ref dP), some (.ref dS), some (.ref dT), o4, o5, o6, o7, o8, o9, o10, o11, some (.str m')] H9
      refine st_set (E := Same) (R := Is vm) (ev_dget (k := kS m') (ev_dget (k := kS "marks") (ev_var rfl) hd9 ev_c (ww_marks dM dR)) hM9 (ev_var rfl) hvm) (Same.refl _) ?_
      rintro vm H10 e10 rfl
      show tSeq _ _ _ [some (.ref d), some (.ref dP), some (.ref dS), some (.ref dT), o4, o5, o6, o7, o8, o9, some vm, o11, some (.str m')] H10
      have no : condF W pl (m', s) = false → balF W pl = false := fun h => by
        rw [hbal, Bool.eq_false_iff]
        intro h2
        rw [List.all_eq_true] at h2
        rw [h2 _ hmem] at h; cases h
      have hav10 : AtV K (W.fx m') vm H10 := MonT.mono e10.tp hav
      have zero : ∀ {H' : Hp} {σ : L2.St}, Eva Same (tTup (tCons (tC (.int 0)) (tCons (tC (.int 1)) tNil))) σ H' (Rt K 0) := fun {H' σ} => Eva.imp (ev_n1 (K := K) (n := 0) ev_c) fun v H' _ r => r
      refine st_ifN (E := Same) (b := (W.fx m').isNone && !decide ((uncF pl W.rds m' 0, uncF pl W.rds m' 1) = ((0 : Rat), (0 : Rat)))) (et_and (EvT.is (et_test (ev_isN (ev_var rfl))) (at_isN hav10)) fun _ => EvT.is (et_test (ev_neD (R := RowV K [uncF pl W.rds m' 0, uncF pl W.rds m' 1]) (S := RowV K [0, 0]) (Eva.imp (ev_dget (k := kS m') (ev_var rfl) (e10.wk.dic _ _ hS9) (ev_var rfl) (pq_val pqok hmq)) fun v H' e r => ⟨q, r, hrow9.same (e10.trans e)⟩) (ev_two0 zero zero) (fun _ _ => dp_RowV) (fun _ _ => dp_RowV) (sh_L2 _ _) (sh_L2 _ _))) (by rw [eqv_L2])) (Same.refl _) (fun z H11 e11 => ?_) (fun z H11 e11 => ?_)
      · rw [Bool.and_eq_true, Option.isNone_iff_eq_none] at z
        refine st_ret (E := Same) (R := Is (.bl false)) ev_c (Same.refl _) fun v H12 e12 r => ⟨((e9.trans e10).trans (e11.trans e12)) _ _ upd_same, k v _ (e2.trans (e8.trans (Same.lock hd8 ((e9.trans e10).trans (e11.trans e12))))) ?_⟩
        rw [show v = _ from r, no]
        rw [condF_none z.1]
        exact Bool.not_eq_true' _ ▸ z.2
      · have e911 := e10.trans e11
        have hav11 : AtV K (W.fx m') vm H11 := MonT.mono e11.tp hav10
        have hsp : Eva Same (tDGet (tVar 1) (tVar 12)) [some (.ref d), some (.ref dP), some (.ref dS), some (.ref dT), o4, o5, o6, o7, o8, o9, some vm, o11, some (.str m')] H11 (SpV K s) := ev_spot (ev_var rfl) (.inr ⟨odP, e911 _ _ hP9⟩) (hp2.mono (t29.trans e911.tp)) (ev_var rfl) hlk
        refine st_ifL (E := Same) (b := !condF W pl (m', s)) ?_ (Same.refl _) (fun z2 H12 e12 => ?_) (fun z2 H12 e12 => ?_)
        · cases hfx : W.fx m' with
          | none =>
            rw [hfx] at hav11 z
            have z : decide ((uncF pl W.rds m' 0, uncF pl W.rds m' 1) = ((0 : Rat), (0 : Rat))) = true := by simpa using z
            rw [condF_none hfx, z]
            cases (show vm = .non from hav11)
            exact EvT.is (et_and (et_test (ev_notN (ev_var rfl))) (b := true) fun z => nomatch z) rfl
          | some p =>
            rw [hfx] at hav11
            rw [condF_some hfx]
            have hvp : TupV K [.int p.1, .int p.2] vm H11 := hav11
            have hvn : decide (vm = V.non) = false := by obtain ⟨a, rfl, _⟩ := hvp; rfl
            refine EvT.is (et_and (a := !decide (vm = V.non)) (b := !decide (s = ((p.1 : Rat), (p.2 : Rat)))) (et_test (ev_notN (ev_var rfl))) fun _ => EvT.is (et_test (ev_neD (R := SpV K s) (S := SpV K ((p.1 : Rat), (p.2 : Rat))) hsp (ev_newspot (ev_n1 (ev_ixT (ev_varR rfl hvp) ev_c rfl)) (ev_n1 (ev_ixT (ev_varR rfl hvp) ev_c rfl))) (fun _ _ => dp_S) (fun _ _ => dp_S) (sh_S _) (sh_S _))) (by rw [eqv_S])) (by rw [hvn]; rfl)
        · have z2 : condF W pl (m', s) = false := by simpa using z2
          refine st_ret (E := Same) (R := Is (.bl false)) ev_c (Same.refl _) fun v H13 e13 r => ⟨((e9.trans e911).trans (e12.trans e13)) _ _ upd_same, k v _ (e2.trans (e8.trans (Same.lock hd8 ((e9.trans e911).trans (e12.trans e13))))) ?_⟩
          rw [show v = _ from r, no z2]
        · have z2 : condF W pl (m', s) = true := by simpa using z2
          refine ⟨_, _, _, _, _, _, _, _, _, rfl, (e9.trans e911).trans e12, ?_⟩
          rw [List.take_succ, hm, List.all_append, al, Option.toList]
          simp only [List.all_cons, List.all_nil, z2, Bool.and_self]
    · rintro σ H9 ⟨o4, o5, o6, o7, o8, o9, o10, o11, o12, rfl, e9, al⟩
      rw [List.take_of_length_le (by omega)] at al
      have e10 := e2.trans (e8.trans (Same.lock hd8 e9))
      refine st_ret (E := Same) (R := Is (.bl true)) ev_c (Same.refl _) fun v H11 e11 r => k v H11 (e10.trans e11) ?_
      rw [show v = _ from r, hbal, al]
end
end Gm

set_option maxHeartbeats 4000000
namespace Gm
open PySem PySem.Spec PyProof.Rows L2
theorem putK_last {acc : List (Key × V)} {k : Key} {u v : V} (h : valV acc k = none) : putK (acc ++ [(k, u)]) k v = acc ++ [(k, v)] := by
  have hne : ∀ p ∈ acc, p.1 ≠ k := fun p hp e => by
    have h2 := find_mem (xs := acc) (k := k) (List.mem_map.mpr ⟨p, hp, e⟩)
    obtain ⟨x, hx, _⟩ := h2
    unfold valV at h
    rw [hx] at h; cases h
  unfold putK
  rw [if_pos (by rw [List.any_append]; simp), List.map_append]
  congr 1
  · have : ∀ l : List (Key × V), (∀ p ∈ l, p.1 ≠ k) → l.map (fun kv => if kv.1 = k then (kv.1, v) else kv) = l := by
      intro l
      induction l with
      | nil => intro _; rfl
      | cons a l ih => intro hl; rw [List.map_cons, if_neg (hl a List.mem_cons_self), ih fun p hp => hl p (List.mem_cons_of_mem _ hp)]
    exact this acc hne
  · simp
/-- a shift one way -/
def SQ (q : Rat) : Prop := q = 0 ∨ ShQ q
def SqV (K : PySem.W.Frag) : V → Hp → Prop := fun v H => ∃ q, SQ q ∧ Rt K q v H
instance {K : PySem.W.Frag} : MonT (SqV K) := ⟨fun w ⟨q, h1, h2⟩ => ⟨q, h1, MonT.mono w h2⟩⟩
def ShV (K : PySem.W.Frag) : V → Hp → Prop := fun v H => ∃ s : Rat × Rat, SQ s.1 ∧ SQ s.2 ∧ SpV K s v H
instance {K : PySem.W.Frag} : MonT (ShV K) := ⟨fun w ⟨s, h1, h2, h3⟩ => ⟨s, h1, h2, MonT.mono w h3⟩⟩
/-- the shifts, the placing with the shifts -/
def shL (pl : PlL) (sf : Str → Rat × Rat) : PlL := pl.map fun x => (x.1, sf x.1)
def addS (a b : Rat × Rat) : Rat × Rat := (a.1 + b.1, a.2 + b.2)
def othL (pl : PlL) (sf : Str → Rat × Rat) : PlL := pl.map fun x => (x.1, addS x.2 (sf x.1))
structure ShOk (W : Wd) (sf : Str → Rat × Rat) : Prop where
  q : ∀ m, SQ (sf m).1 ∧ SQ (sf m).2
  f : ∀ m p, W.fx m = some p → sf m = (0, 0)
theorem shq_nq {D d : Nat} {q : Rat} (h : SQ q) (hd : D ≤ 2 ^ d) : Nq (60 * D) (d + 11) q := by
  rcases h with rfl | ⟨a, b, a1, a2, b1, b2, rfl⟩
  · exact Nq.zero
  · have hb : ∃ k : Int, b * k = 60 ∧ 0 < k ∧ k ≤ 60 := by
      have : b = 1 ∨ b = 2 ∨ b = 3 ∨ b = 4 ∨ b = 5 ∨ b = 6 := by omega
      rcases this with rfl | rfl | rfl | rfl | rfl | rfl
      · exact ⟨60, by decide, by decide, by decide⟩
      · exact ⟨30, by decide, by decide, by decide⟩
      · exact ⟨20, by decide, by decide, by decide⟩
      · exact ⟨15, by decide, by decide, by decide⟩
      · exact ⟨12, by decide, by decide, by decide⟩
      · exact ⟨10, by decide, by decide, by decide⟩
    obtain ⟨k, hk, k0, k1⟩ := hb
    refine ⟨a * k * D, ?_, ?_⟩
    · have hbne : (b : Rat) ≠ 0 := by
        intro z
        have : ((b : Int) : Rat) = ((0 : Int) : Rat) := z
        have := Rat.intCast_inj.mp this
        omega
      have e60 : ((60 * D : Nat) : Rat) = (b : Rat) * (k : Rat) * (D : Rat) := by
        rw [← Rat.intCast_mul, hk, Rat.natCast_mul]; rfl
      rw [e60, Rat.divInt_eq_div, Rat.intCast_mul, Rat.intCast_mul, Rat.intCast_natCast]
      have : (a : Rat) / (b : Rat) * (b : Rat) = (a : Rat) := Rat.div_mul_cancel hbne
      grind
    · rw [Int.natAbs_mul, Int.natAbs_natCast, Int.natAbs_mul, Nat.add_comm d, Nat.pow_add]
      refine Nat.mul_le_mul ?_ hd
      have h1 : a.natAbs ≤ 20 := by omega
      have h2 : k.natAbs ≤ 60 := by omega
      exact Nat.le_trans (Nat.mul_le_mul h1 h2) (by decide)
theorem scale60 {D b : Nat} {q : Rat} (h : Nq D b q) : Nq (60 * D) (b + 6) q := h.scale (by decide)
/-- a placing as the program gives it, and bent -/
structure PlB (pl : PlL) : Prop where
  b : ∃ D, 0 < D ∧ D ≤ 2 ^ 1898 ∧ ∀ x ∈ pl, Nq D 1926 x.2.1 ∧ Nq D 1926 x.2.2
theorem lt_2000 {D : Nat} (h : D ≤ 2 ^ 1898) : D < 2 ^ 2000 ∧ 60 * D < 2 ^ 2000 := by
  have h1 : (2 : Nat) ^ 2000 = 2 ^ 102 * 2 ^ 1898 := by rw [← Nat.pow_add]
  have h2 : 60 * D ≤ 60 * 2 ^ 1898 := Nat.mul_le_mul_left _ h
  have h3 : 60 * 2 ^ 1898 < 2 ^ 102 * 2 ^ 1898 := Nat.mul_lt_mul_of_pos_right (by decide) (Nat.two_pow_pos 1898)
  rw [h1]
  generalize 2 ^ 102 * 2 ^ 1898 = T at h3 ⊢
  omega
theorem PlB.ok {pl : PlL} (h : PlB pl) : PlOk pl := by
  obtain ⟨D, d0, dl, hN⟩ := h.b
  exact ⟨D, d0, (lt_2000 dl).1, fun x hx => ⟨(hN x hx).1.mono (by decide), (hN x hx).2.mono (by decide)⟩⟩
theorem shL_ok {pl : PlL} {sf : Str → Rat × Rat} (h : PlB pl) (hs : ∀ m, SQ (sf m).1 ∧ SQ (sf m).2) : PlOk (shL pl sf) := by
  obtain ⟨D, d0, dl, hN⟩ := h.b
  refine ⟨60 * D, by omega, (lt_2000 dl).2, fun x hx => ?_⟩
  obtain ⟨y, hy, rfl⟩ := List.mem_map.mp hx
  exact ⟨(shq_nq (hs y.1).1 dl).mono (by decide), (shq_nq (hs y.1).2 dl).mono (by decide)⟩
theorem othL_ok {pl : PlL} {sf : Str → Rat × Rat} (h : PlB pl) (hs : ∀ m, SQ (sf m).1 ∧ SQ (sf m).2) : PlOk (othL pl sf) := by
  obtain ⟨D, d0, dl, hN⟩ := h.b
  refine ⟨60 * D, by omega, (lt_2000 dl).2, fun x hx => ?_⟩
  obtain ⟨y, hy, rfl⟩ := List.mem_map.mp hx
  have n1 := hN y hy
  exact ⟨(((scale60 n1.1).mono (c := 1932) (by decide)).add (shq_nq (hs y.1).1 dl) (e := 1932) (by decide) (by decide)).mono (by decide), (((scale60 n1.2).mono (c := 1932) (by decide)).add (shq_nq (hs y.1).2 dl) (e := 1932) (by decide) (by decide)).mono (by decide)⟩
theorem sq_sm {q : Rat} (h : SQ q) : Sm q := by
  have := shq_nq (D := 1) (d := 0) h (by decide)
  exact this.sm (d := 7) (by decide) (by decide) (by decide) (by decide)
section
variable {d l : Addr} {cs : List Int} {K : PySem.W.Frag} {σ : L2.St} {H : Hp} {te ta tb td z1 : TE}
/-- a locked dict is let go while one draws -/
theorem ED.lock {p : Addr} {od : Obj} {kvs : List (Key × V)} {H H2 : Hp} (hd : DrOk d l cs H) (h : H p = some (.dK kvs)) (e : ED d l cs (upd H p (.frz od (.dK kvs))) H2) : ED d l cs H (upd H2 p (.dK kvs)) := by
  obtain ⟨i, a, b, c, q⟩ := e.b
  obtain ⟨i', a', b', c', q'⟩ := id hd
  have pd : d ≠ p := fun z => by rw [← z, q'.d] at h; cases h
  have pl : l ≠ p := fun z => by rw [← z, q'.l] at h; cases h
  refine ⟨fun x u hx ne => ?_, hd, i, a, b, c, by rw [upd_ne pd]; exact q.d, by rw [upd_ne pl]; exact q.l, q.i, q.b0, q.b1⟩
  by_cases z : x = p
  · subst z; rw [h] at hx; cases hx; exact upd_same
  · rw [upd_ne z]; exact e.s x u (by rw [upd_ne z]; exact hx) ne
theorem dr_lock {p : Addr} {o : HO} {kvs : List (Key × V)} {H : Hp} (hd : DrOk d l cs H) (h : H p = some (.dK kvs)) : DrOk d l cs (upd H p o) := by
  obtain ⟨i', a', b', c', q'⟩ := id hd
  have pd : d ≠ p := fun z => by rw [← z, q'.d] at h; cases h
  have pl : l ≠ p := fun z => by rw [← z, q'.l] at h; cases h
  exact ⟨i', a', b', c', by rw [upd_ne pd]; exact q'.d, by rw [upd_ne pl]; exact q'.l, q'.i, q'.b0, q'.b1⟩
/-- any(draw, [(0, 1), share(draw)]) -/
theorem ev_anyShare {X Y : XK} (hd : Eva (ED d l cs) td σ H (Is (.ref d))) (hz : Eva (ED d l cs) z1 σ H (Rt K 0)) : Eva (ED d l cs) (tCall spAny [] X (tCons td (tCons (tLst (tCons z1 (tCons (tCall (spShare K) [] Y (tCons td tNil)) tNil))) tNil))) σ H (SqV K) := fun H1 e Q q =>
  hd H1 e _ fun vd H2 e2 rvd => hz H2 (PreE.trans e e2) _ fun v1 H3 e3 r1 => by
    refine ev_D (d := d) (l := l) (cs := cs) (H := H) (α := Unit) () hd ea_nil (fun vs H1 _ r => r) H3 (PreE.trans e (PreE.trans e2 e3)) _ fun v2 H4 e4 ⟨qs, hs, r2⟩ => ?_
    refine ⟨(by show 2 ≤ sizeLine; decide), fun p hp => ?_⟩
    have e5 : ED d l cs H4 (upd H4 p (.lst [v1, v2])) := PreE.new (PreE.rr e4) hp
    have pd : p ≠ d := fun z => by obtain ⟨xs, hx⟩ := e4.b.lst; rw [z, hx] at hp; cases hp
    have p5 : (upd H4 p (.lst [v1, v2])) p = some (.lst [v1, v2]) := upd_same
    generalize upd H4 p (.lst [v1, v2]) = H5 at e5 p5
    rw [show vd = _ from rvd]
    have r15 : Rt K 0 v1 H5 := MonE.mono (PreE.trans e4 e5) r1
    have r25 : Rt K qs v2 H5 := MonE.mono e5 r2
    refine ⟨[v1, v2], d, l, cs, [.ref p], rfl, e5.b, ⟨⟨_, rfl, p, rfl, p5, pd⟩, by simp, by simp⟩, fun v H6 e6 hv => q v H6 (PreE.trans (PreE.trans e2 (PreE.trans e3 e4)) (PreE.trans e5 e6)) ?_⟩
    have hv : v ∈ [v1, v2] := hv
    rcases List.mem_cons.mp hv with rfl | hv
    · exact ⟨0, .inl rfl, MonE.mono e6 r15⟩
    · rw [List.mem_singleton.mp hv]; exact ⟨qs, .inr hs, MonE.mono e6 r25⟩
/-- tuple([.. for at in range(2)]) -/
theorem ev_tuple2 {E : Hp → Hp → Prop} [PreE E] {R : Nat → V → Hp → Prop} [∀ i, MonT (R i)] (h : Eva E te σ H (fun v H' => ∃ D ys, v = .ref D ∧ H' D = some (.lst ys) ∧ Paired (fun y i => R i y H') ys ((List.range 2).filter fun _ => true) ∧ ¬ PreE.bad E D)) :
    Eva E (tCB (fun xs H Q => ∃ p ys, xs = [.ref p] ∧ ((SqL K H p ys ∧ ∀ l, H l = none → Q (.ref l) (upd H l (.tup ys))) ∨ (SqT K H p ys ∧ Q (.ref p) H))) (tCons te tNil)) σ H (fun v H' => ∃ u w, TupV K [u, w] v H' ∧ R 0 u H' ∧ R 1 w H') := fun H1 e Q q =>
  h H1 e _ fun v H2 e2 ⟨D, ys, ev, hD, hys, _⟩ => by
    have hys : Paired (fun y i => R i y H2) ys [0, 1] := hys
    obtain ⟨u, w, rfl, h0, h1⟩ := paired2 hys
    refine ⟨D, [u, w], by rw [ev], .inl ⟨SqL.of hD, fun p hp => ?_⟩⟩
    have e3 : E H2 (upd H2 p (.tup [u, w])) := PreE.new (PreE.rr e2) hp
    exact q _ _ (PreE.trans e2 e3) ⟨u, w, ⟨p, rfl, SqT.of upd_same⟩, MonT.mono (PreE.wk e3).tup h0, MonT.mono (PreE.wk e3).tup h1⟩
end
end Gm

set_option maxHeartbeats 4000000
namespace Gm
open PySem PySem.Spec PyProof.Rows L2
theorem st_ifpL {E : Hp → Hp → Prop} [PreE E] {σ : L2.St} {H : Hp} {c : TT} {t1 : TS} {D : Ends} {p : Prop} (h : ∀ H1, E H H1 → ∀ Q : Bool → Hp → Prop, (∀ b H2, E H1 H2 → (b = true → p) → Q b H2) → c σ H1 Q) (e0 : E H H) (k1 : p → ∀ H1, E H H1 → t1 D σ H1) (k2 : ∀ H1, E H H1 → D.nx σ H1) :
    tIfS c t1 tNext D σ H := h H e0 _ fun b H1 e hb => by
  cases b with
  | true => exact k1 (hb rfl) H1 e
  | false => exact k2 H1 e
def sfOf (shs : PlL) (m : Str) : Rat × Rat := (lk shs m).getD (0, 0)
theorem sfOf_shL {pl shs : PlL} (nd : (pl.map (·.1)).Nodup) (h : shs.map (·.1) = pl.map (·.1)) : shL pl (sfOf shs) = shs := by
  have e : shL pl (sfOf shs) = (pl.map (·.1)).map fun m => (m, sfOf shs m) := by unfold shL; rw [List.map_map]; rfl
  rw [e, ← h, List.map_map]
  have nd2 : (shs.map (·.1)).Nodup := by rw [h]; exact nd
  have : ∀ x ∈ shs, ((fun m => (m, sfOf shs m)) ∘ fun x : Str × (Rat × Rat) => x.1) x = x := fun x hx => by
    show (x.1, sfOf shs x.1) = x
    unfold sfOf
    rw [lk_of nd2 (show (x.1, x.2) ∈ shs from hx)]; rfl
  rw [List.map_congr_left this, List.map_id']
theorem sfOf_ok {W : Wd} {shs : PlL} (h1 : ∀ x ∈ shs, SQ x.2.1 ∧ SQ x.2.2) (h2 : ∀ x ∈ shs, ∀ p, W.fx x.1 = some p → x.2 = (0, 0)) : ShOk W (sfOf shs) := by
  refine ⟨fun m => ?_, fun m p hp => ?_⟩
  · unfold sfOf
    cases e : lk shs m with
    | none => exact ⟨.inl rfl, .inl rfl⟩
    | some s => exact h1 _ (lk_mem e)
  · unfold sfOf
    cases e : lk shs m with
    | none => rfl
    | some s => exact h2 _ (lk_mem e) p hp
section
variable {P : Program} {w : World} {K : PySem.W.Frag} {mg : Str → Option Value} {base : Heap} {aN : Addr} {uM uW uL : Value} {C fI fM fR fN fH : Addr} {fdI fdM fdR fdN fdH : FuncData}
def BentPre (K : PySem.W.Frag) (x : Wd × PlL) (d : Addr) (rest : List V) (H : Hp) : Prop := (∃ u v, rest = [u, v] ∧ WwV K x.1 u H ∧ PlX K x.2 v H) ∧ x.1.Ok ∧ PlB x.2 ∧ KeysOk x.2 ∧ ∀ m ∈ x.2.map (·.1), m ∈ x.1.names
def spBent (K : PySem.W.Frag) : Sp := SpD (α := Wd × PlL) (BentPre K) (fun x v H => ∃ sf, ShOk x.1 sf ∧ ∃ dO dS, TupV K [.ref dO, .ref dS] v H ∧ PlX K (othL x.2 sf) (.ref dO) H ∧ PlX K (shL x.2 sf) (.ref dS) H)
theorem ok_l_bent (D : DefAt K mg "_law_bent" s_l_bent) (U : Uni K mg aN uM uW uL) (c_l_pull : Cal P w K mg base 1 "_law_pull" ["_law_draw", "_law_top"] spPull) (c_l_any : Cal P w K mg base 2 "_law_any" ["_law_draw", "_law_some"] spAny) (c_l_share : Cal P w K mg base 2 "_law_share" ["_law_draw"] (spShare K))
    (c_l_add : Cal P w K mg base 2 "_law_add" ["_law_a", "_law_b"] (spPlus K)) : Cal P w K mg base 3 "_law_bent" ["_law_draw", "_law_w", "_law_placing"] (spBent K) := by
  refine D.cal 2 sc_l_bent (fun _ _ _ _ _ _ us hl => match us, hl with | [_, _, _], _ => rfl) (fun vs H Q E h => ?_) (fun f cdv A outer s H vs Q E hr h => ?_)
  · obtain ⟨x, _, _, _, _, rfl, _, ⟨⟨_, _, rfl, _⟩, _⟩, _⟩ := h; rfl
  obtain ⟨⟨W, pl⟩, d, l, cs, _, rfl, hd, ⟨⟨_, _, rfl, ⟨dW, dM, dR, kM, kR, rfl, hw⟩, ⟨dP, kvs, rfl, hdP, hp⟩⟩, ok, plb, ko, hnm⟩, k⟩ := h
  have ok : W.Ok := ok
  have ko : KeysOk pl := ko
  have hw : WwA K W dW dM dR kM kR H := hw
  have hp : Dc kS (SpV K) pl kvs H := hp
  have plb : PlB pl := plb
  have hnm : ∀ m ∈ pl.map (·.1), m ∈ W.names := hnm
  have lkv : kvs.length = pl.length := hp.length
  refine ⟨_, (pss_cons (ps_set (i := 3) sc_l_bent.nd rfl (Or.inr rfl) pe_dnewK)
      (pss_cons (ps_lock (ps_for PassesOwn.never rfl (pi_keys (pv 2)) (pg_name (i := 4) sc_l_bent.nd rfl (Or.inr rfl)) (pss_cons (ps_dput (hu_of hr) (pv 3) (pv 4) (pe_tup (pa_cons (pe_tup (pa_cons pe_int (pa_cons pe_int pa_nil))) (pa_cons (pe_tup (pa_cons pe_int (pa_cons pe_int pa_nil))) pa_nil))) rfl)
      (pss_one (ps_if (PW.pt (pw_and (pt_cmpR op_isN (pe_dget (hu_of hr) (pe_dget (hu_of hr) (pv 1) pe_str (fun _ _ => rfl)) (pv 4) (fun _ _ => rfl)) pe_non (nomark _)) (pw_and1 (pt_cmpR op_eq (c_l_pull.call (hr.mono (by decide)) (by rfl) (pa_cons (pv 0) (pa_cons pe_int pa_nil))) pe_int (nomark _))))) (pss_one (ps_dput (hu_of hr) (pv 3) (pv 4) (pe_callTy call_tuple_of (by rfl) U.tuple (by decide +kernel) (pa_cons (pe_lc (own := [("_law_at", 6)]) (g := (gName 6)) rfl sc_l_bent.nd (pi_range1 (by rfl) U.range (pa_cons pe_int pa_nil)) (blkOk_by (N := n_l_bent) (sc := defScope s_l_bent) (own := [("_law_at", 6)]) (by decide +kernel)) (fun _ _ _ _ _ => (pg_name (i := 6) sc_l_bent.nd rfl (Or.inl rfl))) (fun _ _ _ _ _ => pts_nil) (fun _ _ _ _ _ => (c_l_any.call (hr.mono (by decide)) (by rfl) (pa_cons (pv 0) (pa_cons (pe_lst (pa_cons (pe_tup (pa_cons pe_int (pa_cons pe_int pa_nil))) (pa_cons (c_l_share.call (hr.mono (by decide)) (by rfl) (pa_cons (pv 0) pa_nil)) pa_nil))) pa_nil))))) pa_nil)) rfl)) pss_nil)))))
      (pss_cons (ps_set (i := 5) sc_l_bent.nd rfl (Or.inl rfl) pe_dnewK)
      (pss_cons (ps_lock (ps_for PassesOwn.never rfl (pi_keys (pv 2)) (pg_name (i := 4) sc_l_bent.nd rfl (Or.inr rfl)) (pss_one (ps_dput (hu_of hr) (pv 5) (pv 4) (pe_callTy call_tuple_of (by rfl) U.tuple (by decide +kernel) (pa_cons (pe_lc (own := [("_law_at", 6)]) (g := (gName 6)) rfl sc_l_bent.nd (pi_range1 (by rfl) U.range (pa_cons pe_int pa_nil)) (blkOk_by (N := n_l_bent) (sc := defScope s_l_bent) (own := [("_law_at", 6)]) (by decide +kernel)) (fun _ _ _ _ _ => (pg_name (i := 6) sc_l_bent.nd rfl (Or.inl rfl))) (fun _ _ _ _ _ => pts_nil) (fun _ _ _ _ _ => (c_l_add.call (hr.mono (by decide)) (by rfl) (pa_cons (pe_ix (ix_tupK (K := K) rfl) (pe_dget (hu_of hr) (pv 2) (pv 4) (fun _ _ => rfl)) (pv 6) (fun _ _ => rfl)) (pa_cons (pe_ix (ix_tupK (K := K) rfl) (pe_dget (hu_of hr) (pv 3) (pv 4) (fun _ _ => rfl)) (pv 6) (fun _ _ => rfl)) pa_nil))))) pa_nil)) rfl))))
      (pss_one (ps_ret (pe_tup (pa_cons (pv 5) (pa_cons (pv 3) pa_nil))))))))), ?_⟩
  refine st_seq fun p np => ?_
  have e1 : Same H (upd H p (.dK [])) := Same.new np
  have p1 : (upd H p (.dK [])) p = some (.dK []) := upd_same
  dsimp only
  generalize upd H p (.dK []) = H1 at e1 p1
  have hdP1 := e1 _ _ hdP
  have pdP : p ≠ dP := fun z => by rw [z, hdP] at np; cases np
  refine st_forK (kvs := kvs) hdP1 rfl fun od => ?_
  have hdA : DrOk d l cs (upd H dP (.frz od (.dK kvs))) := dr_lock hd hdP
  have npA : (upd H dP (.frz od (.dK kvs))) p = none := by rw [upd_ne pdP]; exact np
  have wA : Wk H (upd H dP (.frz od (.dK kvs))) := Wk.lock hdP
  have fzA : (upd H dP (.frz od (.dK kvs))) dP = some (.frz od (.dK kvs)) := upd_same
  have hlock : ∀ {H2 : Hp}, ED d l cs (upd H dP (.frz od (.dK kvs))) H2 → ED d l cs H (upd H2 dP (.dK kvs)) := fun {H2} e => ED.lock hd hdP e
  have hA1 : ED d l cs (upd H dP (.frz od (.dK kvs))) (upd H1 dP (.frz od (.dK kvs))) := (same_upd e1).ed hdA
  generalize upd H dP (.frz od (.dK kvs)) = HA at hdA npA wA fzA hlock hA1
  have hwA : Rd HA dW (.dK (wwK dM dR)) ∧ Rd HA dM (.dK kM) ∧ Dc kS (AtV K) W.mks kM HA := ⟨wA.dic _ _ (.inl hw.d), wA.dic _ _ (.inl hw.m), hw.m'.mono wA.tup⟩
  have zero : ∀ {H' : Hp} {σ : L2.St}, Eva Same (tTup (tCons (tC (.int 0)) (tCons (tC (.int 1)) tNil))) σ H' (Rt K 0) := fun {H' σ} => Eva.imp (ev_n1 (K := K) (n := 0) ev_c) fun v H' _ r => r
  have hsl : ∀ {n : Nat} {l : List V}, l.length = n → n ≤ 21 → l.length < sizeLine := fun {n l} h1 h2 => Nat.lt_of_le_of_lt (show _ ≤ 21 by omega) (by decide)
  refine ⟨fun i σ H4 => ∃ o4 o5 o6 shs kk, σ = [some (.ref d), some (.ref dW), some (.ref dP), some (.ref p), o4, o5, o6] ∧ ED d l cs HA H4 ∧ H4 p = some (.dK kk) ∧ Dc kS (SpV K) shs kk H4 ∧ shs.map (·.1) = (pl.map (·.1)).take i ∧ (∀ x ∈ shs, SQ x.2.1 ∧ SQ x.2.2) ∧ (∀ x ∈ shs, ∀ q, W.fx x.1 = some q → x.2 = (0, 0)),
    ⟨none, none, none, [], [], rfl, hA1, by rw [upd_ne pdP]; exact p1, .nil, rfl, fun x hx => by simp at hx, fun x hx => by simp at hx⟩, fun i σ H4 q => by
      obtain ⟨_, _, _, _, _, _, e, _⟩ := q
      exact PreE.one e (fun _ z => nomatch z) fzA, ?_, ?_⟩
  · rintro i kk' vv σ H4 hk ⟨o4, o5, o6, shs, kk, rfl, e4, p4, dc4, hk4, hq4, hf4⟩
    obtain ⟨⟨m, s⟩, hm, rk, _⟩ := pget hp hk
    have rk : kk' = kS m := rk
    subst rk
    have hmk : (pl.map (·.1))[i]? = some m := by rw [List.getElem?_map, hm]; rfl
    have hmn := hnm m (List.mem_of_getElem? hmk)
    have hnew : valV kk (kS m) = none := valV_none fun b hb' => by
      obtain ⟨c, hc, ec, _⟩ := paired_mem dc4 hb'
      rw [ec]
      intro z
      have z := Sum.inr.inj z
      have hc1 : c.1 ∈ (pl.map (·.1)).take i := by rw [← hk4]; exact List.mem_map.mpr ⟨c, hc, rfl⟩
      obtain ⟨j, hj⟩ := List.getElem?_of_mem hc1
      have hji : j < i := by
        have := (List.getElem?_eq_some_iff.mp hj).1
        rw [List.length_take] at this; omega
      rw [List.getElem?_take_of_lt hji, z] at hj
      have := nd_ix ko.nd hj hmk
      omega
    have lkk : kk.length ≤ 20 := by
      have h1 : shs.length = ((pl.map (·.1)).take i).length := by rw [← hk4, List.length_map]
      rw [dc4.length, h1, List.length_take, List.length_map]
      have := ko.len; omega
    show tSeq _ _ _ [some (.ref d), some (.ref dW), some (.ref dP), some (.ref p), some (.str m), o5, o6] H4
    refine st_seq (st_dputE (E := ED d l cs) (R := SpV K (0, 0)) (k := kS m) (ev_up fun H5 e5 => ev_newspot zero zero) (PreE.rr e4) rfl (ev_var rfl) p4 (Nat.lt_of_le_of_lt lkk (by decide)) fun v H5 e5 hv => ?_)
    have e5A := PreE.trans e4 e5
    have p5 : H5 p = some (.dK kk) := PreE.one e5 (fun _ z => nomatch z) p4
    have tp5 : Tp H5 (upd H5 p (.dK (putK kk (kS m) v))) := Tp.putD p5
    rw [putK_new v hnew] at tp5 ⊢
    have e6A : ED d l cs HA (upd H5 p (.dK (kk ++ [(kS m, v)]))) := PreE.muts e5A npA
    have p6 : (upd H5 p (.dK (kk ++ [(kS m, v)]))) p = some (.dK (kk ++ [(kS m, v)])) := upd_same
    have dc6 : Dc kS (SpV K) shs kk (upd H5 p (.dK (kk ++ [(kS m, v)]))) := (dc4.mono (PreE.wk e5).tup).mono tp5
    have hv6 : SpV K (0, 0) v (upd H5 p (.dK (kk ++ [(kS m, v)]))) := MonT.mono tp5 hv
    dsimp only
    generalize upd H5 p (.dK (kk ++ [(kS m, v)])) = H6 at e6A p6 dc6 hv6
    have tA6 : Tp HA H6 := (PreE.wk e6A).tup
    obtain ⟨vm, hvm, hav⟩ := mk_val ok (hwA.2.2.mono tA6) hmn
    have wA6 := PreE.wk e6A
    have hmark : Eva (ED d l cs) (tDGet (tDGet (tVar 1) (tC (.str "marks"))) (tVar 4)) [some (.ref d), some (.ref dW), some (.ref dP), some (.ref p), some (.str m), o5, o6] H6 (Is vm) := ev_dget (k := kS m) (ev_dget (k := kS "marks") (ev_var rfl) (wA6.dic _ _ hwA.1) ev_c (ww_marks dM dR)) (wA6.dic _ _ hwA.2.1) (ev_var rfl) hvm
    have keys' : ∀ s : Rat × Rat, (shs ++ [(m, s)]).map (·.1) = (pl.map (·.1)).take (i + 1) := fun s => by rw [List.map_append, hk4, List.take_succ, hmk]; rfl
    refine st_ifpL (E := ED d l cs) (p := (W.fx m).isNone = true) ?_ (PreE.rr e6A) (fun hp7 H7 e7 => ?_) (fun H7 e7 => ?_)
    · exact etp_and (EvT.is (et_test (ev_isN hmark)) (at_isN hav)) (etx_test (ev_eqIn (lo := 0) (hi := 2) (ev_pull (ev_var rfl) ev_c (by decide) (by decide)) ev_c))
    · have e7A := PreE.trans e6A e7
      have p7 : H7 p = some (.dK (kk ++ [(kS m, v)])) := PreE.one e7 (fun _ z => nomatch z) p6
      have dc7 := dc6.mono (PreE.wk e7).tup
      refine st_dputE (E := ED d l cs) (R := ShV K) (k := kS m) (Eva.imp (ev_tuple2 (R := fun _ => SqV K) (ev_lc (E := ED d l cs) (n := 2) (b := fun _ => true) (R := fun _ => SqV K) (Y := fun _ _ _ => True) ?_ (by decide) ?_)) ?_) (PreE.rr e7A) rfl (ev_var rfl) p7 (by rw [List.length_append]; exact Nat.lt_of_le_of_lt (show _ ≤ 21 by simp; omega) (by decide)) fun v2 H8 e8 hv8 => ?_
      · intro H8 e8 R r
        exact ⟨2, rfl, by decide, by decide, r _ H8 (PreE.rr e8) fun H9 e9 => ⟨Nat.le_refl 2, fun i hi => ⟨hi, fun x H' y => by
          obtain ⟨e10, y⟩ := y
          subst e10
          exact ⟨PreE.rr e9, trivial⟩⟩⟩⟩
      · rintro j x H' hj e _
        exact ⟨_, tg_name, rfl, fun H9 e9 Q q => q H9 (PreE.rr e9), fun _ => ev_anyShare (ev_var rfl) (ev_up fun H9 e9 => zero)⟩
      · rintro v3 H9 e9 ⟨u, w', hT, ⟨q1, s1, r1⟩, ⟨q2, s2, r2⟩⟩
        exact ⟨(q1, q2), s1, s2, u, w', hT, r1, r2⟩
      · obtain ⟨sp, hs1, hs2, hsp⟩ := hv8
        have e8A := PreE.trans e7A e8
        have p8 : H8 p = some (.dK (kk ++ [(kS m, v)])) := PreE.one e8 (fun _ z => nomatch z) p7
        have tp8 : Tp H8 (upd H8 p (.dK (putK (kk ++ [(kS m, v)]) (kS m) v2))) := Tp.putD p8
        rw [putK_last hnew] at tp8 ⊢
        refine ⟨_, _, _, shs ++ [(m, sp)], _, rfl, PreE.muts e8A npA, upd_same, papp ((dc7.mono (PreE.wk e8).tup).mono tp8) (.cons ⟨rfl, MonT.mono tp8 hsp⟩ .nil), keys' sp, fun x hx => ?_, fun x hx q hq => ?_⟩
        · rcases List.mem_append.mp hx with hx | hx
          · exact hq4 x hx
          · rw [List.mem_singleton.mp hx]; exact ⟨hs1, hs2⟩
        · rcases List.mem_append.mp hx with hx | hx
          · exact hf4 x hx q hq
          · rw [List.mem_singleton.mp hx] at hq
            have hq : W.fx m = some q := hq
            rw [hq] at hp7; cases hp7
    · have p7 : H7 p = some (.dK (kk ++ [(kS m, v)])) := PreE.one e7 (fun _ z => nomatch z) p6
      refine ⟨_, _, _, shs ++ [(m, (0, 0))], _, rfl, PreE.trans e6A e7, p7, papp (dc6.mono (PreE.wk e7).tup) (.cons ⟨rfl, MonE.mono e7 hv6⟩ .nil), keys' (0, 0), fun x hx => ?_, fun x hx q hq => ?_⟩
      · rcases List.mem_append.mp hx with hx | hx
        · exact hq4 x hx
        · rw [List.mem_singleton.mp hx]; exact ⟨.inl rfl, .inl rfl⟩
      · rcases List.mem_append.mp hx with hx | hx
        · exact hf4 x hx q hq
        · rw [List.mem_singleton.mp hx]
  · rintro σ H4 ⟨o4, o5, o6, shs, kk, rfl, e4, p4, dc4, hk4, hq4, hf4⟩
    rw [List.take_of_length_le (by rw [List.length_map, lkv]; exact Nat.le_refl _)] at hk4
    have hshL := sfOf_shL ko.nd hk4
    have hshok : ShOk W (sfOf shs) := sfOf_ok hq4 hf4
    rw [← hshL] at dc4
    generalize sfOf shs = sf at dc4 hshok
    have fz4 : H4 dP = some (.frz od (.dK kvs)) := PreE.one e4 (fun _ z => nomatch z) fzA
    have wu := Wk.unlock fz4
    have e5 := hlock e4
    have p5 : (upd H4 dP (.dK kvs)) p = some (.dK kk) := by rw [upd_ne pdP]; exact p4
    have dc5 := dc4.mono wu.tup
    have hdP5 : (upd H4 dP (.dK kvs)) dP = some (.dK kvs) := upd_same
    generalize upd H4 dP (.dK kvs) = H5 at e5 p5 dc5 hdP5
    have hp5 : Dc kS (SpV K) pl kvs H5 := hp.mono (PreE.wk e5).tup
    refine st_seq fun p' np' => ?_
    have e6 : Same H5 (upd H5 p' (.dK [])) := Same.new np'
    have p6' : (upd H5 p' (.dK [])) p' = some (.dK []) := upd_same
    dsimp only
    generalize upd H5 p' (.dK []) = H6 at e6 p6'
    have hdP6 := e6 _ _ hdP5
    have p6 := e6 _ _ p5
    refine st_forK (kvs := kvs) hdP6 rfl fun od2 => ?_
    have wl6 : Wk H6 (upd H6 dP (.frz od2 (.dK kvs))) := Wk.lock hdP6
    have pdP' : p' ≠ dP := fun z => by rw [z, hdP5] at np'; cases np'
    have ppne : p' ≠ p := fun z => by rw [z, p5] at np'; cases np'
    have hpK6 : Dc kS (SpV K) pl kvs H6 := hp5.mono e6.tp
    have dcK6 : Dc kS (SpV K) (shL pl sf) kk H6 := dc5.mono e6.tp
    obtain ⟨D, d0, dl, hN⟩ := plb.b
    refine ⟨fun i σ H7 => ∃ o4 o6 kk2, σ = [some (.ref d), some (.ref dW), some (.ref dP), some (.ref p), o4, some (.ref p'), o6] ∧ Same (upd H5 dP (.frz od2 (.dK kvs))) H7 ∧ Tp H6 H7 ∧ H7 p' = some (.dK kk2) ∧ Dc kS (SpV K) ((othL pl sf).take i) kk2 H7,
      ⟨o4, o6, [], rfl, same_upd e6, wl6.tup, by rw [upd_ne pdP']; exact p6', .nil⟩, fun i σ H7 q => by
        obtain ⟨_, _, _, _, e, _⟩ := q
        exact e _ _ upd_same, ?_, ?_⟩
    · rintro i kk' vv σ H7 hk ⟨o4, o6, kk2, rfl, e7, t7, p7, dc7⟩
      obtain ⟨⟨m, s⟩, hm, rk, _⟩ := pget hp5 hk
      have rk : kk' = kS m := rk
      subst rk
      have hmem : (m, s) ∈ pl := List.mem_of_getElem? hm
      have hlk : lk pl m = some s := lk_of ko.nd hmem
      have ndsh : ((shL pl sf).map (·.1)).Nodup := by
        have : (shL pl sf).map (·.1) = pl.map (·.1) := by unfold shL; rw [List.map_map]; rfl
        rw [this]; exact ko.nd
      have hlks : lk (shL pl sf) m = some (sf m) := lk_of ndsh (List.mem_map.mpr ⟨_, hmem, rfl⟩)
      have pdP7 : p ≠ dP := pdP
      have ps7 : H7 p = some (.dK kk) := e7 _ _ (by rw [upd_ne pdP7]; exact p5)
      have fz7 : H7 dP = some (.frz od2 (.dK kvs)) := e7 _ _ upd_same
      have hp7 := hpK6.mono t7
      have dcs7 := dcK6.mono t7
      have nb := hN _ hmem
      have hsq := hshok.q m
      have smS : ∀ j, Sm (sel s j) := fun j => sm_of ((nq_sel nb j).mono (c := 6000) (by decide)) d0 (lt_2000 dl).1 (by decide)
      have smF : ∀ j, Sm (sel (sf m) j) := fun j => by unfold sel; split; exact sq_sm hsq.1; exact sq_sm hsq.2
      have hlen : kk2.length < sizeLine := by
        rw [dc7.length, List.length_take]
        unfold othL
        rw [List.length_map]
        have := ko.len
        exact Nat.lt_of_le_of_lt (show _ ≤ 20 by omega) (by decide)
      have hnew : valV kk2 (kS m) = none := valV_none fun b hb' => by
        obtain ⟨c, hc, ec, _⟩ := paired_mem dc7 hb'
        rw [ec]
        intro z
        have z := Sum.inr.inj z
        obtain ⟨j, hj⟩ := List.getElem?_of_mem hc
        have hji : j < i := by
          have := (List.getElem?_eq_some_iff.mp hj).1
          rw [List.length_take] at this; omega
        rw [List.getElem?_take_of_lt hji] at hj
        unfold othL at hj
        rw [List.getElem?_map] at hj
        obtain ⟨y, hy, rfl⟩ := Option.map_eq_some_iff.mp hj
        have := nd_ix ko.nd (show (pl.map (·.1))[j]? = some m by rw [List.getElem?_map, hy]; exact congrArg some z) (show (pl.map (·.1))[i]? = some m by rw [List.getElem?_map, hm]; rfl)
        omega
      show sDPut _ _ _ _ [some (.ref d), some (.ref dW), some (.ref dP), some (.ref p), some (.str m), some (.ref p'), o6] H7
      refine st_dput (R := SpV K (addS s (sf m))) (k := kS m) (Eva.imp (ev_tuple2 (E := Same) (R := fun j => Rt K (sel s j + sel (sf m) j)) (ev_lc (E := Same) (n := 2) (b := fun _ => true) (R := fun j => Rt K (sel s j + sel (sf m) j)) (ei_range1 (E := Same) (n := 2) ev_c (by decide)) (by decide) ?_)) fun v H8 _ ⟨u, w', hT, r0, r1⟩ => ⟨u, w', hT, r0, r1⟩) rfl (ev_var rfl) p7 hlen fun v H8 e8 hv => ?_
      · rintro j x H' hj e rfl
        exact ⟨_, tg_name, rfl, fun H9 e9 Q q => q H9 (Same.refl _), fun _ => ev_R2 (ev_coord (i := j) (ev_spot (ev_var rfl) (.inr ⟨od2, e _ _ fz7⟩) (hp7.mono e.tp) (ev_var rfl) hlk) (ev_var rfl) hj) (ev_coord (i := j) (ev_spot (ev_var rfl) (.inl (e _ _ ps7)) (dcs7.mono e.tp) (ev_var rfl) hlks) (ev_var rfl) hj) (smS j) (smF j)⟩
      · have p8 := e8 _ _ p7
        have tp8 : Tp H8 (upd H8 p' (.dK (putK kk2 (kS m) v))) := Tp.putD p8
        have npb : (upd H5 dP (.frz od2 (.dK kvs))) p' = none := by rw [upd_ne pdP']; exact np'
        have hto : (othL pl sf)[i]? = some (m, addS s (sf m)) := by unfold othL; rw [List.getElem?_map, hm]; rfl
        refine ⟨_, _, _, rfl, Same.mut (e7.trans e8) npb, (t7.trans e8.tp).trans tp8, upd_same, ?_⟩
        rw [List.take_succ, hto]
        rw [putK_new v hnew] at tp8 ⊢
        exact papp ((dc7.mono e8.tp).mono tp8) (.cons ⟨rfl, MonT.mono tp8 hv⟩ .nil)
    · rintro σ H7 ⟨o4, o6, kk2, rfl, e7, t7, p7, dc7⟩
      rw [List.take_of_length_le (by rw [lkv]; unfold othL; rw [List.length_map]; exact Nat.le_refl _)] at dc7
      have fz7 : H7 dP = some (.frz od2 (.dK kvs)) := e7 _ _ upd_same
      have wu7 := Wk.unlock fz7
      have e8 : Same H5 (upd H7 dP (.dK kvs)) := Same.lock hdP5 e7
      have p8 : (upd H7 dP (.dK kvs)) p' = some (.dK kk2) := by rw [upd_ne pdP']; exact p7
      have dc8 := dc7.mono wu7.tup
      have ps8 := e8 _ _ p5
      have dcs8 : Dc kS (SpV K) (shL pl sf) kk (upd H7 dP (.dK kvs)) := dc5.mono e8.tp
      generalize upd H7 dP (.dK kvs) = H8 at e8 p8 dc8 ps8 dcs8
      refine ⟨_, rfl, _, rfl, (by show 2 ≤ sizeLine; decide), fun t nt => ?_⟩
      have e9 : Same H8 (upd H8 t (.tup [.ref p', .ref p])) := Same.new nt
      exact k _ _ (PreE.trans e5 ((e8.trans e9).ed e5.b)) ⟨sf, hshok, p', p, ⟨t, rfl, SqT.of upd_same⟩, ⟨p', kk2, rfl, e9 _ _ p8, dc8.mono e9.tp⟩, ⟨p, kk, rfl, e9 _ _ ps8, dcs8.mono e9.tp⟩⟩
end
end Gm

set_option maxHeartbeats 4000000
namespace Gm
open PySem PySem.Spec PyProof.Rows L2
/-! ### != of two dicts of the same objects -/
def isRef (v : V) : Prop := ∃ a, v = .ref a
theorem hits_refs {κ : Type} [DecidableEq κ] {A : Around} {s : Shared} {kvs : List (Key × V)} {vb : List (Key × Value)} (rb : KV kvs vb) {ks : List (Key × V)} {va : List (Key × Value)} (ra : KV ks va) : (∀ p ∈ ks, valV kvs p.1 = some p.2 ∧ isRef p.2) → PySem.W.KeqHits A s vb va true := by
  unfold KV at ra
  induction ra with
  | nil => intro _; exact .nil
  | @cons p q ps qs h t ih =>
    intro hp
    obtain ⟨h1, h2⟩ := h
    obtain ⟨e, a, f⟩ := hp p List.mem_cons_self
    have rr : RelO (some p.2) (valueAt vb p.1) := by rw [← e]; exact rb.val p.1
    obtain ⟨y, hy, ry⟩ := rr.some_of
    obtain ⟨k, v⟩ := q
    have h1' : p.1 = k := h1
    rw [h1'] at hy
    show PySem.W.KeqHits A s vb ((k, v) :: qs) (true && true)
    have h2 : RelV p.2 v := h2
    rw [f] at h2 ry
    have e1 : v = Value.ref a := h2
    have e2 : y = Value.ref a := ry
    subst e1 e2
    exact .hit hy (SeqAt.EqAt.same _) (ih fun p' hm => hp p' (List.mem_cons_of_mem _ hm))
def rNeDR : R2 := fun x y H Q => ∃ a b ks ls, x = .ref a ∧ y = .ref b ∧ H a = some (.dK ks) ∧ H b = some (.dK ls) ∧ ks.length = ls.length ∧ (∀ p ∈ ks, valV ls p.1 = some p.2 ∧ isRef p.2) ∧ Q (.bl false) H
theorem op_neDR {X : Cx} (hu : X.A.units < cLine) : OpR X (compareOp .NotEq) rNeDR := by
  intro pins s σ H x y v u Q I rx ry h
  obtain ⟨a, b, ks, ls, rfl, rfl, ea, eb, hlen, hp, q⟩ := h
  obtain rfl : v = Value.ref a := rx
  obtain rfl : u = Value.ref b := ry
  obtain ⟨_, ya, va, ra, da⟩ := (show ObjOk X.prog X.w H s.heap a (.dK ks) from I.hok a _ ea)
  obtain ⟨_, yb, vb, rb, db⟩ := (show ObjOk X.prog X.w H s.heap b (.dK ls) from I.hok b _ eb)
  have hl : va.length = vb.length := by rw [← ra.length, ← rb.length]; exact hlen
  exact PySem.W.keq_ne (knd := mixKind X.prog X.w) (r := true) ya yb da db hu (fun _ => hits_refs (κ := Str) rb ra hp) ⟨.bl false, H, I, by simp [hl]; rfl, q⟩
/-! ### _law_copy -/
section
variable {E : Hp → Hp → Prop} [PreE E] {K : PySem.W.Frag} {σ : L2.St} {H H' : Hp} {te ta tb : TE}
theorem tyD {v : V} {H : Hp} (h : ∃ d kvs, v = .ref d ∧ Rd H d (.dK kvs)) : TyX K H v (.type "dict") := by
  obtain ⟨d, kvs, rfl, h⟩ := h
  rcases h with h | ⟨o, h⟩
  · exact .base (.dK h)
  · exact .fDict h
end
theorem range_map_getD' {α β : Type} {d : α} (f : α → β) (xs : List α) : (List.range xs.length).map (fun i => f (xs.getD i d)) = xs.map f := @range_map_getD α β ⟨d⟩ f xs
theorem tups_refs {K : PySem.W.Frag} {H : Hp} {f : Nat → List V} : ∀ {ys : List V} {l : List Nat}, Paired (fun y i => TupV K (f i) y H) ys l → ∃ ps : List Addr, ys = ps.map V.ref ∧ Paired (fun p i => SqT K H p (f i)) ps l
  | _, _, .nil => ⟨[], rfl, .nil⟩
  | _, _, .cons ⟨a, e, h⟩ t => by
    obtain ⟨ps, e2, h2⟩ := tups_refs t
    exact ⟨a :: ps, by rw [List.map_cons, ← e2, e], .cons h h2⟩
section
variable {P : Program} {w : World} {K : PySem.W.Frag} {mg : Str → Option Value} {base : Heap} {aN : Addr} {uM uW uL : Value} {C fI fM fR fN fH : Addr} {fdI fdM fdR fdN fdH : FuncData}
/-- of a spot: itself -/
def spCopyS (K : PySem.W.Frag) : Sp := SpG (α := (Rat × Rat) × V) (fun x vs H => vs = [x.2] ∧ SpV K x.1 x.2 H) (fun x v _ => v = x.2)
theorem ok_l_copyS (D : DefAt K mg "_law_copy" s_l_copy) (U : Uni K mg aN uM uW uL) : Cal P w K mg base 1 "_law_copy" ["_law_value"] (spCopyS K) := by
  refine D.cal 0 sc_l_copy (fun _ _ _ _ _ _ us hl => match us, hl with | [_], _ => rfl) (fun vs H Q E h => ?_) (fun f cdv A outer s H vs Q E hr h => ?_)
  · obtain ⟨x, ⟨rfl, _⟩, _⟩ := h; rfl
  obtain ⟨⟨s', v⟩, ⟨rfl, hv⟩, k⟩ := h
  have hv : SpV K s' v H := hv
  refine ⟨_, pss_cons (ps_if (pt_val (pe_callB call_isi (by rfl) U.isinstance (by decide +kernel) (pa_cons (pv 0) (pa_cons (pe_bltn (by rfl) U.list (by decide +kernel) (show RelV (.ty "list") _ from rfl)) pa_nil)))) pss_never pss_nil)
    (pss_cons (ps_if (pt_val (pe_callB call_isi (by rfl) U.isinstance (by decide +kernel) (pa_cons (pv 0) (pa_cons (pe_bltn (by rfl) U.dict (by decide +kernel) (show RelV (.ty "dict") _ from rfl)) pa_nil)))) pss_never pss_nil) (pss_one (ps_ret (pv 0)))), ?_⟩
  have hV := ev_varR (E := Same) (σ := start n_l_copy [v]) (i := 0) rfl hv
  refine st_skip (E := Same) (et_B (ev_isi (a := "tuple") (b := false) hV tySp (by decide +kernel))) (Same.refl _) fun H1 e1 => ?_
  refine st_skip (E := Same) (et_B (ev_isi (a := "tuple") (b := false) (hV.at e1) tySp (by decide +kernel))) (Same.refl _) fun H2 e2 => ?_
  exact st_ret (E := Same) (R := Is v) (ev_var rfl) (Same.refl _) fun v' H3 e3 r => k v' H3 ((e1.trans e2).trans e3) r
/-- of a placing: a new dict of the same spots -/
def spCopyP (K : PySem.W.Frag) : Sp := SpN (α := PlL × Addr × List (Key × V)) (fun x vs H => vs = [.ref x.2.1] ∧ H x.2.1 = some (.dK x.2.2) ∧ Dc kS (SpV K) x.1 x.2.2 H ∧ KeysOk x.1) (fun x v H => ∃ d, v = .ref d ∧ H d = some (.dK x.2.2))
theorem ok_l_copyP (D : DefAt K mg "_law_copy" s_l_copy) (U : Uni K mg aN uM uW uL) (c_l_copy : Cal P w K mg base 1 "_law_copy" ["_law_value"] (spCopyS K)) : Cal P w K mg base 2 "_law_copy" ["_law_value"] (spCopyP K) := by
  refine D.cal 1 sc_l_copy (fun _ _ _ _ _ _ us hl => match us, hl with | [_], _ => rfl) (fun vs H Q E h => ?_) (fun f cdv A outer s H vs Q E hr h => ?_)
  · obtain ⟨x, ⟨rfl, _⟩, _⟩ := h; rfl
  obtain ⟨⟨pl, dP, kvs⟩, ⟨rfl, hd, hp, ko⟩, k⟩ := h
  have hd : H dP = some (.dK kvs) := hd
  have hp : Dc kS (SpV K) pl kvs H := hp
  have ko : KeysOk pl := ko
  have lkv : kvs.length = pl.length := hp.length
  refine ⟨_, (pss_cons (ps_if (pt_val (pe_callB call_isi (by rfl) U.isinstance (by decide +kernel) (pa_cons (pv 0) (pa_cons (pe_bltn (by rfl) U.list (by decide +kernel) (show RelV (.ty "list") _ from rfl)) pa_nil)))) pss_never pss_nil)
      (pss_cons (ps_if (pt_val (pe_callB call_isi (by rfl) U.isinstance (by decide +kernel) (pa_cons (pv 0) (pa_cons (pe_bltn (by rfl) U.dict (by decide +kernel) (show RelV (.ty "dict") _ from rfl)) pa_nil)))) (pss_one (ps_ret (pe_callTy (call_dictP rfl) (by rfl) U.dict (by decide +kernel) (pa_cons (pe_lock (pe_lc (own := [("_law_name", 2)]) (g := (gName 2)) rfl sc_l_copy.nd (pi_keys (pv 0)) (blkOk_by (N := n_l_copy) (sc := defScope s_l_copy) (own := [("_law_name", 2)]) (by decide +kernel)) (fun _ _ _ _ _ => (pg_name (i := 2) sc_l_copy.nd rfl (Or.inl rfl))) (fun _ _ _ _ _ => pts_nil) (fun _ _ _ _ _ => (pe_tup (pa_cons (pv 2) (pa_cons (c_l_copy.call (hr.mono (by decide)) (by rfl) (pa_cons (pe_dget (hu_of hr) (pv 0) (pv 2) (fun _ _ => rfl)) pa_nil)) pa_nil)))))) pa_nil)))) pss_nil)
      pss_never)), ?_⟩
  have hV : Eva Same (tVar 0) (start n_l_copy [.ref dP]) H (Is (.ref dP)) := ev_var rfl
  have hT : ∀ c b, kitB "dict" c = some b → Eva Same (tCB (rIsi K) (tCons (tVar 0) (tCons (tC (.ty c)) tNil))) (start n_l_copy [.ref dP]) H (Is (.bl b)) := fun c b hk H1 e Q q => by
    refine hV H1 e _ fun v H2 e2 r => ⟨v, .ty c, _, _, b, rfl, .ty c, tyD ⟨dP, kvs, r, .inl ((e.trans e2) _ _ hd)⟩, kit_ty hk, q _ H2 e2 rfl⟩
  refine st_skip (E := Same) (et_B (hT "list" false (by decide +kernel))) (Same.refl _) fun H1 e1 => ?_
  refine st_ifN (E := Same) (b := true) (et_B ((hT "dict" true (by decide +kernel)).at e1)) (Same.refl _) (fun _ H2 e2 => ?_) (fun z => nomatch z)
  have e02 := e1.trans e2
  have hd2 := e02 _ _ hd
  refine ⟨dP, _, hd2, trivial, fun od => ?_⟩
  have fz : (upd H2 dP (.frz od (.dK kvs))) dP = some (.frz od (.dK kvs)) := upd_same
  have wl : Wk H2 (upd H2 dP (.frz od (.dK kvs))) := Wk.lock hd2
  have hp2 : Dc kS (SpV K) pl kvs (upd H2 dP (.frz od (.dK kvs))) := hp.mono (fun a xs h => wl.tup _ _ (e02.tp _ _ h))
  have ndk : (kvs.map (·.1)).Nodup := by
    have : kvs.map (·.1) = (pl.map (·.1)).map Sum.inr := by rw [hp.keys, List.map_map]; rfl
    rw [this]
    exact List.Pairwise.map _ (fun a b h z => h (Sum.inr.inj z)) ko.nd
  have l20 := ko.len
  refine ev_lc (E := Same) (H := upd H2 dP (.frz od (.dK kvs))) (n := kvs.length) (b := fun _ => true) (R := fun i => TupV K [kV (kvs.getD i (Sum.inl 0, .non)).1, (kvs.getD i (Sum.inl 0, .non)).2]) (ei_keys (ev_var rfl) fz) (by omega) ?_ _ (Same.refl _) _ fun v H3 e3 ⟨L, ys, ev, hL, hys, _⟩ => ?_
  · rintro i x H' hi e ⟨kk, vv, hk, rfl⟩
    have hg : kvs.getD i (Sum.inl 0, .non) = (kk, vv) := by rw [List.getD_eq_getElem?_getD, hk]; rfl
    rw [hg]
    obtain ⟨⟨m, s'⟩, hm, rk, rv⟩ := pget hp2 hk
    have rk : kk = kS m := rk
    subst rk
    have hval : valV kvs (kS m) = some vv := val_nodup ndk (kS m, vv) (List.mem_of_getElem? hk)
    refine ⟨_, tg_name, rfl, fun H5 e5 Q q => q H5 (Same.refl _), fun _ => ?_⟩
    refine Eva.imp (ev_tup (ea_cons (R := Is (.str m)) (ev_var rfl) (ea_cons (R := Is vv) (ev_G (α := (Rat × Rat) × V) (s', vv) (ea_cons (R := Is vv) (ev_dget (k := kS m) (ev_var rfl) (.inr ⟨od, e _ _ fz⟩) (ev_var rfl) hval) ea_nil) ?_) ea_nil)) 2 fun vs H1 r => ?_) fun v H1 e1 r => ?_
    · rintro vs H1 e1 ⟨v, r, rfl, hv, rfl⟩
      exact ⟨by rw [show v = _ from hv], MonT.mono (e.trans e1).tp rv⟩
    · obtain ⟨_, _, rfl, _, _, _, rfl, _, rfl⟩ := r; simp
    · obtain ⟨a, vs, H0, rfl, ha, ⟨u, _, rfl, hu, u', _, rfl, hu', rfl⟩, w⟩ := r
      cases hu; cases hu'
      exact ⟨a, rfl, SqT.of ha⟩
  subst ev
  have fz3 := e3 _ _ fz
  have wu := Wk.unlock fz3
  refine ⟨fz3, ?_⟩
  rw [List.filter_eq_self.mpr (fun _ _ => rfl)] at hys
  obtain ⟨ps, rfl, hps⟩ := tups_refs hys
  have LdP : L ≠ dP := ne_of hL fz3 (fun z => nomatch z)
  have e4 := Same.lock hd2 e3
  have hL4 : (upd H3 dP (.dK kvs)) L = some (.lst (ps.map V.ref)) := by rw [upd_ne LdP]; exact hL
  have hps4 := pimp (fun p i (r : SqT K H3 p [kV (kvs.getD i (Sum.inl 0, .non)).1, (kvs.getD i (Sum.inl 0, .non)).2]) => wu.sqT r) hps
  generalize upd H3 dP (.dK kvs) = H4 at e4 wu hL4 hps4
  have hmk : mergeK [] kvs = kvs := mergeK_new _ [] ndk
  refine ⟨L, ps, kvs, rfl, SqL.of hL4, ?_, fun p np => ?_⟩
  · have := range_map_getD' (d := ((Sum.inl 0 : Key), V.non)) (fun x : Key × V => x) kvs
    rw [List.map_id'] at this
    rw [← this]
    exact paired_mapR (f := fun i => kvs.getD i (Sum.inl 0, .non)) (fun t i r => r) hps4
  · rw [hmk]
    exact k p _ ((e02.trans e4).trans (Same.new np)) ((e02.trans e4).free np) ⟨p, rfl, upd_same⟩
end
end Gm

set_option maxHeartbeats 4000000
namespace Gm
open PySem PySem.Spec PyProof.Rows L2
/-- where a placing has a mark one way -/
def valP (pl : PlL) (way : Nat) (m : Str) : Rat := match lk pl m with
  | some s => sel s way
  | none => 0
theorem lk_keys {pl : PlL} {m : Str} : (lk pl m).isSome = true ↔ m ∈ pl.map (·.1) := by
  constructor
  · intro h
    obtain ⟨s, hs⟩ := Option.isSome_iff_exists.mp h
    exact lk_isSome_mem hs
  · intro h
    obtain ⟨x, q, e, hx⟩ := find_mem h
    unfold lk; rw [q]; rfl
theorem lk_val_at {pl : PlL} {m : Str} (h : m ∈ pl.map (·.1)) : ∃ s, lk pl m = some s ∧ ∀ way, valP pl way m = sel s way := by
  obtain ⟨s, hs⟩ := Option.isSome_iff_exists.mp (lk_keys.mpr h)
  exact ⟨s, hs, fun way => by unfold valP; rw [hs]⟩
theorem valP_off {pl : PlL} {m : Str} (h : m ∉ pl.map (·.1)) (way : Nat) : valP pl way m = 0 := by
  unfold valP
  cases e : lk pl m with
  | none => rfl
  | some s => exact absurd (lk_isSome_mem e) h
theorem sgR_part {W : Wd} (ok : W.Ok) {pl : PlL} (hk : ∀ m, m ∈ pl.map (·.1) ↔ m ∈ W.hung) {m : Str} (hm : m ∈ W.hung) (way : Nat) : uncF pl W.rds m way = sgR W.rds (fun r => (r.wt : Rat) * (valP pl way r.other - valP pl way r.one - (r.sz way : Rat))) m := by
  rw [uncF_sg]
  refine sgR_congr fun n r hr ht => ?_
  have he := Wd.hung_ends ok hr
  have h1 : r.one ∈ W.hung := by
    rcases ht with e | e
    · rw [e]; exact hm
    · exact he.mpr (by rw [e]; exact hm)
  have h3 : r.other ∈ W.hung := he.mp h1
  obtain ⟨a, ha, va⟩ := lk_val_at ((hk _).mpr h1)
  obtain ⟨b, hb, vb⟩ := lk_val_at ((hk _).mpr h3)
  have er : restO pl r = some (restF r a b) := by unfold restO; rw [ha, hb]
  rw [uncPart_sel, er]
  show (r.wt : Rat) * sel (restF r a b) way = _
  rw [restF_sel, va, vb]
/-- two placings of the hung marks with the same fixed ones: how their sums differ -/
theorem unc_diff {W : Wd} (ok : W.Ok) {pl pl' : PlL} (hk : ∀ m, m ∈ pl.map (·.1) ↔ m ∈ W.hung) (hk' : ∀ m, m ∈ pl'.map (·.1) ↔ m ∈ W.hung) {m : Str} (hm : m ∈ W.hung) (way : Nat) :
    sgR W.rds (fun r => (r.wt : Rat) * ((fun m => valP pl way m - valP pl' way m) r.other - (fun m => valP pl way m - valP pl' way m) r.one)) m = uncF pl W.rds m way - uncF pl' W.rds m way := by
  rw [sgR_part ok hk hm, sgR_part ok hk' hm, ← sgR_sub]
  refine sgR_congr fun n r _ _ => ?_
  dsimp only
  grind
theorem atF_val {W : Wd} {pl : PlL} (h : pl.all (atF W) = true) {m : Str} {p : Int × Int} (hf : W.fx m = some p) (hm : m ∈ pl.map (·.1)) (way : Nat) : valP pl way m = sel ((p.1 : Rat), (p.2 : Rat)) way := by
  obtain ⟨s, hs, hv⟩ := lk_val_at hm
  rw [hv]
  rw [List.all_eq_true] at h
  have := h _ (lk_mem hs)
  rw [atF_some hf] at this
  rw [of_decide_eq_true this]
theorem same_vals {W : Wd} (ok : W.Ok) {pl pl' : PlL} (hk : ∀ m, m ∈ pl.map (·.1) ↔ m ∈ W.hung) (hk' : ∀ m, m ∈ pl'.map (·.1) ↔ m ∈ W.hung) (hf : pl.all (atF W) = true) (hf' : pl'.all (atF W) = true) {way : Nat} (hu : ∀ m ∈ W.free, uncF pl W.rds m way = uncF pl' W.rds m way) : ∀ m, valP pl way m = valP pl' way m := by
  have h := Wd.still ok (v := fun m => valP pl way m - valP pl' way m) (fun m hm => ?_) (fun m hm => ?_)
  · intro m
    have := h m
    grind
  · by_cases hh : m ∈ W.hung
    · cases e : W.fx m with
      | none => exact absurd (Wd.free_mem.mpr ⟨hh, e⟩) hm
      | some p => rw [atF_val hf e ((hk m).mpr hh), atF_val hf' e ((hk' m).mpr hh)]; grind
    · rw [valP_off (fun z => hh ((hk m).mp z)), valP_off (fun z => hh ((hk' m).mp z))]; grind
  · rw [unc_diff ok hk hk' (Wd.free_mem.mp hm).1, hu m hm]; grind
theorem pl_ext {pl pl' : PlL} (nd : (pl.map (·.1)).Nodup) (hk : pl.map (·.1) = pl'.map (·.1)) (hv : ∀ m way, way < 2 → valP pl way m = valP pl' way m) : pl = pl' := by
  have key : ∀ q : PlL, (q.map (·.1)).Nodup → q = (q.map (·.1)).map fun m => (m, (valP q 0 m, valP q 1 m)) := fun q nd => by
    rw [List.map_map]
    have : ∀ x ∈ q, ((fun m => (m, (valP q 0 m, valP q 1 m))) ∘ fun x : Str × (Rat × Rat) => x.1) x = x := fun x hx => by
      have hl := lk_of nd (show (x.1, x.2) ∈ q from hx)
      show (x.1, (valP q 0 x.1, valP q 1 x.1)) = x
      unfold valP
      rw [hl]; rfl
    rw [List.map_congr_left this, List.map_id']
  rw [key pl nd, key pl' (by rw [← hk]; exact nd), hk]
  refine List.map_congr_left fun m _ => ?_
  rw [hv m 0 (by decide), hv m 1 (by decide)]
/-- the least placing is one -/
theorem adj_uniq {W : Wd} (ok : W.Ok) {pl pl' : PlL} (h : AdjP W pl) (h' : AdjP W pl') : pl = pl' := by
  have hk : ∀ m, m ∈ pl.map (·.1) ↔ m ∈ W.hung := fun m => by rw [h.keys]
  have hk' : ∀ m, m ∈ pl'.map (·.1) ↔ m ∈ W.hung := fun m => by rw [h'.keys]
  refine pl_ext (by rw [h.keys]; exact Wd.hung_nodup ok) (by rw [h.keys, h'.keys]) fun m way hw => ?_
  refine same_vals ok hk hk' h.fixed h'.fixed (fun m hm => ?_) m
  rcases (by omega : way = 0 ∨ way = 1) with rfl | rfl
  · rw [(h.unc m hm).1, (h'.unc m hm).1]
  · rw [(h.unc m hm).2, (h'.unc m hm).2]
theorem adj_bal {W : Wd} (ok : W.Ok) {pl : PlL} (h : AdjP W pl) : balF W pl = true := by
  unfold balF
  have e1 : srt (pl.map (·.1)) = W.hung := by
    rw [h.keys]
    exact (srt_uniq (List.Perm.refl _) (by rw [Wd.hung_eq]; exact (srt_pw _).filter _)).symm
  rw [decide_eq_true e1, h.fixed, List.all_eq_true.mpr fun m hm => by rw [(h.unc m hm).1, (h.unc m hm).2]; rfl]; rfl
theorem bal_keys {W : Wd} {pl : PlL} (h : srt (pl.map (·.1)) ≠ W.hung) : balF W pl = false := by
  unfold balF; rw [decide_eq_false h]; rfl
/-! ### bent placings -/
theorem keys_oth (pl : PlL) (sf : Str → Rat × Rat) : (othL pl sf).map (·.1) = pl.map (·.1) := by unfold othL; rw [List.map_map]; rfl
theorem keys_sh (pl : PlL) (sf : Str → Rat × Rat) : (shL pl sf).map (·.1) = pl.map (·.1) := by unfold shL; rw [List.map_map]; rfl
theorem lk_oth {pl : PlL} (nd : (pl.map (·.1)).Nodup) (sf : Str → Rat × Rat) (m : Str) : lk (othL pl sf) m = (lk pl m).map fun s => addS s (sf m) := by
  cases e : lk pl m with
  | none =>
    cases e2 : lk (othL pl sf) m with
    | none => rfl
    | some s =>
      have := lk_isSome_mem e2
      rw [keys_oth] at this
      rw [← lk_keys, e] at this; cases this
  | some s => exact lk_of (by rw [keys_oth]; exact nd) (List.mem_map.mpr ⟨_, lk_mem e, rfl⟩)
theorem lk_sh {pl : PlL} (nd : (pl.map (·.1)).Nodup) (sf : Str → Rat × Rat) (m : Str) : lk (shL pl sf) m = (lk pl m).map fun _ => sf m := by
  cases e : lk pl m with
  | none =>
    cases e2 : lk (shL pl sf) m with
    | none => rfl
    | some s =>
      have := lk_isSome_mem e2
      rw [keys_sh] at this
      rw [← lk_keys, e] at this; cases this
  | some s => exact lk_of (by rw [keys_sh]; exact nd) (List.mem_map.mpr ⟨_, lk_mem e, rfl⟩)
theorem sel_add (a b : Rat × Rat) (j : Nat) : sel (addS a b) j = sel a j + sel b j := by unfold sel addS; split <;> rfl
theorem val_oth {pl : PlL} (nd : (pl.map (·.1)).Nodup) (sf : Str → Rat × Rat) (m : Str) (way : Nat) : valP (othL pl sf) way m = valP pl way m + valP (shL pl sf) way m := by
  unfold valP
  rw [lk_oth nd, lk_sh nd]
  cases lk pl m with
  | none => show (0 : Rat) = 0 + 0; grind
  | some s => exact sel_add _ _ _
theorem oth_fixed {W : Wd} {pl : PlL} {sf : Str → Rat × Rat} (h : pl.all (atF W) = true) (hs : ShOk W sf) : (othL pl sf).all (atF W) = true := by
  rw [List.all_eq_true] at h ⊢
  intro x hx
  obtain ⟨y, hy, rfl⟩ := List.mem_map.mp hx
  have := h y hy
  cases e : W.fx y.1 with
  | none => exact atF_none e
  | some p =>
    rw [show atF W y = atF W (y.1, y.2) from rfl, atF_some e] at this
    rw [show atF W (y.1, addS y.2 (sf y.1)) = _ from atF_some e, hs.f y.1 p e]
    have := of_decide_eq_true this
    rw [this]
    refine decide_eq_true ?_
    unfold addS
    show ((p.1 : Rat) + 0, (p.2 : Rat) + 0) = _
    rw [Rat.add_zero, Rat.add_zero]
/-- a bent placing is balanced if nothing has moved -/
theorem bal_oth {W : Wd} (ok : W.Ok) {pl : PlL} (h : AdjP W pl) {sf : Str → Rat × Rat} (hs : ShOk W sf) : balF W (othL pl sf) = !((shL pl sf).any fun x => !decide (x.2 = ((0 : Rat), (0 : Rat)))) := by
  have nd : (pl.map (·.1)).Nodup := by rw [h.keys]; exact Wd.hung_nodup ok
  have hk : ∀ m, m ∈ pl.map (·.1) ↔ m ∈ W.hung := fun m => by rw [h.keys]
  have hk' : ∀ m, m ∈ (othL pl sf).map (·.1) ↔ m ∈ W.hung := fun m => by rw [keys_oth, h.keys]
  have e1 : srt ((othL pl sf).map (·.1)) = W.hung := by
    rw [keys_oth, h.keys]
    exact (srt_uniq (List.Perm.refl _) (by rw [Wd.hung_eq]; exact (srt_pw _).filter _)).symm
  have fo := oth_fixed h.fixed hs
  unfold balF
  rw [decide_eq_true e1, fo, Bool.true_and, Bool.true_and, Bool.eq_iff_iff, List.all_eq_true, Bool.not_eq_true', List.any_eq_false]
  constructor
  · intro hall x hx
    obtain ⟨y, hy, rfl⟩ := List.mem_map.mp hx
    have hv : ∀ way, way < 2 → ∀ m, valP (othL pl sf) way m = valP pl way m := fun way hw => same_vals ok hk' hk fo h.fixed fun m hm => by
      have h0 := of_decide_eq_true (hall m hm)
      have h1 : uncF (othL pl sf) W.rds m 0 = 0 := congrArg Prod.fst h0
      have h2 : uncF (othL pl sf) W.rds m 1 = 0 := congrArg Prod.snd h0
      rcases (by omega : way = 0 ∨ way = 1) with rfl | rfl
      · rw [h1, (h.unc m hm).1]
      · rw [h2, (h.unc m hm).2]
    have hz : ∀ way, way < 2 → sel (sf y.1) way = 0 := fun way hw => by
      have e := hv way hw y.1
      rw [val_oth nd] at e
      have e2 : valP (shL pl sf) way y.1 = 0 := by grind
      unfold valP at e2
      rw [lk_sh nd, lk_of nd (show (y.1, y.2) ∈ pl from hy)] at e2
      exact e2
    have : sf y.1 = (0, 0) := Prod.ext (hz 0 (by decide)) (hz 1 (by decide))
    show ¬ (!decide (sf y.1 = (0, 0))) = true
    rw [decide_eq_true this]; decide
  · intro hz m hm
    have hmh := (Wd.free_mem.mp hm).1
    have e : othL pl sf = pl := by
      unfold othL
      have : ∀ y ∈ pl, (fun x : Str × (Rat × Rat) => (x.1, addS x.2 (sf x.1))) y = y := fun y hy => by
        have h0 := hz _ (List.mem_map.mpr ⟨y, hy, rfl⟩)
        have h1 : sf y.1 = (0, 0) := by
          have : ¬ (!decide (sf y.1 = (0, 0))) = true := h0
          simpa using this
        show (y.1, addS y.2 (sf y.1)) = y
        rw [h1]
        unfold addS
        show (y.1, (y.2.1 + 0, y.2.2 + 0)) = y
        rw [Rat.add_zero, Rat.add_zero]
      rw [List.map_congr_left this, List.map_id']
    rw [e, (h.unc m hm).1, (h.unc m hm).2]; rfl
end Gm

set_option maxHeartbeats 4000000
namespace Gm
open PySem PySem.Spec PyProof.Rows L2
theorem tot_cons (q : Rat) (qs : List Rat) : tot (q :: qs) = q + tot qs := by
  unfold tot
  have key : ∀ (qs : List Rat) (a : Rat), qs.foldl (· + ·) a = a + qs.foldl (· + ·) 0 := by
    intro qs
    induction qs with
    | nil => intro a; show a = a + 0; rw [Rat.add_zero]
    | cons x qs ih => intro a; rw [List.foldl_cons, List.foldl_cons, ih (a + x), ih (0 + x)]; grind
  rw [List.foldl_cons, key]; grind
theorem tot_fm (f : Rdg → Option Rat) : ∀ rds : List (Int × Rdg), tot (rds.filterMap fun x => f x.2) = smR rds fun r => (f r).getD 0
  | [] => rfl
  | x :: rds => by
    rw [List.filterMap_cons, smR]
    cases e : f x.2 with
    | none => dsimp only; rw [tot_fm f rds]; show _ = 0 + _; rw [Rat.zero_add]
    | some q => dsimp only; rw [tot_cons, tot_fm f rds]; rfl
theorem costF_sm (pl : PlL) (rds : List (Int × Rdg)) : costF pl rds = smR rds fun r => ((restO pl r).map fun s => partF r.wt s).getD 0 := by
  unfold costF costL; exact tot_fm (fun r => (restO pl r).map fun s => partF r.wt s) rds
theorem exF_sm (sh : PlL) (rds : List (Int × Rdg)) : exF sh rds = smR rds fun r => ((exO sh r).map fun s => partF r.wt s).getD 0 := by
  unfold exF exL; exact tot_fm (fun r => (exO sh r).map fun s => partF r.wt s) rds
/-- bending costs what the shifts cost -/
theorem cost_oth {W : Wd} (ok : W.Ok) {pl : PlL} (h : AdjP W pl) {sf : Str → Rat × Rat} (hs : ShOk W sf) : costF (othL pl sf) W.rds = costF pl W.rds + exF (shL pl sf) W.rds := by
  have nd : (pl.map (·.1)).Nodup := by rw [h.keys]; exact Wd.hung_nodup ok
  have hk : ∀ m, m ∈ pl.map (·.1) ↔ m ∈ W.hung := fun m => by rw [h.keys]
  -- the mixed part
  have mix : ∀ way, way < 2 → smR W.rds (fun r => uncPart pl way r * (valP (shL pl sf) way r.other - valP (shL pl sf) way r.one)) = 0 := fun way hw => by
    have off : ∀ m, m ∉ W.free → valP (shL pl sf) way m = 0 := fun m hm => by
      by_cases hh : m ∈ W.hung
      · cases e : W.fx m with
        | none => exact absurd (Wd.free_mem.mpr ⟨hh, e⟩) hm
        | some p =>
          unfold valP
          rw [lk_sh nd, hs.f m p e]
          cases lk pl m with
          | none => rfl
          | some s => show sel ((0 : Rat), (0 : Rat)) way = 0; unfold sel; split <;> rfl
      · exact valP_off (fun z => hh ((hk m).mp (by rw [keys_sh] at z; exact z))) way
    rw [← by_parts (Wd.free_nodup ok) off (uncPart pl way)]
    refine smL_zero fun m hm => ?_
    have : sgR W.rds (uncPart pl way) m = 0 := by
      rw [← uncF_sg]
      rcases (by omega : way = 0 ∨ way = 1) with rfl | rfl
      · exact (h.unc m hm).1
      · exact (h.unc m hm).2
    rw [this, Rat.mul_zero]
  have m0 := mix 0 (by decide)
  have m1 := mix 1 (by decide)
  rw [costF_sm, costF_sm, exF_sm]
  have e : smR W.rds (fun r => ((restO (othL pl sf) r).map fun s => partF r.wt s).getD 0) = smR W.rds (fun r => ((((restO pl r).map fun s => partF r.wt s).getD 0 + ((exO (shL pl sf) r).map fun s => partF r.wt s).getD 0) + 2 * (uncPart pl 0 r * (valP (shL pl sf) 0 r.other - valP (shL pl sf) 0 r.one))) + 2 * (uncPart pl 1 r * (valP (shL pl sf) 1 r.other - valP (shL pl sf) 1 r.one))) := smR_congr fun n r hr => by
    have ro : restO (othL pl sf) r = match lk pl r.one, lk pl r.other with
      | some a, some b => some (restF r (addS a (sf r.one)) (addS b (sf r.other)))
      | _, _ => none := by
      unfold restO
      rw [lk_oth nd, lk_oth nd]
      cases lk pl r.one <;> cases lk pl r.other <;> rfl
    have re : exO (shL pl sf) r = match lk pl r.one, lk pl r.other with
      | some a, some b => some (gapF (sf r.one) (sf r.other))
      | _, _ => none := by
      unfold exO
      rw [lk_sh nd, lk_sh nd]
      cases lk pl r.one <;> cases lk pl r.other <;> rfl
    rw [ro, re]
    unfold uncPart
    cases ha : lk pl r.one with
    | none =>
      have : restO pl r = none := by unfold restO; rw [ha]
      rw [this]
      show (0 : Rat) = 0 + 0 + 2 * (0 * _) + 2 * (0 * _)
      grind
    | some a =>
      cases hb : lk pl r.other with
      | none =>
        have : restO pl r = none := by unfold restO; rw [ha, hb]
        rw [this]
        show (0 : Rat) = 0 + 0 + 2 * (0 * _) + 2 * (0 * _)
        grind
      | some b =>
        have er : restO pl r = some (restF r a b) := by unfold restO; rw [ha, hb]
        rw [er]
        have v1 : ∀ way, valP (shL pl sf) way r.one = sel (sf r.one) way := fun way => by unfold valP; rw [lk_sh nd, ha]; rfl
        have v2 : ∀ way, valP (shL pl sf) way r.other = sel (sf r.other) way := fun way => by unfold valP; rw [lk_sh nd, hb]; rfl
        rw [v1, v1, v2, v2]
        show partF r.wt (restF r (addS a (sf r.one)) (addS b (sf r.other))) = partF r.wt (restF r a b) + partF r.wt (gapF (sf r.one) (sf r.other)) + 2 * ((r.wt : Rat) * (restF r a b).1 * ((sf r.other).1 - (sf r.one).1)) + 2 * ((r.wt : Rat) * (restF r a b).2 * ((sf r.other).2 - (sf r.one).2))
        unfold partF restF gapF addS
        dsimp only
        grind
  rw [e, smR_add, smR_add, smR_add, smR_smul, smR_smul, m0, m1]
  grind
end Gm

set_option maxHeartbeats 4000000
namespace Gm
open PySem PySem.Spec PyProof.Rows L2
section
variable {K : PySem.W.Frag} {σ : L2.St} {H H' : Hp} {te ta tb : TE} {R S : V → Hp → Prop}
theorem ev_isiR {a c : String} {b : Bool} (h : Eva Same ta σ H R) (ht : ∀ v H1, R v H1 → TyX K H1 v (.type a)) (hk : kitB a c = some b) : Eva Same (tCB (rIsi K) (tCons ta (tCons (tC (.ty c)) tNil))) σ H (Is (.bl b)) := ev_isi h ht hk
/-- isinstance(x, T) != isinstance(y, T), of the same kind -/
theorem et_kind {a c : String} {b : Bool} (h : Eva Same ta σ H R) (h' : Eva Same tb σ H S) (ht : ∀ v H1, R v H1 → TyX K H1 v (.type a)) (ht' : ∀ v H1, S v H1 → TyX K H1 v (.type a)) (hk : kitB a c = some b) :
    EvT Same (tTest (tOp rNe (tCB (rIsi K) (tCons ta (tCons (tC (.ty c)) tNil))) (tCB (rIsi K) (tCons tb (tCons (tC (.ty c)) tNil))))) σ H false :=
  EvT.is (et_test (ev_ne (x := .bl b) (y := .bl b) (ev_isi h ht hk) (ev_isi h' ht' hk) rfl)) (by rw [decide_eq_true rfl]; rfl)
/-- isinstance(x, (list, tuple)) -/
theorem ev_isiLT {a : String} {b : Bool} (h : Eva Same ta σ H R) (hm : MonE Same R) (ht : ∀ v H1, R v H1 → TyX K H1 v (.type a)) (hk : PySem.W.kitAny K (.type a) [.type "list", .type "tuple"] = some b) :
    Eva Same (tCB (rIsiT K) (tCons ta (tCons (tTup (tCons (tC (.ty "list")) (tCons (tC (.ty "tuple")) tNil))) tNil))) σ H (Is (.bl b)) := fun H1 e Q q =>
  h H1 e _ fun v H2 e2 r => ⟨(by show 2 ≤ sizeLine; decide), fun p hp => by
    have e3 : Same H2 (upd H2 p (.tup [.ty "list", .ty "tuple"])) := Same.new hp
    exact ⟨v, p, _, _, _, b, rfl, upd_same, .cons (.ty "list") (.cons (.ty "tuple") .nil), ht v _ (hm.mono e3 r), hk, q _ _ (e2.trans e3) rfl⟩⟩
end
theorem kit_int {K : PySem.W.Frag} : PySem.W.kitAny K (.type "int") [.type "list", .type "tuple"] = some false :=
  kitAny_cons (b := false) (kit_ty (by decide +kernel)) (fun _ => kitAny_cons (b := false) (kit_ty (by decide +kernel)) (fun _ => kitAny_nil) (fun z => nomatch z)) (fun z => nomatch z)
theorem kit_tup {K : PySem.W.Frag} : PySem.W.kitAny K (.type "tuple") [.type "list", .type "tuple"] = some true :=
  kitAny_cons (b := false) (kit_ty (by decide +kernel)) (fun _ => kitAny_cons (b := true) (kit_ty (by decide +kernel)) (fun z => nomatch z) (fun _ => rfl)) (fun z => nomatch z)
theorem tyI {n : Int} : ∀ {K : PySem.W.Frag} v H1, Is (.int n) v H1 → TyX K H1 v (.type "int") := fun v H1 r => by rw [show v = _ from r]; exact .base (.int n)
section
variable {P : Program} {w : World} {K : PySem.W.Frag} {mg : Str → Option Value} {base : Heap} {aN : Addr} {uM uW uL : Value} {C fI fM fR fN fH : Addr} {fdI fdM fdR fdN fdH : FuncData}
def spLikeI : Sp := SpG (α := Int) (fun x vs _ => vs = [.int x, .int x]) (fun _ v _ => v = .bl true)
theorem ok_like_int (D : DefAt K mg "_law_like" s_l_like) (U : Uni K mg aN uM uW uL) : Cal P w K mg base 1 "_law_like" ["_law_found", "_law_due"] spLikeI := by
  refine D.cal 0 sc_l_like (fun _ _ _ _ _ _ us hl => match us, hl with | [_, _], _ => rfl) (fun vs H Q E h => ?_) (fun f cdv A outer s H vs Q E hr h => ?_)
  · obtain ⟨x, rfl, _⟩ := h; rfl
  obtain ⟨n, rfl, k⟩ := h
  refine ⟨_, (pss_cons (ps_if (pt_val (pe_callB call_isi (by rfl) U.isinstance (by decide +kernel) (pa_cons (pv 1) (pa_cons (pe_bltn (by rfl) U.dict (by decide +kernel) (show RelV (.ty "dict") _ from rfl)) pa_nil)))) pss_never pss_nil)
      (pss_cons (ps_if (PW.pt (pw_or (pt_cmpR op_ne (pe_callB call_isi (by rfl) U.isinstance (by decide +kernel) (pa_cons (pv 1) (pa_cons (pe_bltn (by rfl) U.tuple (by decide +kernel) (show RelV (.ty "tuple") _ from rfl)) pa_nil))) (pe_callB call_isi (by rfl) U.isinstance (by decide +kernel) (pa_cons (pv 0) (pa_cons (pe_bltn (by rfl) U.tuple (by decide +kernel) (show RelV (.ty "tuple") _ from rfl)) pa_nil))) (nomark _)) (pw_or1 (pt_cmpR op_ne (pe_callB call_isi (by rfl) U.isinstance (by decide +kernel) (pa_cons (pv 1) (pa_cons (pe_bltn (by rfl) U.list (by decide +kernel) (show RelV (.ty "list") _ from rfl)) pa_nil))) (pe_callB call_isi (by rfl) U.isinstance (by decide +kernel) (pa_cons (pv 0) (pa_cons (pe_bltn (by rfl) U.list (by decide +kernel) (show RelV (.ty "list") _ from rfl)) pa_nil))) (nomark _))))) (pss_one (ps_ret pe_bl)) pss_nil)
      (pss_cons (ps_if (pt_val (pe_callB call_isiT (by rfl) U.isinstance (by decide +kernel) (pa_cons (pv 1) (pa_cons (pe_tup (pa_cons (pe_bltn (by rfl) U.list (by decide +kernel) (show RelV (.ty "list") _ from rfl)) (pa_cons (pe_bltn (by rfl) U.tuple (by decide +kernel) (show RelV (.ty "tuple") _ from rfl)) pa_nil))) pa_nil)))) pss_never pss_nil)
      (pss_cons (ps_if (PW.pt (pw_or (pt_cmpR op_ne (pe_callB call_isi (by rfl) U.isinstance (by decide +kernel) (pa_cons (pv 1) (pa_cons (pe_bltn (by rfl) U.bool (by decide +kernel) (show RelV (.ty "bool") _ from rfl)) pa_nil))) (pe_callB call_isi (by rfl) U.isinstance (by decide +kernel) (pa_cons (pv 0) (pa_cons (pe_bltn (by rfl) U.bool (by decide +kernel) (show RelV (.ty "bool") _ from rfl)) pa_nil))) (nomark _)) (pw_or1 (pt_cmpR op_ne (pe_callB call_isi (by rfl) U.isinstance (by decide +kernel) (pa_cons (pv 1) (pa_cons (pe_bltn (by rfl) U.str (by decide +kernel) (show RelV (.ty "str") _ from rfl)) pa_nil))) (pe_callB call_isi (by rfl) U.isinstance (by decide +kernel) (pa_cons (pv 0) (pa_cons (pe_bltn (by rfl) U.str (by decide +kernel) (show RelV (.ty "str") _ from rfl)) pa_nil))) (nomark _))))) (pss_one (ps_ret pe_bl)) pss_nil)
      (pss_one (ps_ret (pe_and (pe_cmpR op_eq (pe_cmpR op_isN (pv 1) pe_non (nomark _)) (pe_cmpR op_isN (pv 0) pe_non (nomark _)) (nomark _)) (pe_one (pe_cmpR op_eq (pv 0) (pv 1) (nomark _)))))))))), ?_⟩
  have v0 : ∀ H1, Eva Same (tVar 0) (start n_l_like [.int n, .int n]) H1 (Is (.int n)) := fun H1 => ev_var rfl
  have v1 : ∀ H1, Eva Same (tVar 1) (start n_l_like [.int n, .int n]) H1 (Is (.int n)) := fun H1 => ev_var rfl
  refine st_skip (E := Same) (et_B (ev_isi (a := "int") (b := false) (v1 _) tyI (by decide +kernel))) (Same.refl _) fun H1 e1 => ?_
  refine st_skip (E := Same) (EvT.is (et_or (et_kind (a := "int") (b := false) (v1 _) (v0 _) tyI tyI (by decide +kernel)) fun _ => et_kind (a := "int") (b := false) (v1 _) (v0 _) tyI tyI (by decide +kernel)) rfl) (Same.refl _) fun H2 e2 => ?_
  refine st_skip (E := Same) (et_B (ev_isiLT (v1 _) inferInstance tyI kit_int)) (Same.refl _) fun H3 e3 => ?_
  refine st_skip (E := Same) (EvT.is (et_or (et_kind (a := "int") (b := false) (v1 _) (v0 _) tyI tyI (by decide +kernel)) fun _ => et_kind (a := "int") (b := false) (v1 _) (v0 _) tyI tyI (by decide +kernel)) rfl) (Same.refl _) fun H4 e4 => ?_
  refine st_ret (E := Same) (R := Is (.bl true)) ?_ (Same.refl _) fun v H5 e5 r => k v H5 ((((e1.trans e2).trans e3).trans e4).trans e5) r
  refine Eva.is (v := .bl (true && true)) (ev_andV (a := true) (b := true) (Eva.is (ev_eq (x := .bl false) (y := .bl false) (Eva.is (ev_isN (v1 _)) rfl) (Eva.is (ev_isN (v0 _)) rfl) rfl) rfl) fun _ => Eva.is (ev_eq (v0 _) (v1 _) rfl) (by rw [decide_eq_true rfl])) rfl
end
end Gm

set_option maxHeartbeats 4000000
namespace Gm
open PySem PySem.Spec PyProof.Rows L2 RZ
section
variable {K : PySem.W.Frag} {σ : L2.St} {H H' : Hp} {te ta tb : TE} {tl : TA} {R S : V → Hp → Prop}
theorem ei_zipT {xs ys : List V} (h : EvA Same tl σ H (fun vs H1 => ∃ a b, vs = [.ref a, .ref b] ∧ SqT K H1 a xs ∧ SqT K H1 b ys)) (hl : xs.length = ys.length) :
    EvI Same (iZipA K tl) σ H xs.length (fun i x H' => ∃ v u, xs[i]? = some v ∧ ys[i]? = some u ∧ TupV K [v, u] x H') := fun H1 e R r =>
  h H1 e _ fun v H2 e2 ⟨a, b, ea, hs, hs'⟩ => ⟨a, b, xs, ys, ea, .inr ⟨hs, hs', r _ H2 e2 fun H3 e3 => ⟨⟨xs, ys, e3.wk.sqT hs, e3.wk.sqT hs', .inl (Nat.le_refl _)⟩, fun i hi => ⟨by
    obtain ⟨x, hx⟩ := get_lt hi
    obtain ⟨y, hy⟩ := get_lt (xs := ys) (i := i) (by omega)
    exact ⟨xs, ys, x, y, e3.wk.sqT hs, e3.wk.sqT hs', hx, hy⟩, fun x H' yy => by
      obtain ⟨T, y, z, ex, hT, e4, hy, hz⟩ := yy
      subst e4
      exact ⟨Same.new hT, y, z, hy xs (e3.wk.sqT hs), hz ys (e3.wk.sqT hs'), T, ex, SqT.of upd_same⟩⟩⟩⟩⟩
theorem trues {H : Hp} {ys : List V} {n : Nat} (h : Paired (fun y i => Is (.bl true) y H) ys ((List.range n).filter fun _ => true)) : ∃ bs : List Bool, ys = bs.map V.bl ∧ bs.all id = true := by
  refine ⟨(List.range n).map fun _ => true, ?_, ?_⟩
  · rw [List.filter_eq_self.mpr (fun _ _ => rfl)] at h
    rw [paired_is h, List.map_map]; rfl
  · rw [List.all_map, List.all_eq_true]; intro x _; rfl
theorem ev_allT (h : Eva Same te σ H (fun v H1 => ∃ D ys n, v = .ref D ∧ H1 D = some (.lst ys) ∧ Paired (fun y i => Is (.bl true) y H1) ys ((List.range n).filter fun _ => true))) : Eva Same (tCB (rAll K) (tCons te tNil)) σ H (Is (.bl true)) := fun H1 e Q q =>
  h H1 e _ fun v H2 e2 ⟨D, ys, n, ev, hD, hys⟩ => by
    obtain ⟨bs, rfl, hb⟩ := trues hys
    exact ⟨D, bs, by rw [ev], SqL.of hD, q _ H2 e2 (by rw [hb]; rfl)⟩
end
section
variable {P : Program} {w : World} {K : PySem.W.Frag} {mg : Str → Option Value} {base : Heap} {aN : Addr} {uM uW uL : Value} {C fI fM fR fN fH : Addr} {fdI fdM fdR fdN fdH : FuncData}
/-- two tuples of two, alike item by item -/
def spLikeT (K : PySem.W.Frag) (B : V → V → Hp → Prop) : Sp := SpG (α := V × V × V × V) (fun x vs H => (∃ u v, vs = [u, v] ∧ TupV K [x.1, x.2.1] u H ∧ TupV K [x.2.2.1, x.2.2.2] v H) ∧ B x.1 x.2.2.1 H ∧ B x.2.1 x.2.2.2 H) (fun _ v _ => v = .bl true)
theorem ok_like_tup {B : V → V → Hp → Prop} {sp : Sp} {k : Nat} (hB : ∀ u v A A', Same A A' → B u v A → B u v A') (hsp : ∀ u v H Q E, B u v H → (∀ w H', Same H H' → w = .bl true → Q w H') → sp [u, v] H Q E) (D : DefAt K mg "_law_like" s_l_like) (U : Uni K mg aN uM uW uL) (c_l_like : Cal P w K mg base k "_law_like" ["_law_found", "_law_due"] sp) :
    Cal P w K mg base (k + 1) "_law_like" ["_law_found", "_law_due"] (spLikeT K B) := by
  refine D.cal k sc_l_like (fun _ _ _ _ _ _ us hl => match us, hl with | [_, _], _ => rfl) (fun vs H Q E h => ?_) (fun f cdv A outer s H vs Q E hr h => ?_)
  · obtain ⟨x, ⟨⟨_, _, rfl, _⟩, _⟩, _⟩ := h; rfl
  obtain ⟨⟨x1, x2, y1, y2⟩, ⟨⟨u, v, rfl, hu, hv⟩, b1, b2⟩, kk⟩ := h
  have hu : TupV K [x1, x2] u H := hu
  have hv : TupV K [y1, y2] v H := hv
  have b1 : B x1 y1 H := b1
  have b2 : B x2 y2 H := b2
  refine ⟨_, (pss_cons (ps_if (pt_val (pe_callB call_isi (by rfl) U.isinstance (by decide +kernel) (pa_cons (pv 1) (pa_cons (pe_bltn (by rfl) U.dict (by decide +kernel) (show RelV (.ty "dict") _ from rfl)) pa_nil)))) pss_never pss_nil)
      (pss_cons (ps_if (PW.pt (pw_or (pt_cmpR op_ne (pe_callB call_isi (by rfl) U.isinstance (by decide +kernel) (pa_cons (pv 1) (pa_cons (pe_bltn (by rfl) U.tuple (by decide +kernel) (show RelV (.ty "tuple") _ from rfl)) pa_nil))) (pe_callB call_isi (by rfl) U.isinstance (by decide +kernel) (pa_cons (pv 0) (pa_cons (pe_bltn (by rfl) U.tuple (by decide +kernel) (show RelV (.ty "tuple") _ from rfl)) pa_nil))) (nomark _)) (pw_or1 (pt_cmpR op_ne (pe_callB call_isi (by rfl) U.isinstance (by decide +kernel) (pa_cons (pv 1) (pa_cons (pe_bltn (by rfl) U.list (by decide +kernel) (show RelV (.ty "list") _ from rfl)) pa_nil))) (pe_callB call_isi (by rfl) U.isinstance (by decide +kernel) (pa_cons (pv 0) (pa_cons (pe_bltn (by rfl) U.list (by decide +kernel) (show RelV (.ty "list") _ from rfl)) pa_nil))) (nomark _))))) (pss_one (ps_ret pe_bl)) pss_nil)
      (pss_cons (ps_if (pt_val (pe_callB call_isiT (by rfl) U.isinstance (by decide +kernel) (pa_cons (pv 1) (pa_cons (pe_tup (pa_cons (pe_bltn (by rfl) U.list (by decide +kernel) (show RelV (.ty "list") _ from rfl)) (pa_cons (pe_bltn (by rfl) U.tuple (by decide +kernel) (show RelV (.ty "tuple") _ from rfl)) pa_nil))) pa_nil)))) (pss_one (ps_ret (pe_and (pe_cmpR op_eq (pe_callB call_len_seq (by rfl) U.len PySem.boot_len (pa_cons (pv 0) pa_nil)) (pe_callB call_len_seq (by rfl) U.len PySem.boot_len (pa_cons (pv 1) pa_nil)) (nomark _)) (pe_one (pe_callB (cr_all rfl) (by rfl) U.all (by decide +kernel) (pa_cons (pe_lc (own := [("_law_a", 3), ("_law_b", 4)]) (g := (gTup K 2 (gCons (gName 3) (gCons (gName 4) gNil)))) rfl sc_l_like.nd (pi_zipA (by rfl) U.zip (pa_cons (pv 0) (pa_cons (pv 1) pa_nil))) (blkOk_by (N := n_l_like) (sc := defScope s_l_like) (own := [("_law_a", 3), ("_law_b", 4)]) (by decide +kernel)) (fun _ _ _ _ _ => (pg_tup rfl (pgs_cons (pg_name (i := 3) sc_l_like.nd rfl (Or.inl rfl)) (pgs_cons (pg_name (i := 4) sc_l_like.nd rfl (Or.inl rfl)) pgs_nil)))) (fun _ _ _ _ _ => pts_nil) (fun _ _ _ _ _ => (c_l_like.call (hr.mono (by first | decide | exact Nat.le_refl _)) (by rfl) (pa_cons (pv 3) (pa_cons (pv 4) pa_nil))))) pa_nil)))))) pss_nil)
      pss_never))), ?_⟩
  have v0 : ∀ H1, Same H H1 → Eva Same (tVar 0) (start n_l_like [u, v]) H1 (TupV K [x1, x2]) := fun H1 e => ev_varR rfl (MonW.mono e.wk hu)
  have v1 : ∀ H1, Same H H1 → Eva Same (tVar 1) (start n_l_like [u, v]) H1 (TupV K [y1, y2]) := fun H1 e => ev_varR rfl (MonW.mono e.wk hv)
  refine st_skip (E := Same) (et_B (ev_isi (a := "tuple") (b := false) (v1 _ (Same.refl _)) tyTup (by decide +kernel))) (Same.refl _) fun H1 e1 => ?_
  refine st_skip (E := Same) (EvT.is (et_or (et_kind (a := "tuple") (b := true) (v1 _ e1) (v0 _ e1) tyTup tyTup (by decide +kernel)) fun _ => et_kind (a := "tuple") (b := false) (v1 _ e1) (v0 _ e1) tyTup tyTup (by decide +kernel)) rfl) (Same.refl _) fun H2 e2 => ?_
  have e02 := e1.trans e2
  refine st_ifN (E := Same) (b := true) (et_B (ev_isiLT (v1 _ e02) inferInstance tyTup kit_tup)) (Same.refl _) (fun _ H3 e3 => ?_) (fun z => nomatch z)
  have e03 := e02.trans e3
  obtain ⟨ta, rfl, hta⟩ := hu
  obtain ⟨tb, rfl, htb⟩ := hv
  refine st_ret (E := Same) (R := Is (.bl true)) ?_ (Same.refl _) fun v H5 e5 r => kk v H5 (e03.trans e5) r
  refine Eva.is (v := .bl (true && true)) (ev_andV (a := true) (b := true) (Eva.is (ev_eq (x := .int 2) (y := .int 2) (ev_lenT (v0 _ e03)) (ev_lenT (v1 _ e03)) rfl) rfl) fun _ => ?_) rfl
  refine ev_allT (Eva.imp (ev_lc (E := Same) (n := [x1, x2].length) (b := fun _ => true) (R := fun _ => Is (.bl true)) (ei_zipT (K := K) (xs := [x1, x2]) (ys := [y1, y2]) (fun H4 e4 Q q => ⟨_, rfl, _, rfl, q _ H4 (Same.refl _) ⟨ta, tb, rfl, (e03.trans e4).wk.sqT hta, (e03.trans e4).wk.sqT htb⟩⟩) rfl) (by show 2 ≤ 100000; decide) ?_) fun v H4 _ ⟨L, ys, ev, hL, hys, _⟩ => ⟨L, ys, _, ev, hL, hys⟩)
  rintro i x H' hi e ⟨a, b, ha, hb, hT⟩
  have hab : B a b H' := by
    refine hB a b H H' (e03.trans e) ?_
    match i, ha, hb with
    | 0, ha, hb =>
      have ha : x1 = a := by simpa using ha
      have hb : y1 = b := by simpa using hb
      rw [← ha, ← hb]; exact b1
    | 1, ha, hb =>
      have ha : x2 = a := by simpa using ha
      have hb : y2 = b := by simpa using hb
      rw [← ha, ← hb]; exact b2
    | i + 2, ha, hb => simp at ha
  refine ⟨_, tg_tup hT rfl (fun Q q => ⟨_, _, rfl, _, _, rfl, rfl, q⟩), rfl, fun H5 e5 Q q => q H5 (Same.refl _), fun _ => ?_⟩
  refine ev_call (ea_cons (R := Is a) (ev_var rfl) (ea_cons (R := Is b) (ev_var rfl) ea_nil)) ?_
  rintro vs H5 e5 ⟨_, _, rfl, rfl, _, _, rfl, rfl, rfl⟩ Q q
  exact hsp _ _ _ _ _ (hB _ _ _ _ e5 hab) q
end
end Gm

set_option maxHeartbeats 4000000
namespace Gm
open PySem PySem.Spec PyProof.Rows L2 RZ
def BI : V → V → Hp → Prop := fun u v _ => ∃ n : Int, u = .int n ∧ v = .int n
def BR (K : PySem.W.Frag) : V → V → Hp → Prop := fun u v H => ∃ q : Rat, Rt K q u H ∧ Rt K q v H
def BS (K : PySem.W.Frag) : V → V → Hp → Prop := fun u v H => ∃ s : Rat × Rat, SpV K s u H ∧ SpV K s v H
/-- lists of whole numbers as data -/
def dLi (l : List Int) : PyData := .list (l.map PyData.int)
theorem dp_Li {K : PySem.W.Frag} {H : Hp} {l : List Int} {v : V} (h : LstV (l.map V.int) v H) : Dp K H v (dLi l) := by
  obtain ⟨a, rfl, ha⟩ := h
  refine .lst (SqL.of ha) ?_
  clear ha
  induction l with
  | nil => exact .nil
  | cons x l ih => exact .cons (.int x) ih
theorem sh_Li (l : List Int) : SeqAt.shaped (dLi l) = true := by
  have h1 : ∀ l : List Int, PyData.canLayAll0 (l.map PyData.int) = true := by
    intro l
    induction l with
    | nil => simp [PyData.canLayAll0]
    | cons x l ih => rw [List.map_cons, PyData.canLayAll0, ih]; simp [PyData.canLay0]
  have h2 : ∀ l : List Int, PyData.depthAll (l.map PyData.int) = 0 := by
    intro l
    induction l with
    | nil => simp [PyData.depthAll]
    | cons x l ih => rw [List.map_cons, PyData.depthAll, ih, PyData.depth]; rfl
  unfold SeqAt.shaped dLi
  rw [PyData.canLay0, h1, PyData.depth, h2]; rfl
theorem eqv_Li (l : List Int) : PyData.eqv (dLi l) (dLi l) = true := by
  have h : ∀ l : List Int, PyData.eqvAll (l.map PyData.int) (l.map PyData.int) = true := by
    intro l
    induction l with
    | nil => simp [PyData.eqvAll]
    | cons x l ih => rw [List.map_cons, PyData.eqvAll, ih]; simp [PyData.eqv]
  unfold dLi
  rw [PyData.eqv, h]
/-- a list of truths -/
def TrV : V → Hp → Prop := fun v H1 => ∃ D ys n, v = .ref D ∧ H1 D = some (.lst ys) ∧ Paired (fun y i => Is (.bl true) y H1) ys ((List.range n).filter fun _ => true)
instance : MonL TrV := ⟨fun w ⟨D, ys, n, ev, hD, hys⟩ => ⟨D, ys, n, ev, w.lst _ _ hD, hys⟩⟩
section
variable {P : Program} {w : World} {K : PySem.W.Frag} {mg : Str → Option Value} {base : Heap} {aN : Addr} {uM uW uL : Value} {C fI fM fR fN fH : Addr} {fdI fdM fdR fdN fdH : FuncData}
def spLikeR (K : PySem.W.Frag) : Sp := spLikeT K BI
def spLikeS (K : PySem.W.Frag) : Sp := spLikeT K (BR K)
theorem ok_like_ratio (D : DefAt K mg "_law_like" s_l_like) (U : Uni K mg aN uM uW uL) (c : Cal P w K mg base 1 "_law_like" ["_law_found", "_law_due"] spLikeI) : Cal P w K mg base 2 "_law_like" ["_law_found", "_law_due"] (spLikeR K) :=
  ok_like_tup (B := BI) (fun u v A A' _ h => h) (fun u v H Q E ⟨n, e1, e2⟩ q => ⟨n, by rw [e1, e2], q⟩) D U c
theorem br_at {u v : V} {H : Hp} {q : Rat} (h1 : Rt K q u H) (h2 : Rt K q v H) (Q : VK) (E : XK) (q' : ∀ w H', Same H H' → w = .bl true → Q w H') : spLikeR K [u, v] H Q E :=
  ⟨(.int q.num, .int (q.den : Int), .int q.num, .int (q.den : Int)), ⟨⟨u, v, rfl, h1, h2⟩, ⟨_, rfl, rfl⟩, ⟨_, rfl, rfl⟩⟩, q'⟩
theorem ok_like_spot (D : DefAt K mg "_law_like" s_l_like) (U : Uni K mg aN uM uW uL) (c : Cal P w K mg base 2 "_law_like" ["_law_found", "_law_due"] (spLikeR K)) : Cal P w K mg base 3 "_law_like" ["_law_found", "_law_due"] (spLikeS K) :=
  ok_like_tup (B := BR K) (fun u v A A' e ⟨q, h1, h2⟩ => ⟨q, MonW.mono e.wk h1, MonW.mono e.wk h2⟩) (fun u v H Q E ⟨q, h1, h2⟩ k => br_at h1 h2 Q E k) D U c
theorem bs_at {u v : V} {H : Hp} {s : Rat × Rat} (h1 : SpV K s u H) (h2 : SpV K s v H) (Q : VK) (E : XK) (k : ∀ w H', Same H H' → w = .bl true → Q w H') : spLikeS K [u, v] H Q E := by
  obtain ⟨a, b, t1, r1, r2⟩ := h1
  obtain ⟨c, d, t2, r3, r4⟩ := h2
  exact ⟨(a, b, c, d), ⟨⟨u, v, rfl, t1, t2⟩, ⟨_, r1, r3⟩, ⟨_, r2, r4⟩⟩, k⟩
def spLikeD (K : PySem.W.Frag) : Sp := SpG (α := List (Int × (Rat × Rat))) (fun l vs H => (∃ u v, vs = [u, v] ∧ RsX K l u H ∧ RsX K l v H) ∧ (l.map (·.1)).Pairwise (· < ·) ∧ l.length < 64) (fun _ v _ => v = .bl true)
theorem ok_like_rests (D : DefAt K mg "_law_like" s_l_like) (U : Uni K mg aN uM uW uL) (c_l_like : Cal P w K mg base 3 "_law_like" ["_law_found", "_law_due"] (spLikeS K)) : Cal P w K mg base 4 "_law_like" ["_law_found", "_law_due"] (spLikeD K) := by
  refine D.cal 3 sc_l_like (fun _ _ _ _ _ _ us hl => match us, hl with | [_, _], _ => rfl) (fun vs H Q E h => ?_) (fun f cdv A outer s H vs Q E hr h => ?_)
  · obtain ⟨x, ⟨⟨_, _, rfl, _⟩, _⟩, _⟩ := h; rfl
  obtain ⟨l, ⟨⟨_, _, rfl, ⟨dF, kF, rfl, hdF, hkF⟩, ⟨dD, kD, rfl, hdD, hkD⟩⟩, pw, l64⟩, k⟩ := h
  have l64 : l.length < 64 := l64
  have hkF : Dc kI (SpV K) l kF H := hkF
  have hkD : Dc kI (SpV K) l kD H := hkD
  refine ⟨_, (pss_cons (ps_if (pt_val (pe_callB call_isi (by rfl) U.isinstance (by decide +kernel) (pa_cons (pv 1) (pa_cons (pe_bltn (by rfl) U.dict (by decide +kernel) (show RelV (.ty "dict") _ from rfl)) pa_nil)))) (pss_cons (ps_if (PW.pt (pw_or (pt_not (pt_val (pe_callB call_isi (by rfl) U.isinstance (by decide +kernel) (pa_cons (pv 0) (pa_cons (pe_bltn (by rfl) U.dict (by decide +kernel) (show RelV (.ty "dict") _ from rfl)) pa_nil))))) (pw_or1 (pt_cmpR (op_neD hr.units) (pe_callB (call_sortedDI rfl) (by rfl) U.sorted (by decide +kernel) (pa_cons (pv 0) pa_nil)) (pe_callB (call_sortedDI rfl) (by rfl) U.sorted (by decide +kernel) (pa_cons (pv 1) pa_nil)) (nomark _))))) (pss_one (ps_ret pe_bl)) pss_nil)
      (pss_one (ps_ret (pe_callB (cr_all rfl) (by rfl) U.all (by decide +kernel) (pa_cons (pe_lock (pe_lc (own := [("_law_name", 2)]) (g := (gName 2)) rfl sc_l_like.nd (pi_keys (pv 1)) (blkOk_by (N := n_l_like) (sc := defScope s_l_like) (own := [("_law_name", 2)]) (by decide +kernel)) (fun _ _ _ _ _ => (pg_name (i := 2) sc_l_like.nd rfl (Or.inl rfl))) (fun _ _ _ _ _ => pts_nil) (fun _ _ _ _ _ => (c_l_like.call (hr.mono (by first | decide | exact Nat.le_refl _)) (by rfl) (pa_cons (pe_dget (hu_of hr) (pv 0) (pv 2) (fun _ _ => rfl)) (pa_cons (pe_dget (hu_of hr) (pv 1) (pv 2) (fun _ _ => rfl)) pa_nil)))))) pa_nil))))) pss_nil)
      pss_never), ?_⟩
  have v0 : ∀ H1, Same H H1 → Eva Same (tVar 0) (start n_l_like [.ref dF, .ref dD]) H1 (fun v H2 => v = .ref dF ∧ H2 dF = some (.dK kF)) := fun H1 e H2 e2 Q q => ⟨_, rfl, q _ H2 (Same.refl _) ⟨rfl, (e.trans e2) _ _ hdF⟩⟩
  have v1 : ∀ H1, Same H H1 → Eva Same (tVar 1) (start n_l_like [.ref dF, .ref dD]) H1 (fun v H2 => v = .ref dD ∧ H2 dD = some (.dK kD)) := fun H1 e H2 e2 Q q => ⟨_, rfl, q _ H2 (Same.refl _) ⟨rfl, (e.trans e2) _ _ hdD⟩⟩
  have t0 : ∀ v H1, (v = V.ref dF ∧ H1 dF = some (.dK kF)) → TyX K H1 v (.type "dict") := fun v H1 ⟨e, h⟩ => tyD ⟨dF, kF, e, .inl h⟩
  have t1 : ∀ v H1, (v = V.ref dD ∧ H1 dD = some (.dK kD)) → TyX K H1 v (.type "dict") := fun v H1 ⟨e, h⟩ => tyD ⟨dD, kD, e, .inl h⟩
  have kmF : kF.map (·.1) = (l.map (·.1)).map Sum.inl := by rw [hkF.keys, List.map_map]; rfl
  have kmD : kD.map (·.1) = (l.map (·.1)).map Sum.inl := by rw [hkD.keys, List.map_map]; rfl
  refine st_ifN (E := Same) (b := true) (et_B (ev_isi (a := "dict") (b := true) (v1 _ (Same.refl _)) t1 (by decide +kernel))) (Same.refl _) (fun _ H1 e1 => ?_) (fun z => nomatch z)
  refine st_skip (E := Same) (EvT.is (et_or (b := false) (et_not (et_B (ev_isi (a := "dict") (b := true) (v0 _ e1) t0 (by decide +kernel)))) fun _ => EvT.is (et_test (ev_neD (R := LstV ((l.map (·.1)).map V.int)) (S := LstV ((l.map (·.1)).map V.int)) (d := dLi (l.map (·.1))) (e := dLi (l.map (·.1)))
    (Eva.imp (ev_sortedDI (ks := l.map (·.1)) (ev_var rfl) (.inl (e1 _ _ hdF)) kmF (by rw [List.length_map]; exact l64) pw) fun v H2 _ ⟨a, ea, ha, _⟩ => ⟨a, ea, ha⟩)
    (Eva.imp (ev_sortedDI (ks := l.map (·.1)) (ev_var rfl) (.inl (e1 _ _ hdD)) kmD (by rw [List.length_map]; exact l64) pw) fun v H2 _ ⟨a, ea, ha, _⟩ => ⟨a, ea, ha⟩) (fun _ _ => dp_Li) (fun _ _ => dp_Li) (sh_Li _) (sh_Li _))) (by rw [eqv_Li]; rfl)) rfl) (Same.refl _) fun H2 e2 => ?_
  have e02 := e1.trans e2
  refine st_ret (E := Same) (R := Is (.bl true)) (ev_allT (Eva.imp (R := TrV) (ev_lockE (e02 _ _ hdD) fun H3 od e3 hD3 => ?_) fun v H3 _ h => h)) (Same.refl _) fun v H3 e3 r => k v H3 (e02.trans e3) r
  have wl : Wk H3 (upd H3 dD (.frz od (.dK kD))) := Wk.lock hD3
  have fz : (upd H3 dD (.frz od (.dK kD))) dD = some (.frz od (.dK kD)) := upd_same
  have hF3 : Rd (upd H3 dD (.frz od (.dK kD))) dF (.dK kF) := wl.dic _ _ (.inl ((e02.trans e3) _ _ hdF))
  have hkF3 : Dc kI (SpV K) l kF (upd H3 dD (.frz od (.dK kD))) := hkF.mono (fun a xs h => wl.tup _ _ ((e02.trans e3).tp _ _ h))
  have hkD3 : Dc kI (SpV K) l kD (upd H3 dD (.frz od (.dK kD))) := hkD.mono (fun a xs h => wl.tup _ _ ((e02.trans e3).tp _ _ h))
  generalize upd H3 dD (.frz od (.dK kD)) = H4 at fz hF3 hkF3 hkD3
  have lD : kD.length = l.length := hkD.length
  refine Eva.imp (ev_lc (E := Same) (n := kD.length) (b := fun _ => true) (R := fun _ => Is (.bl true)) (ei_keys (ev_var rfl) fz) (by omega) ?_) fun v H5 _ ⟨L, ys, ev, hL, hys, _⟩ => ⟨L, ys, _, ev, hL, hys⟩
  rintro i x H' hi e ⟨kk, vv, hk, rfl⟩
  obtain ⟨⟨n, s'⟩, hn, rk, _⟩ := pget hkD3 hk
  have rk : kk = kI n := rk
  subst rk
  have hmem : n ∈ l.map (·.1) := List.mem_map.mpr ⟨_, List.mem_of_getElem? hn, rfl⟩
  obtain ⟨x1, va, _, _, hva, hra, hf1⟩ := hkF3.has inl_inj hmem
  obtain ⟨x2, vb, _, _, hvb, hrb, hf2⟩ := hkD3.has inl_inj hmem
  rw [hf1] at hf2
  have hx := Option.some.inj hf2
  subst hx
  refine ⟨_, tg_name, rfl, fun H5 e5 Q q => q H5 (Same.refl _), fun _ => ?_⟩
  refine ev_call (ea_cons (R := Is va) (ev_dget (k := kI n) (ev_var rfl) (e.wk.dic _ _ hF3) (ev_var rfl) hva) (ea_cons (R := Is vb) (ev_dget (k := kI n) (ev_var rfl) (.inr ⟨od, e _ _ fz⟩) (ev_var rfl) hvb) ea_nil)) ?_
  rintro vs H5 e5 ⟨_, _, rfl, rfl, _, _, rfl, rfl, rfl⟩ Q q
  exact bs_at (MonT.mono (e.trans e5).tp hra) (MonT.mono (e.trans e5).tp hrb) Q _ q
end
end Gm

set_option maxHeartbeats 4000000
namespace Gm
open PySem PySem.Spec PyProof.Rows L2 RZ
section
variable {P : Program} {w : World} {K : PySem.W.Frag} {mg : Str → Option Value} {base : Heap} {aN : Addr} {uM uW uL : Value} {C fI fM fR fN fH : Addr} {fdI fdM fdR fdN fdH : FuncData}
def spLikeP (K : PySem.W.Frag) : Sp := SpG (α := PlL) (fun l vs H => (∃ u v, vs = [u, v] ∧ PlX K l u H ∧ PlX K l v H) ∧ KeysOk l) (fun _ v _ => v = .bl true)
theorem ok_like_placing (D : DefAt K mg "_law_like" s_l_like) (U : Uni K mg aN uM uW uL) (c_l_like : Cal P w K mg base 3 "_law_like" ["_law_found", "_law_due"] (spLikeS K)) : Cal P w K mg base 4 "_law_like" ["_law_found", "_law_due"] (spLikeP K) := by
  refine D.cal 3 sc_l_like (fun _ _ _ _ _ _ us hl => match us, hl with | [_, _], _ => rfl) (fun vs H Q E h => ?_) (fun f cdv A outer s H vs Q E hr h => ?_)
  · obtain ⟨x, ⟨⟨_, _, rfl, _⟩, _⟩, _⟩ := h; rfl
  obtain ⟨l, ⟨⟨_, _, rfl, ⟨dF, kF, rfl, hdF, hkF⟩, ⟨dD, kD, rfl, hdD, hkD⟩⟩, ko⟩, k⟩ := h
  have ko : KeysOk l := ko
  have l64 : l.length < 64 := by have := ko.len; omega
  have hkF : Dc kS (SpV K) l kF H := hkF
  have hkD : Dc kS (SpV K) l kD H := hkD
  refine ⟨_, (pss_cons (ps_if (pt_val (pe_callB call_isi (by rfl) U.isinstance (by decide +kernel) (pa_cons (pv 1) (pa_cons (pe_bltn (by rfl) U.dict (by decide +kernel) (show RelV (.ty "dict") _ from rfl)) pa_nil)))) (pss_cons (ps_if (PW.pt (pw_or (pt_not (pt_val (pe_callB call_isi (by rfl) U.isinstance (by decide +kernel) (pa_cons (pv 0) (pa_cons (pe_bltn (by rfl) U.dict (by decide +kernel) (show RelV (.ty "dict") _ from rfl)) pa_nil))))) (pw_or1 (pt_cmpR (op_neD hr.units) (pe_callB (call_sortedD rfl) (by rfl) U.sorted (by decide +kernel) (pa_cons (pv 0) pa_nil)) (pe_callB (call_sortedD rfl) (by rfl) U.sorted (by decide +kernel) (pa_cons (pv 1) pa_nil)) (nomark _))))) (pss_one (ps_ret pe_bl)) pss_nil)
      (pss_one (ps_ret (pe_callB (cr_all rfl) (by rfl) U.all (by decide +kernel) (pa_cons (pe_lock (pe_lc (own := [("_law_name", 2)]) (g := (gName 2)) rfl sc_l_like.nd (pi_keys (pv 1)) (blkOk_by (N := n_l_like) (sc := defScope s_l_like) (own := [("_law_name", 2)]) (by decide +kernel)) (fun _ _ _ _ _ => (pg_name (i := 2) sc_l_like.nd rfl (Or.inl rfl))) (fun _ _ _ _ _ => pts_nil) (fun _ _ _ _ _ => (c_l_like.call (hr.mono (by first | decide | exact Nat.le_refl _)) (by rfl) (pa_cons (pe_dget (hu_of hr) (pv 0) (pv 2) (fun _ _ => rfl)) (pa_cons (pe_dget (hu_of hr) (pv 1) (pv 2) (fun _ _ => rfl)) pa_nil)))))) pa_nil))))) pss_nil)
      pss_never), ?_⟩
  have so1 : ∀ x ∈ srt (l.map (·.1)), PyData.strOk x = true := fun x hx => ko.so x (srt_mem.mp hx)
  have v0 : ∀ H1, Same H H1 → Eva Same (tVar 0) (start n_l_like [.ref dF, .ref dD]) H1 (fun v H2 => v = .ref dF ∧ H2 dF = some (.dK kF)) := fun H1 e H2 e2 Q q => ⟨_, rfl, q _ H2 (Same.refl _) ⟨rfl, (e.trans e2) _ _ hdF⟩⟩
  have v1 : ∀ H1, Same H H1 → Eva Same (tVar 1) (start n_l_like [.ref dF, .ref dD]) H1 (fun v H2 => v = .ref dD ∧ H2 dD = some (.dK kD)) := fun H1 e H2 e2 Q q => ⟨_, rfl, q _ H2 (Same.refl _) ⟨rfl, (e.trans e2) _ _ hdD⟩⟩
  have t0 : ∀ v H1, (v = V.ref dF ∧ H1 dF = some (.dK kF)) → TyX K H1 v (.type "dict") := fun v H1 ⟨e, h⟩ => tyD ⟨dF, kF, e, .inl h⟩
  have t1 : ∀ v H1, (v = V.ref dD ∧ H1 dD = some (.dK kD)) → TyX K H1 v (.type "dict") := fun v H1 ⟨e, h⟩ => tyD ⟨dD, kD, e, .inl h⟩
  have kmF : kF.map (·.1) = (l.map (·.1)).map Sum.inr := by rw [hkF.keys, List.map_map]; rfl
  have kmD : kD.map (·.1) = (l.map (·.1)).map Sum.inr := by rw [hkD.keys, List.map_map]; rfl
  refine st_ifN (E := Same) (b := true) (et_B (ev_isi (a := "dict") (b := true) (v1 _ (Same.refl _)) t1 (by decide +kernel))) (Same.refl _) (fun _ H1 e1 => ?_) (fun z => nomatch z)
  refine st_skip (E := Same) (EvT.is (et_or (b := false) (et_not (et_B (ev_isi (a := "dict") (b := true) (v0 _ e1) t0 (by decide +kernel)))) fun _ => EvT.is (et_test (ev_neD (R := LstV ((srt (l.map (·.1))).map V.str)) (S := LstV ((srt (l.map (·.1))).map V.str)) (d := dLs (srt (l.map (·.1)))) (e := dLs (srt (l.map (·.1))))
    (Eva.imp (ev_sortedD (ks := l.map (·.1)) (ev_var rfl) (.inl (e1 _ _ hdF)) kmF (by rw [List.length_map]; exact l64)) fun v H2 _ ⟨a, ea, ha, _⟩ => ⟨a, ea, ha⟩)
    (Eva.imp (ev_sortedD (ks := l.map (·.1)) (ev_var rfl) (.inl (e1 _ _ hdD)) kmD (by rw [List.length_map]; exact l64)) fun v H2 _ ⟨a, ea, ha, _⟩ => ⟨a, ea, ha⟩) (fun _ _ => dp_L) (fun _ _ => dp_L) (sh_L so1) (sh_L so1))) (by rw [eqv_L, decide_eq_true rfl]; rfl)) rfl) (Same.refl _) fun H2 e2 => ?_
  have e02 := e1.trans e2
  refine st_ret (E := Same) (R := Is (.bl true)) (ev_allT (Eva.imp (R := TrV) (ev_lockE (e02 _ _ hdD) fun H3 od e3 hD3 => ?_) fun v H3 _ h => h)) (Same.refl _) fun v H3 e3 r => k v H3 (e02.trans e3) r
  have wl : Wk H3 (upd H3 dD (.frz od (.dK kD))) := Wk.lock hD3
  have fz : (upd H3 dD (.frz od (.dK kD))) dD = some (.frz od (.dK kD)) := upd_same
  have hF3 : Rd (upd H3 dD (.frz od (.dK kD))) dF (.dK kF) := wl.dic _ _ (.inl ((e02.trans e3) _ _ hdF))
  have hkF3 : Dc kS (SpV K) l kF (upd H3 dD (.frz od (.dK kD))) := hkF.mono (fun a xs h => wl.tup _ _ ((e02.trans e3).tp _ _ h))
  have hkD3 : Dc kS (SpV K) l kD (upd H3 dD (.frz od (.dK kD))) := hkD.mono (fun a xs h => wl.tup _ _ ((e02.trans e3).tp _ _ h))
  generalize upd H3 dD (.frz od (.dK kD)) = H4 at fz hF3 hkF3 hkD3
  have lD : kD.length = l.length := hkD.length
  refine Eva.imp (ev_lc (E := Same) (n := kD.length) (b := fun _ => true) (R := fun _ => Is (.bl true)) (ei_keys (ev_var rfl) fz) (by omega) ?_) fun v H5 _ ⟨L, ys, ev, hL, hys, _⟩ => ⟨L, ys, _, ev, hL, hys⟩
  rintro i x H' hi e ⟨kk, vv, hk, rfl⟩
  obtain ⟨⟨n, s'⟩, hn, rk, _⟩ := pget hkD3 hk
  have rk : kk = kS n := rk
  subst rk
  have hmem : n ∈ l.map (·.1) := List.mem_map.mpr ⟨_, List.mem_of_getElem? hn, rfl⟩
  obtain ⟨x1, va, _, _, hva, hra, hf1⟩ := hkF3.has inr_inj hmem
  obtain ⟨x2, vb, _, _, hvb, hrb, hf2⟩ := hkD3.has inr_inj hmem
  rw [hf1] at hf2
  have hx := Option.some.inj hf2
  subst hx
  refine ⟨_, tg_name, rfl, fun H5 e5 Q q => q H5 (Same.refl _), fun _ => ?_⟩
  refine ev_call (ea_cons (R := Is va) (ev_dget (k := kS n) (ev_var rfl) (e.wk.dic _ _ hF3) (ev_var rfl) hva) (ea_cons (R := Is vb) (ev_dget (k := kS n) (ev_var rfl) (.inr ⟨od, e _ _ fz⟩) (ev_var rfl) hvb) ea_nil)) ?_
  rintro vs H5 e5 ⟨_, _, rfl, rfl, _, _, rfl, rfl, rfl⟩ Q q
  exact bs_at (MonT.mono (e.trans e5).tp hra) (MonT.mono (e.trans e5).tp hrb) Q _ q
end
end Gm

set_option maxHeartbeats 4000000
namespace Gm
open PySem PySem.Spec PyProof.Rows L2 RZ
theorem restsF_sub (pl : PlL) : ∀ rds : List (Int × Rdg), ((restsF pl rds).map (·.1)).Sublist (rds.map (·.1))
  | [] => List.Sublist.refl _
  | x :: rds => by
    unfold restsF
    rw [List.filterMap_cons]
    cases restO pl x.2 with
    | none => exact (restsF_sub pl rds).cons _
    | some s => exact (restsF_sub pl rds).cons₂ _
section
variable {P : Program} {w : World} {K : PySem.W.Frag} {mg : Str → Option Value} {base : Heap} {aN : Addr} {uM uW uL : Value} {C fI fM fR fN fH : Addr} {fdI fdM fdR fdN fdH : FuncData}
def PreTold (K : PySem.W.Frag) (C : Addr) (x : Wd × PlL) : List V → Hp → Prop := fun vs H => (∃ a b c, vs = [a, b, c] ∧ WwV K x.1 a H ∧ SurV K C x.1 b H ∧ PlV K x.2 c H) ∧ x.1.Ok ∧ PlOk x.2
def spTold (K : PySem.W.Frag) (C : Addr) : Sp := SpG (α := Wd × PlL) (PreTold K C) (fun _ v _ => v = .bl true)
theorem ev_cost {σ : L2.St} {H : Hp} {ta tb : TE} {X : XK} {W : Wd} {pl : PlL} (ha : Eva Same ta σ H (SurV K C W)) (hb : Eva Same tb σ H (PlV K pl)) (ok : W.Ok) (po : PlOk pl) : Eva Same (tCall (spCost K C) [] X (tCons ta (tCons tb tNil))) σ H (Rt K (costF pl W.rds)) := by
  refine ev_G (α := Wd × PlL) (W, pl) (ea_cons ha (ea_cons hb ea_nil)) ?_
  rintro vs H' _ ⟨v, r', rfl, hv, v', r'', rfl, hv', rfl⟩
  exact ⟨⟨v, v', rfl, hv, hv'⟩, ok, po⟩
theorem ev_lcost {σ : L2.St} {H : Hp} {ta tb : TE} {X : XK} {W : Wd} {pl : PlL} (ha : Eva Same ta σ H (PlV K pl)) (hb : Eva Same tb σ H (DcX kI (RdV K) W.rds)) (ok : W.Ok) (po : PlOk pl) : Eva Same (tCall (spLCost K) [] X (tCons ta (tCons tb tNil))) σ H (Rt K (costF pl W.rds)) := by
  refine ev_G (α := Wd × PlL) (W, pl) (ea_cons ha (ea_cons hb ea_nil)) ?_
  rintro vs H' _ ⟨v, r', rfl, hv, v', r'', rfl, hv', rfl⟩
  exact ⟨⟨v, v', rfl, hv, hv'⟩, ok, po⟩
theorem ev_likeR {σ : L2.St} {H : Hp} {ta tb : TE} {X : XK} {q : Rat} (ha : Eva Same ta σ H (Rt K q)) (hb : Eva Same tb σ H (Rt K q)) : Eva Same (tCall (spLikeR K) [] X (tCons ta (tCons tb tNil))) σ H (Is (.bl true)) := by
  refine ev_call (ea_cons ha (ea_cons hb ea_nil)) ?_
  rintro vs H5 e5 ⟨_, _, rfl, h1, _, _, rfl, h2, rfl⟩ Q q
  exact br_at h1 h2 Q _ q
theorem ev_readW {σ : L2.St} {H : Hp} {W : Wd} {v : V} {i : Nat} (h0 : σ[i]? = some (some v)) (hw : WwV K W v H) : Eva Same (tDGet (tVar i) (tC (.str "readings"))) σ H (DcX kI (RdV K) W.rds) := by
  obtain ⟨d, dM, dR, kM, kR, rfl, hw⟩ := hw
  refine Eva.imp (ev_dget (k := kS "readings") (ev_var h0) (.inl hw.d) ev_c (ww_readings dM dR)) fun v H1 e r => ?_
  rw [show v = _ from r]
  exact ⟨dR, kR, rfl, e _ _ hw.r, hw.r'.mono e.tp⟩
theorem ok_l_told_right (D : DefAt K mg "_law_told_right" s_l_told_right) (U : Uni K mg aN uM uW uL) (c_l_rests : Cal P w K mg base 4 "_law_rests" ["_law_placing", "_law_readings_here"] (spLRests K)) (c_rests : Cal P w K mg base 5 "rests" ["survey", "placing"] (spRests K C)) (c_cost : Cal P w K mg base 6 "cost" ["survey", "placing"] (spCost K C))
    (c_l_cost : Cal P w K mg base 5 "_law_cost" ["_law_placing", "_law_readings_here"] (spLCost K)) (c_like_R : Cal P w K mg base 2 "_law_like" ["_law_found", "_law_due"] (spLikeR K)) (c_like_D : Cal P w K mg base 4 "_law_like" ["_law_found", "_law_due"] (spLikeD K)) :
    Cal P w K mg base 7 "_law_told_right" ["_law_w", "_law_survey_here", "_law_placing"] (spTold K C) := by
  refine D.cal 6 sc_l_told_right (fun _ _ _ _ _ _ us hl => match us, hl with | [_, _, _], _ => rfl) (fun vs H Q E h => ?_) (fun f cdv A outer s H vs Q E hr h => ?_)
  · obtain ⟨x, ⟨⟨_, _, _, rfl, _⟩, _⟩, _⟩ := h; rfl
  obtain ⟨⟨W, pl⟩, ⟨⟨va, vb, vc, rfl, hw, hs, hp⟩, ok, po⟩, k⟩ := h
  have hw : WwV K W va H := hw
  have hs : SurV K C W vb H := hs
  have hp : PlV K pl vc H := hp
  have ok : W.Ok := ok
  have po : PlOk pl := po
  refine ⟨_, (pss_cons (ps_set (i := 3) sc_l_told_right.nd rfl (Or.inl rfl) (c_l_rests.call (hr.mono (by decide)) (by rfl) (pa_cons (pv 2) (pa_cons (pe_dget (hu_of hr) (pv 0) pe_str (fun _ _ => rfl)) pa_nil))))
      (pss_cons (ps_if (pt_not (pt_val (c_like_D.call (hr.mono (by decide)) (by rfl) (pa_cons (c_rests.call (hr.mono (by decide)) (by rfl) (pa_cons (pv 1) (pa_cons (pv 2) pa_nil))) (pa_cons (pv 3) pa_nil))))) (pss_one (ps_ret pe_bl)) pss_nil)
      (pss_one (ps_ret (c_like_R.call (hr.mono (by decide)) (by rfl) (pa_cons (c_cost.call (hr.mono (by decide)) (by rfl) (pa_cons (pv 1) (pa_cons (pv 2) pa_nil))) (pa_cons (c_l_cost.call (hr.mono (by decide)) (by rfl) (pa_cons (pv 2) (pa_cons (pe_dget (hu_of hr) (pv 0) pe_str (fun _ _ => rfl)) pa_nil))) pa_nil))))))), ?_⟩
  refine st_set (E := Same) (en_lrests (ev_varR rfl hp) (ev_readW rfl hw) ok po).eva (Same.refl _) fun vd H1 e1 hd => ?_
  have hw1 : WwV K W va H1 := MonE.mono e1 hw
  have hs1 := MonW.mono (R := SurV K C W) e1.wk hs
  have hp1 := MonW.mono (R := PlV K pl) e1.wk hp
  refine st_skip (E := Same) (EvT.is (et_not (et_B (ev_G (α := List (Int × (Rat × Rat))) (restsF pl W.rds) (ea_cons (en_rests (ev_varR rfl hs1) (ev_varR rfl hp1) ok po).eva (ea_cons (R := RsX K (restsF pl W.rds)) (ev_varR rfl hd) ea_nil)) ?_))) rfl) (Same.refl _) fun H2 e2 => ?_
  · rintro vs H' _ ⟨v, r', rfl, hv, v', r'', rfl, hv', rfl⟩
    refine ⟨⟨v, v', rfl, hv, hv'⟩, ok.rnum.sublist (restsF_sub pl W.rds), ?_⟩
    exact Nat.lt_of_le_of_lt restsF_len (by have := ok.rlen; omega)
  · refine st_ret (E := Same) (R := Is (.bl true)) (ev_likeR (ev_cost (ev_varR rfl (MonW.mono e2.wk hs1)) (ev_varR rfl (MonW.mono e2.wk hp1)) ok po) (ev_lcost (ev_varR rfl (MonW.mono e2.wk hp1)) (ev_readW rfl (MonE.mono e2 hw1)) ok po)) (Same.refl _) fun v H3 e3 r => k v H3 ((e1.trans e2).trans e3) r
end
end Gm

set_option maxHeartbeats 4000000
namespace Gm
open PySem PySem.Spec PyProof.Rows L2 RZ
section
variable {P : Program} {w : World} {K : PySem.W.Frag} {mg : Str → Option Value} {base : Heap} {aN : Addr} {uM uW uL : Value} {C fI fM fR fN fH : Addr} {fdI fdM fdR fdN fdH : FuncData}
theorem AdjP.plb {W : Wd} {pl : PlL} (h : AdjP W pl) : PlB pl := ⟨h.bnd⟩
theorem AdjP.ko {W : Wd} {pl : PlL} (ok : W.Ok) (h : AdjP W pl) : KeysOk pl := by
  refine ⟨by rw [h.keys]; exact Wd.hung_nodup ok, fun x hx => ?_, ?_⟩
  · rw [h.keys] at hx; exact ok.strOk (Wd.hung_mem.mp hx).1
  · have h1 := Wd.hung_len ok
    rw [← h.keys, List.length_map] at h1; omega
theorem ev_lbal {σ : L2.St} {H : Hp} {ta tb : TE} {X : XK} {W : Wd} {pl : PlL} (ha : Eva Same ta σ H (WwV K W)) (hb : Eva Same tb σ H (PlX K pl)) (ok : W.Ok) (po : PlOk pl) (ko : KeysOk pl) : Eva Same (tCall (spLBal K) [] X (tCons ta (tCons tb tNil))) σ H (Is (.bl (balF W pl))) := by
  refine ev_G (α := Wd × PlL) (W, pl) (ea_cons ha (ea_cons hb ea_nil)) ?_
  rintro vs H' _ ⟨v, r', rfl, hv, v', r'', rfl, hv', rfl⟩
  exact ⟨⟨v, v', rfl, hv, hv'⟩, ok, po, ko⟩
theorem ev_bal {σ : L2.St} {H : Hp} {ta tb : TE} {X : XK} {W : Wd} {pl : PlL} (ha : Eva Same ta σ H (SurV K C W)) (hb : Eva Same tb σ H (PlX K pl)) (ok : W.Ok) (po : PlOk pl) (ko : KeysOk pl) : Eva Same (tCall (spBal K C) [] X (tCons ta (tCons tb tNil))) σ H (Is (.bl (balF W pl))) := by
  refine ev_G (α := Wd × PlL) (W, pl) (ea_cons ha (ea_cons hb ea_nil)) ?_
  rintro vs H' _ ⟨v, r', rfl, hv, v', r'', rfl, hv', rfl⟩
  exact ⟨⟨v, v', rfl, hv, hv'⟩, ok, po, ko⟩
theorem ev_told {σ : L2.St} {H : Hp} {ta tb tc : TE} {X : XK} {W : Wd} {pl : PlL} (ha : Eva Same ta σ H (WwV K W)) (hb : Eva Same tb σ H (SurV K C W)) (hc : Eva Same tc σ H (PlX K pl)) (ok : W.Ok) (po : PlOk pl) : Eva Same (tCall (spTold K C) [] X (tCons ta (tCons tb (tCons tc tNil)))) σ H (Is (.bl true)) := by
  refine ev_G (α := Wd × PlL) (W, pl) (ea_cons ha (ea_cons hb (ea_cons hc ea_nil))) ?_
  rintro vs H' _ ⟨v, r', rfl, hv, v', r'', rfl, hv', v2, r2, rfl, hv2, rfl⟩
  exact ⟨⟨v, v', v2, rfl, hv, hv', hv2.v⟩, ok, po⟩
theorem valV_mem {κ : Type} [DecidableEq κ] : ∀ {kvs : List (κ × V)} {p : κ × V}, (kvs.map (·.1)).Nodup → p ∈ kvs → valV kvs p.1 = some p.2
  | [], _, _, h => nomatch h
  | (k, v) :: t, p, nd, h => by
    rw [List.map_cons, List.nodup_cons] at nd
    rcases List.mem_cons.mp h with rfl | h
    · simp [valV]
    · have ne : ¬ k = p.1 := fun z => nd.1 (z ▸ List.mem_map.mpr ⟨p, h, rfl⟩)
      have ih := valV_mem nd.2 h
      simp [valV, ne] at ih ⊢
      exact ih
theorem ev_notB {σ : L2.St} {H : Hp} {ta tb : TE} {a b : Bool} (ha : Eva Same ta σ H (Is (.bl a))) (hb : Eva Same tb σ H (Is (.bl b))) : Eva Same (tOp rNotB ta tb) σ H (Is (.bl (!decide (a = b)))) := fun H1 e1 Q q =>
  ha H1 e1 _ fun x H2 e2 r => hb H2 (e1.trans e2) _ fun y H3 e3 s => ⟨a, b, r, s, q _ H3 (e2.trans e3) rfl⟩
theorem ev_isB {σ : L2.St} {H : Hp} {ta tb : TE} {a b : Bool} (ha : Eva Same ta σ H (Is (.bl a))) (hb : Eva Same tb σ H (Is (.bl b))) : Eva Same (tOp rIsB ta tb) σ H (Is (.bl (decide (a = b)))) := fun H1 e1 Q q =>
  ha H1 e1 _ fun x H2 e2 r => hb H2 (e1.trans e2) _ fun y H3 e3 s => ⟨a, b, r, s, q _ H3 (e2.trans e3) rfl⟩
theorem ev_neDR {σ : L2.St} {H : Hp} {ta tb : TE} {a b : Addr} {ks ls : List (Key × V)} (ha : Eva Same ta σ H (Is (.ref a))) (hb : Eva Same tb σ H (Is (.ref b))) (ea : H a = some (.dK ks)) (eb : H b = some (.dK ls)) (hl : ks.length = ls.length) (hp : ∀ p ∈ ks, valV ls p.1 = some p.2 ∧ isRef p.2) : Eva Same (tOp rNeDR ta tb) σ H (Is (.bl false)) := fun H1 e1 Q q =>
  ha H1 e1 _ fun x H2 e2 r => hb H2 (e1.trans e2) _ fun y H3 e3 s => ⟨a, b, ks, ls, r, s, (e1.trans (e2.trans e3)) _ _ ea, (e1.trans (e2.trans e3)) _ _ eb, hl, hp, q _ H3 (e2.trans e3) rfl⟩
theorem dc_refs {H : Hp} {pl : PlL} {kvs : List (Key × V)} (h : Dc kS (SpV K) pl kvs H) : ∀ p ∈ kvs, isRef p.2 := fun p hp => by
  obtain ⟨i, hi⟩ := List.mem_iff_getElem?.mp hp
  obtain ⟨y, _, _, _, _, ⟨a, e, _⟩, _⟩ := pget h hi
  exact ⟨a, e⟩
theorem boolsP {H : Hp} {f : Nat → Bool} : ∀ {ys : List V} {m : List Nat}, Paired (fun y i => Is (.bl (f i)) y H) ys m → ys = (m.map f).map V.bl
  | _, _, .nil => rfl
  | _, _, .cons r t => by
    rw [List.map_cons, List.map_cons, ← boolsP t]
    exact congrArg (· :: _) r
theorem any_range {α : Type} {l : List α} {p : α → Bool} {f : Nat → Bool} {n : Nat} (hn : n = l.length) (h : ∀ i x, l[i]? = some x → f i = p x) : ((List.range n).map f).any id = l.any p := by
  have e : (List.range n).map f = l.map p := by
    apply List.ext_getElem?
    intro i
    rw [List.getElem?_map, List.getElem?_map]
    by_cases hi : i < n
    · rw [List.getElem?_range hi]
      have : l[i]? = some (l[i]'(hn ▸ hi)) := List.getElem?_eq_getElem (hn ▸ hi)
      rw [this]
      exact congrArg some (h i _ this)
    · rw [List.getElem?_eq_none (by rw [List.length_range]; omega), List.getElem?_eq_none (by omega)]
      rfl
  rw [e, List.any_map]
  rfl
theorem cost_sm {pl : PlL} {W : Wd} (ok : W.Ok) (po : PlOk pl) : Sm (costF pl W.rds) := by
  obtain ⟨D, D0, D1, hN⟩ := po
  have h := (costL_nq ok D1 hN).2 (costL pl W.rds).length
  rw [List.take_length] at h
  exact sm_of2 h D0 D1 (by decide)
theorem ex_sm {pl : PlL} {W : Wd} (ok : W.Ok) (po : PlOk pl) : Sm (exF pl W.rds) := by
  obtain ⟨D, D0, D1, hN⟩ := po
  have h := exL_nq ok hN W.rds.length
  rw [List.take_length] at h
  exact sm_of2 h D0 D1 (by decide)
theorem cut1 (xs : List V) : cutV xs none (some 1) = xs.take 1 := by
  unfold cutV
  rw [HT.sIx_none, show (some (1 : Int)) = some ((1 : Nat) : Int) from rfl, HT.sIx_nat, List.drop_zero, Nat.sub_zero, ← List.take_eq_take_min]
theorem ev_slice1 {σ : L2.St} {H : Hp} {te : TE} {xs : List V} (h : Eva Same te σ H (LstV xs)) : Eva Same (tSl (rSlL K) te tNoPart (tPart (tC (.int 1)))) σ H (LstV (xs.take 1)) := fun H1 e Q q =>
  h H1 e _ fun v H2 e2 ⟨a, ea, ha⟩ => ⟨1, rfl, a, xs, ea, SqL.of ha, fun p hp => q _ _ (e2.trans (Same.new hp)) ⟨p, rfl, by rw [cut1]; exact upd_same⟩⟩
theorem paired_filter {α β : Type} {F : α → β → Prop} {p : α → Bool} {q : β → Bool} (h : ∀ a b, F a b → p a = q b) : ∀ {l : List α} {m : List β}, Paired F l m → Paired F (l.filter p) (m.filter q)
  | _, _, .nil => .nil
  | a :: l, b :: m, .cons r t => by
    rw [List.filter_cons, List.filter_cons, h a b r]
    by_cases hq : q b = true
    · rw [if_pos hq, if_pos hq]; exact .cons r (paired_filter h t)
    · rw [if_neg hq, if_neg hq]; exact paired_filter h t
def dropP (pl : PlL) (m : Str) : PlL := pl.filter fun x => decide (x.1 ≠ m)
theorem dc_drop {H : Hp} {pl : PlL} {kvs : List (Key × V)} {m : Str} (h : Dc kS (SpV K) pl kvs H) : Dc kS (SpV K) (dropP pl m) (dropK kvs (kS m)) H :=
  paired_filter (fun a b r => by
    rw [r.1]
    by_cases e : b.1 = m
    · rw [decide_eq_false (not_not_intro e), decide_eq_false (not_not_intro (congrArg kS e))]
    · exact (decide_eq_true (show kS b.1 ≠ kS m from fun z => e (inr_inj _ _ z))).trans (decide_eq_true (show b.1 ≠ m from e)).symm) h
theorem dropP_ok {pl : PlL} {m : Str} (h : PlOk pl) : PlOk (dropP pl m) := by
  obtain ⟨D, D0, D1, hN⟩ := h
  exact ⟨D, D0, D1, fun x hx => hN x (List.mem_filter.mp hx).1⟩
theorem dropP_keys {pl : PlL} {m : Str} (h : KeysOk pl) : KeysOk (dropP pl m) := by
  refine ⟨(List.filter_sublist.map _).nodup h.nd, fun x hx => ?_, Nat.le_trans (List.length_filter_le _ _) h.len⟩
  obtain ⟨y, hy, rfl⟩ := List.mem_map.mp hx
  exact h.so _ (List.mem_map.mpr ⟨y, (List.mem_filter.mp hy).1, rfl⟩)
theorem dropP_bal {W : Wd} {pl : PlL} {m : Str} (hk : pl.map (·.1) = W.hung) (hm : m ∈ pl.map (·.1)) : balF W (dropP pl m) = false := by
  refine bal_keys fun e => ?_
  rw [hk, ← e] at hm
  obtain ⟨y, hy, rfl⟩ := List.mem_map.mp (srt_mem.mp hm)
  have := (List.mem_filter.mp hy).2
  simp at this
theorem wk_fresh {A B : Hp} {p : Addr} {o : HO} (w : Wk A B) (n : A p = none) : Wk A (upd B p o) := by
  have ne : ∀ {a : Addr} {u : HO}, A a = some u → a ≠ p := fun {a u} h z => by rw [z, n] at h; cases h
  refine ⟨fun a xs h => ?_, fun a k h => ?_, fun a C dx fs h => ?_⟩
  · have np : a ≠ p := by rcases h with h | ⟨u, h⟩ <;> exact ne h
    rcases w.tup a xs h with h | ⟨u, h⟩
    · exact .inl (by rw [upd_ne np]; exact h)
    · exact .inr ⟨u, by rw [upd_ne np]; exact h⟩
  · have np : a ≠ p := by rcases h with h | ⟨u, h⟩ <;> exact ne h
    rcases w.dic a k h with h | ⟨u, h⟩
    · exact .inl (by rw [upd_ne np]; exact h)
    · exact .inr ⟨u, by rw [upd_ne np]; exact h⟩
  · rw [upd_ne (ne h)]; exact w.ins a C dx fs h
theorem st_dpop1 {σ : L2.St} {H : Hp} {td ty : TE} {t2 : TS} {D : Ends} {p : Addr} {kvs : List (Key × V)} {k : Key} {v : V} (hd : Eva Same td σ H (Is (.ref p))) (hy : Eva Same ty σ H (Is (kV k))) (hp : H p = some (.dK kvs)) (hv : valV kvs k = some v)
    (q : ∀ H1, Same H H1 → t2 D σ (upd H1 p (.dK (dropK kvs k)))) : tSeq (tDrop (tDPop1 td ty)) t2 D σ H :=
  hd H (Same.refl _) _ fun x H1 e1 rx => ⟨p, rx, .inl ⟨kvs, .inl (e1 _ _ hp)⟩, hy H1 e1 _ fun y H2 e2 ry => ⟨kvs, k, v, (e1.trans e2) _ _ hp, ry, hv, q H2 (e1.trans e2)⟩⟩
theorem st_dclear {σ : L2.St} {H : Hp} {te : TE} {t2 : TS} {D : Ends} {p : Addr} {kvs : List (Key × V)} (h : Eva Same te σ H (Is (.ref p))) (hp : H p = some (.dK kvs)) (q : ∀ H1, Same H H1 → t2 D σ (upd H1 p (.dK []))) : tSeq (tDrop (tBM0 K "dict" rDClear te)) t2 D σ H :=
  h H (Same.refl _) _ fun x H1 e rx => by
    rw [show x = V.ref p from rx]
    exact ⟨.inr (.inr (.inl ⟨rfl, .inl ⟨kvs, e _ _ hp⟩⟩)), p, kvs, rfl, rfl, e _ _ hp, q H1 e⟩
def zzP (pl : PlL) : PlL := pl ++ [(("zzzzzz" : Str), ((0 : Rat), (0 : Rat)))]
theorem zz_not {W : Wd} {pl : PlL} (ok : W.Ok) (hk : pl.map (·.1) = W.hung) : ("zzzzzz" : Str) ∉ pl.map (·.1) := fun h => by
  rw [hk] at h
  exact (ok.nm _ (Wd.hung_mem.mp h).1).2.2.2 rfl
theorem zzP_ok {pl : PlL} (h : PlOk pl) : PlOk (zzP pl) := by
  obtain ⟨D, D0, D1, hN⟩ := h
  refine ⟨D, D0, D1, fun x hx => ?_⟩
  rcases List.mem_append.mp hx with h | h
  · exact hN x h
  · rw [List.mem_singleton.mp h]; exact ⟨Nq.zero, Nq.zero⟩
theorem zzP_map {pl : PlL} : (zzP pl).map (·.1) = pl.map (·.1) ++ [("zzzzzz" : Str)] := by unfold zzP; rw [List.map_append]; rfl
theorem zzP_keys {W : Wd} {pl : PlL} (ok : W.Ok) (hk : pl.map (·.1) = W.hung) (h : KeysOk pl) : KeysOk (zzP pl) := by
  have hz := zz_not ok hk
  refine ⟨?_, fun x hx => ?_, ?_⟩
  · rw [zzP_map, List.nodup_append]
    refine ⟨h.nd, by simp, fun a ha b hb e => ?_⟩
    rw [List.mem_singleton.mp hb] at e
    exact hz (e ▸ ha)
  · rw [zzP_map] at hx
    rcases List.mem_append.mp hx with h1 | h1
    · exact h.so x h1
    · rw [List.mem_singleton.mp h1]; decide +kernel
  · have h1 := Wd.hung_len ok
    rw [← hk, List.length_map] at h1
    unfold zzP
    rw [List.length_append, List.length_singleton]; omega
theorem zzP_bal {W : Wd} {pl : PlL} (ok : W.Ok) (hk : pl.map (·.1) = W.hung) : balF W (zzP pl) = false := by
  refine bal_keys fun e => zz_not ok hk ?_
  rw [hk, ← e, srt_mem, zzP_map]
  exact List.mem_append.mpr (.inr (List.mem_singleton.mpr rfl))
theorem dc_zz {H : Hp} {pl : PlL} {kvs : List (Key × V)} {v : V} (h : Dc kS (SpV K) pl kvs H) (hv : SpV K ((0 : Rat), (0 : Rat)) v H) : Dc kS (SpV K) (zzP pl) (kvs ++ [(kS "zzzzzz", v)]) H := papp h (.cons ⟨rfl, hv⟩ .nil)
theorem kvs_not {H : Hp} {pl : PlL} {kvs : List (Key × V)} {m : Str} (h : Dc kS (SpV K) pl kvs H) (hm : m ∉ pl.map (·.1)) : valV kvs (kS m) = none := valV_none fun p hp z => by
  obtain ⟨b, hb, r, _⟩ := paired_mem h hp
  have r : p.1 = kS b.1 := r
  rw [r] at z
  exact hm (inr_inj _ _ z ▸ List.mem_map.mpr ⟨b, hb, rfl⟩)
/-- the law says True -/
def spLaw (K : PySem.W.Frag) : Sp := fun vs H Q _ => ∃ (a : Addr) (cs : List Int), vs = [.ref a] ∧ SqL K H a (cs.map V.int) ∧ ∀ H', Q (.bl true) H'
theorem ok_law {fL : Addr} {fdL : FuncData} (D : Fun K "law" "law" s_law fL fdL) (U : Uni K mg aN uM uW uL) (c_l_open : Cal P w K mg base 1 "_law_open" ["_law_script"] (spOpen K)) (c_l_ground : Cal P w K mg base 4 "_law_ground" ["_law_draw", "_law_most"] (spGround K)) (c_l_survey : Cal P w K mg base 7 "_law_survey" ["_law_w"] (spSurvey K C))
    (c_adjusted : Cal P w K mg base 7 "adjusted" ["survey"] (spAdj K C)) (c_l_is_spot : Cal P w K mg base 3 "_law_is_spot" ["_law_spot"] (spIsSpot K)) (c_l_balanced : Cal P w K mg base 5 "_law_balanced" ["_law_w", "_law_placing"] (spLBal K)) (c_l_told_right : Cal P w K mg base 7 "_law_told_right" ["_law_w", "_law_survey_here", "_law_placing"] (spTold K C))
    (c_l_copy : Cal P w K mg base 2 "_law_copy" ["_law_value"] (spCopyP K)) (c_balanced : Cal P w K mg base 7 "balanced" ["survey", "placing"] (spBal K C)) (c_l_bent : Cal P w K mg base 3 "_law_bent" ["_law_draw", "_law_w", "_law_placing"] (spBent K)) (c_l_add : Cal P w K mg base 2 "_law_add" ["_law_a", "_law_b"] (spPlus K))
    (c_l_cost : Cal P w K mg base 5 "_law_cost" ["_law_placing", "_law_readings_here"] (spLCost K)) (c_l_excess : Cal P w K mg base 3 "_law_excess" ["_law_w", "_law_shifts"] (spExcess K)) (c_cost : Cal P w K mg base 6 "cost" ["survey", "placing"] (spCost K C)) (c_like_R : Cal P w K mg base 2 "_law_like" ["_law_found", "_law_due"] (spLikeR K)) (c_like_P : Cal P w K mg base 4 "_law_like" ["_law_found", "_law_due"] (spLikeP K)) :
    MFn P w K mg base 8 fL fdL ["_law_script"] (spLaw K) := by
  refine Fun.mfn 7 D sc_law (fun _ _ _ _ _ _ us hl => match us, hl with | [_], _ => rfl) (fun vs H Q E h => ?_) (fun f cdv A outer s H vs Q E hr h => ?_)
  · obtain ⟨_, _, rfl, _⟩ := h; rfl
  obtain ⟨a, cs, rfl, ha, k⟩ := h
  refine ⟨_, (pss_cons (ps_set (i := 1) sc_law.nd rfl (Or.inl rfl) (c_l_open.call (hr.mono (by decide)) (by rfl) (pa_cons (pv 0) pa_nil)))
      (pss_cons (ps_set (i := 2) sc_law.nd rfl (Or.inl rfl) (c_l_ground.call (hr.mono (by decide)) (by rfl) (pa_cons (pv 1) (pa_cons pe_int pa_nil))))
      (pss_cons (ps_set (i := 3) sc_law.nd rfl (Or.inl rfl) (c_l_survey.call (hr.mono (by decide)) (by rfl) (pa_cons (pv 2) pa_nil)))
      (pss_cons (ps_set (i := 4) sc_law.nd rfl (Or.inr rfl) (c_adjusted.call (hr.mono (by decide)) (by rfl) (pa_cons (pv 3) pa_nil)))
      (pss_cons (ps_if (PW.pt (pw_or (pt_not (pt_val (pe_callB call_isi (by rfl) U.isinstance (by decide +kernel) (pa_cons (pv 4) (pa_cons (pe_bltn (by rfl) U.dict (by decide +kernel) (show RelV (.ty "dict") _ from rfl)) pa_nil))))) (pw_or1 (pt_not (pt_val (pe_callB (cr_all rfl) (by rfl) U.all (by decide +kernel) (pa_cons (pe_lock (pe_lc (own := [("_law_name", 11)]) (g := (gName 11)) rfl sc_law.nd (pi_keys (pv 4)) (blkOk_by (N := n_law) (sc := defScope s_law) (own := [("_law_name", 11)]) (by decide +kernel)) (fun _ _ _ _ _ => (pg_name (i := 11) sc_law.nd rfl (Or.inl rfl))) (fun _ _ _ _ _ => pts_nil) (fun _ _ _ _ _ => (c_l_is_spot.call (hr.mono (by decide)) (by rfl) (pa_cons (pe_dget (hu_of hr) (pv 4) (pv 11) (fun _ _ => rfl)) pa_nil))))) pa_nil))))))) (pss_one (ps_ret pe_bl)) pss_nil)
      (pss_cons (ps_if (PW.pt (pw_or (pt_not (pt_val (c_l_balanced.call (hr.mono (by decide)) (by rfl) (pa_cons (pv 2) (pa_cons (pv 4) pa_nil))))) (pw_or1 (pt_not (pt_val (c_l_told_right.call (hr.mono (by decide)) (by rfl) (pa_cons (pv 2) (pa_cons (pv 3) (pa_cons (pv 4) pa_nil))))))))) (pss_one (ps_ret pe_bl)) pss_nil)
      (pss_cons (ps_set (i := 5) sc_law.nd rfl (Or.inl rfl) (c_l_copy.call (hr.mono (by decide)) (by rfl) (pa_cons (pv 4) pa_nil)))
      (pss_cons (ps_if (PW.pt (pw_or (pt_cmpR op_notBl (c_balanced.call (hr.mono (by decide)) (by rfl) (pa_cons (pv 3) (pa_cons (pv 4) pa_nil))) pe_bl (nomark _)) (pw_or1 (pt_cmpR (op_neDR hr.units0) (pv 4) (pv 5) (nomark _))))) (pss_one (ps_ret pe_bl)) pss_nil)
      (pss_cons (ps_for PassesOwn.never rfl (pi_range1 (by rfl) U.range (pa_cons pe_int pa_nil)) (pg_name (i := 6) sc_law.nd rfl (Or.inl rfl)) (pss_cons (ps_asg (c_l_bent.call (hr.mono (by decide)) (by rfl) (pa_cons (pv 1) (pa_cons (pv 2) (pa_cons (pv 4) pa_nil)))) (pg_tup rfl (pgs_cons (pg_name (i := 7) sc_law.nd rfl (Or.inl rfl)) (pgs_cons (pg_name (i := 8) sc_law.nd rfl (Or.inr rfl)) pgs_nil))))
      (pss_cons (ps_set (i := 9) sc_law.nd rfl (Or.inl rfl) (pe_callB (cr_any rfl) (by rfl) U.any (by decide +kernel) (pa_cons (pe_lock (pe_lc (own := [("_law_name", 11)]) (g := (gName 11)) rfl sc_law.nd (pi_keys (pv 8)) (blkOk_by (N := n_law) (sc := defScope s_law) (own := [("_law_name", 11)]) (by decide +kernel)) (fun _ _ _ _ _ => (pg_name (i := 11) sc_law.nd rfl (Or.inl rfl))) (fun _ _ _ _ _ => pts_nil) (fun _ _ _ _ _ => (pe_cmpR (op_neDK (K := K) hr.units rfl) (pe_dget (hu_of hr) (pv 8) (pv 11) (fun _ _ => rfl)) (pe_tup (pa_cons (pe_tup (pa_cons pe_int (pa_cons pe_int pa_nil))) (pa_cons (pe_tup (pa_cons pe_int (pa_cons pe_int pa_nil))) pa_nil))) (nomark _))))) pa_nil)))
      (pss_cons (ps_if (PW.pt (pw_or (pt_cmpR op_ne (c_balanced.call (hr.mono (by decide)) (by rfl) (pa_cons (pv 3) (pa_cons (pv 7) pa_nil))) (pe_not (pv 9)) (nomark _)) (pw_or1 (pt_not (pt_val (c_l_told_right.call (hr.mono (by decide)) (by rfl) (pa_cons (pv 2) (pa_cons (pv 3) (pa_cons (pv 7) pa_nil))))))))) (pss_one (ps_ret pe_bl)) pss_nil)
      (pss_cons (ps_set (i := 10) sc_law.nd rfl (Or.inl rfl) (c_l_add.call (hr.mono (by decide)) (by rfl) (pa_cons (c_l_cost.call (hr.mono (by decide)) (by rfl) (pa_cons (pv 4) (pa_cons (pe_dget (hu_of hr) (pv 2) pe_str (fun _ _ => rfl)) pa_nil))) (pa_cons (c_l_excess.call (hr.mono (by decide)) (by rfl) (pa_cons (pv 2) (pa_cons (pv 8) pa_nil))) pa_nil))))
      (pss_one (ps_if (pt_not (pt_val (c_like_R.call (hr.mono (by decide)) (by rfl) (pa_cons (c_cost.call (hr.mono (by decide)) (by rfl) (pa_cons (pv 3) (pa_cons (pv 7) pa_nil))) (pa_cons (pv 10) pa_nil))))) (pss_one (ps_ret pe_bl)) pss_nil)))))))
      (pss_cons (ps_set (i := 7) sc_law.nd rfl (Or.inl rfl) (pe_callTy call_dictD (by rfl) U.dict (by decide +kernel) (pa_cons (pv 4) pa_nil)))
      (pss_cons (ps_for PassesOwn.never rfl (pi_list (pe_slice sl_list (pe_callB (call_sortedD rfl) (by rfl) U.sorted (by decide +kernel) (pa_cons (pv 4) pa_nil)) po_none (po_some pe_int))) (pg_name (i := 11) sc_law.nd rfl (Or.inl rfl)) (pss_cons (ps_expr (pe_dpop1 (pv 7) (pv 11) ⟨rfl, rfl, rfl, rfl⟩))
      (pss_one (ps_if (PW.pt (pw_or (pt_cmpR op_notBl (c_balanced.call (hr.mono (by decide)) (by rfl) (pa_cons (pv 3) (pa_cons (pv 7) pa_nil))) pe_bl (nomark _)) (pw_or1 (pt_not (pt_val (c_l_told_right.call (hr.mono (by decide)) (by rfl) (pa_cons (pv 2) (pa_cons (pv 3) (pa_cons (pv 7) pa_nil))))))))) (pss_one (ps_ret pe_bl)) pss_nil))))
      (pss_cons (ps_set (i := 7) sc_law.nd rfl (Or.inl rfl) (pe_callTy call_dictD (by rfl) U.dict (by decide +kernel) (pa_cons (pv 4) pa_nil)))
      (pss_cons (ps_dput (hu_of hr) (pv 7) pe_str (pe_tup (pa_cons (pe_tup (pa_cons pe_int (pa_cons pe_int pa_nil))) (pa_cons (pe_tup (pa_cons pe_int (pa_cons pe_int pa_nil))) pa_nil))) rfl)
      (pss_cons (ps_expr (pe_dclear (pv 4)))
      (pss_one (ps_ret (pe_and (pe_cmpR op_isBl (c_balanced.call (hr.mono (by decide)) (by rfl) (pa_cons (pv 3) (pa_cons (pv 7) pa_nil))) pe_bl (nomark _)) (pe_one (c_like_P.call (hr.mono (by decide)) (by rfl) (pa_cons (c_adjusted.call (hr.mono (by decide)) (by rfl) (pa_cons (pv 3) pa_nil)) (pa_cons (pv 5) pa_nil))))))))))))))))))))), ?_⟩
  refine st_seq ⟨_, rfl, a, cs, rfl, ha, fun d l H1 e1 hd => ?_⟩
  dsimp only
  refine st_set (E := ED d l (cs.take 63)) (R := fun v H => ∃ W : Wd, W.Ok ∧ WwV K W v H) (ev_D (α := Unit) () (ev_var rfl) (ea_cons (R := Is (.int 8)) ev_c ea_nil) ?_) (ED.refl hd) ?_
  · rintro vs H' _ ⟨v, r, rfl, hv, rfl⟩
    rw [show v = _ from hv]
  rintro vw H2 e2 ⟨W, ok, hw⟩
  have hd2 := e2.b
  refine st_set (E := Same) (R := SurV K C W) (ev_G (α := Wd) W (ea_cons (R := WwV K W) (ev_varR rfl hw) ea_nil) ?_) (Same.refl _) fun vs3 H3 e3 hs3 => ?_
  · rintro vs H' _ ⟨v, r, rfl, hv, rfl⟩
    exact ⟨⟨v, rfl, hv⟩, ok⟩
  have hw3 : WwV K W vw H3 := MonE.mono e3 hw
  refine st_setN (en_N (α := Wd) W (ea_cons (R := SurV K C W) (ev_varR rfl hs3) ea_nil) ?_) ?_
  · rintro vs H' _ ⟨v, r, rfl, hv, rfl⟩
    exact ⟨⟨v, rfl, hv⟩, ok⟩
  rintro dP H4 e4 nP ⟨pl, adj, _, kvs, ep, hdP, hkP⟩
  cases ep
  have ko := adj.ko ok
  have plb := adj.plb
  have po := plb.ok
  have hw4 : WwV K W vw H4 := MonE.mono e4 hw3
  have hs4 := MonW.mono (R := SurV K C W) e4.wk hs3
  have hP4 : ∀ {H' : Hp}, Same H4 H' → PlX K pl (.ref dP) H' := fun {H'} e => ⟨dP, kvs, rfl, e _ _ hdP, hkP.mono e.tp⟩
  have kq := hkP.length
  have l64 : pl.length < 64 := by have := ko.len; omega
  have smP : ∀ x ∈ pl, Sm x.2.1 ∧ Sm x.2.2 := by
    obtain ⟨D, D0, D1, hN⟩ := po
    exact fun x hx => ⟨sm_of (hN x hx).1 D0 D1 (by decide), sm_of (hN x hx).2 D0 D1 (by decide)⟩
  refine st_skip (E := Same) (EvT.is (et_or (b := false) (et_not (et_B (ev_isi (a := "dict") (b := true) (R := PlX K pl) (ev_varR rfl (hP4 (Same.refl _))) (fun v H1 ⟨d, kk, e, h, _⟩ => tyD ⟨d, kk, e, .inl h⟩) (by decide +kernel)))) fun _ => et_not (et_B (ev_allT (Eva.imp (R := TrV) (ev_lockE hdP fun H3 od e3 hD3 => ?_) fun v H3 _ h => h)))) rfl) (Same.refl _) fun H5 e5 => ?_
  · have wl : Wk H3 (upd H3 dP (.frz od (.dK kvs))) := Wk.lock hD3
    have fz : (upd H3 dP (.frz od (.dK kvs))) dP = some (.frz od (.dK kvs)) := upd_same
    have hk3 : Dc kS (SpV K) pl kvs (upd H3 dP (.frz od (.dK kvs))) := hkP.mono (fun a xs h => wl.tup _ _ (e3.tp _ _ h))
    generalize upd H3 dP (.frz od (.dK kvs)) = H6 at fz hk3
    refine Eva.imp (ev_lc (E := Same) (n := kvs.length) (b := fun _ => true) (R := fun _ => Is (.bl true)) (ei_keys (ev_var rfl) fz) (by omega) ?_) fun v H5 _ ⟨L, ys, ev, hL, hys, _⟩ => ⟨L, ys, _, ev, hL, hys⟩
    rintro i x H' hi e ⟨kk, vv, hk, rfl⟩
    obtain ⟨⟨n, s'⟩, hn, rk, hv, _⟩ := pget hk3 hk
    have rk : kk = kS n := rk
    subst rk
    have hmem : n ∈ pl.map (·.1) := List.mem_map.mpr ⟨_, List.mem_of_getElem? hn, rfl⟩
    obtain ⟨x1, va, hx1, _, hva, hra, hf1⟩ := hk3.has inr_inj hmem
    refine ⟨_, tg_name, rfl, fun H5 e5 Q q => q H5 (Same.refl _), fun _ => ?_⟩
    refine ev_G (α := Rat × Rat) x1.2 (ea_cons (R := Is va) (ev_dget (k := kS n) (ev_var rfl) (.inr ⟨od, e _ _ fz⟩) (ev_var rfl) hva) ea_nil) ?_
    rintro vs H5 e5 ⟨_, _, rfl, rfl, rfl⟩
    exact ⟨⟨_, rfl, MonT.mono (e.trans e5).tp hra⟩, smP _ hx1⟩
  have bt : balF W pl = true := adj_bal ok adj
  refine st_skip (E := Same) (EvT.is (et_or (b := false) (et_not (EvT.is (et_B (ev_lbal (ev_varR rfl (MonE.mono e5 hw4)) (ev_varR rfl (hP4 e5)) ok po ko)) bt)) fun _ => et_not (et_B (ev_told (ev_varR rfl (MonE.mono e5 hw4)) (ev_varR rfl (MonW.mono (R := SurV K C W) e5.wk hs4)) (ev_varR rfl (hP4 e5)) ok po))) rfl) (Same.refl _) fun H6 e6 => ?_
  have e46 := e5.trans e6
  have hV6 : H6 dP = some (.dK kvs) := e46 _ _ hdP
  refine st_setN (en_N (α := PlL × Addr × List (Key × V)) (pl, dP, kvs) (ea_cons (R := Is (.ref dP)) (ev_var rfl) ea_nil) ?_) ?_
  · rintro vs H' e ⟨v, r, rfl, rfl, rfl⟩
    exact ⟨rfl, e _ _ hV6, hkP.mono (e46.trans e).tp, ko⟩
  rintro dL H7 e7 nL ⟨d', ed, hdL⟩
  cases ed
  have e47 := e46.trans e7
  have kmP : kvs.map (·.1) = (pl.map (·.1)).map Sum.inr := by rw [hkP.keys, List.map_map]; rfl
  have ndk : (kvs.map (·.1)).Nodup := by
    rw [kmP]; exact List.pairwise_map.mpr (ko.nd.imp fun h z => h (inr_inj _ _ z))
  refine st_skip (E := Same) (EvT.is (et_or (b := false) (EvT.is (et_test (ev_notB (b := true) (ev_bal (ev_varR rfl (MonW.mono (R := SurV K C W) e47.wk hs4)) (ev_varR rfl (hP4 e47)) ok po ko) ev_c)) (by rw [bt])) fun _ => et_test (ev_neDR (ev_var rfl) (ev_var rfl) (e47 _ _ hdP) hdL rfl fun p hp => ⟨valV_mem ndk hp, dc_refs hkP p hp⟩)) rfl) (Same.refl _) fun H8 e8 => ?_
  have e48 := e47.trans e8
  have hL8 : H8 dL = some (.dK kvs) := e8 _ _ hdL
  have nd2 : ∀ {H' : Hp}, DrOk d l (cs.take 63) H' → H' dP = some (.dK kvs) → dP ≠ d := fun {H'} g h z => by
    obtain ⟨xs, hx⟩ := g.lst
    rw [z, hx] at h
    cases h
  have hd8 : DrOk d l (cs.take 63) H8 := (hd2.same e3).same (e4.trans e48)
  refine st_seq (st_forR1 (n := 3) ev_c (by decide) fun H9 e9 => ?_)
  have hs9 := MonW.mono (R := SurV K C W) (e48.trans e9).wk hs4
  have hw9 : WwV K W vw H9 := MonE.mono (e48.trans e9) hw4
  refine ⟨fun i σ H => ∃ o6 o7 o8 o9 o10 o11, σ = [some (.ref a), some (.ref d), some vw, some vs3, some (.ref dP), some (.ref dL), o6, o7, o8, o9, o10, o11] ∧ DrOk d l (cs.take 63) H ∧ WwV K W vw H ∧ SurV K C W vs3 H ∧ H dP = some (.dK kvs) ∧ H dL = some (.dK kvs) ∧ Dc kS (SpV K) pl kvs H ∧ Wk H3 H, ?_, ?_, ?_⟩
  · exact ⟨none, none, none, none, none, none, rfl, hd8.same e9, hw9, hs9, (e48.trans e9) _ _ hdP, e9 _ _ hL8, hkP.mono (e48.trans e9).tp, (e4.trans (e48.trans e9)).wk⟩
  · rintro i σ H10 hi ⟨o6, o7, o8, o9, o10, o11, rfl, hd10, hw10, hs10, hP10, hL10, hk10, wk10⟩
    show tSeq _ _ _ _ _
    refine (ev_D (α := Wd × PlL) (d := d) (l := l) (cs := cs.take 63) (W, pl) (ev_var rfl) (ea_cons (R := WwV K W) (ev_varR rfl hw10) (ea_cons (R := PlX K pl) (ev_varR rfl ⟨dP, kvs, rfl, hP10, hk10⟩) ea_nil)) ?_) H10 (ED.refl hd10) _ fun v H11 e11 rv => ?_
    · rintro vs H' _ ⟨v, r, rfl, hv, v', r', rfl, hv', rfl⟩
      exact ⟨⟨v, v', rfl, hv, hv'⟩, ok, plb, ko, fun m hm => (Wd.hung_mem.mp (by rw [← adj.keys]; exact hm)).1⟩
    obtain ⟨sf, sh, dO, dS, ht, ⟨dO', kO, eO, hdO, hkO⟩, ⟨dS', kS', eS, hdS, hkS⟩⟩ := rv
    cases eO
    cases eS
    refine tg_tup (σ2 := [some (.ref a), some (.ref d), some vw, some vs3, some (.ref dP), some (.ref dL), some (.int (i : Int)), some (.ref dO), some (.ref dS), o9, o10, o11]) ht rfl (fun Q q => ⟨_, _, rfl, _, _, rfl, rfl, q⟩) _ ?_
    have hd11 := e11.b
    have hw11 : WwV K W vw H11 := MonE.mono e11 hw10
    have hs11 := MonW.mono (R := SurV K C W) (PreE.wk e11) hs10
    have hP11 : H11 dP = some (.dK kvs) := PreE.one e11 (fun _ z => nomatch z) hP10
    have hL11 : H11 dL = some (.dK kvs) := PreE.one e11 (fun _ z => nomatch z) hL10
    have hk11 : Dc kS (SpV K) pl kvs H11 := hk10.mono (PreE.wk e11).tup
    have hkO : Dc kS (SpV K) (othL pl sf) kO H11 := hkO
    have hkS : Dc kS (SpV K) (shL pl sf) kS' H11 := hkS
    have lS : kS'.length = pl.length := by rw [hkS.length]; exact List.length_map _
    refine st_set (E := Same) (R := Is (.bl ((shL pl sf).any fun x => !decide (x.2 = ((0 : Rat), (0 : Rat)))))) (Eva.is (ev_anyB (bs := (List.range kS'.length).map fun j => !decide (((shL pl sf).getD j default).2 = ((0 : Rat), (0 : Rat)))) (Eva.imp (R := LstV (((List.range kS'.length).map fun j => !decide (((shL pl sf).getD j default).2 = ((0 : Rat), (0 : Rat)))).map V.bl)) (ev_lockE hdS fun H3 od e3 hD3 => ?_) fun v H3 _ ⟨p, e, h⟩ => ⟨p, e, SqL.of h⟩)) ?_) (Same.refl _) fun v12 H12 e12 r12 => ?_
    · have wl : Wk H3 (upd H3 dS (.frz od (.dK kS'))) := Wk.lock hD3
      have fz : (upd H3 dS (.frz od (.dK kS'))) dS = some (.frz od (.dK kS')) := upd_same
      have hk3 : Dc kS (SpV K) (shL pl sf) kS' (upd H3 dS (.frz od (.dK kS'))) := hkS.mono (fun a xs h => wl.tup _ _ (e3.tp _ _ h))
      generalize upd H3 dS (.frz od (.dK kS')) = H6 at fz hk3
      refine Eva.imp (ev_lc (E := Same) (n := kS'.length) (b := fun _ => true) (R := fun j => Is (.bl (!decide (((shL pl sf).getD j default).2 = ((0 : Rat), (0 : Rat)))))) (ei_keys (ev_var rfl) fz) (by omega) ?_) fun v H5 _ ⟨L, ys, ev, hL, hys, _⟩ => ⟨L, ev, by rw [hL, boolsP hys, List.filter_eq_self.mpr (fun _ _ => rfl)]⟩
      rintro j x H' hj e ⟨kk, vv, hk, rfl⟩
      obtain ⟨⟨n, s'⟩, hn, rk, hrs⟩ := pget hk3 hk
      have rk : kk = kS n := rk
      subst rk
      have hrs : SpV K s' vv H6 := hrs
      have ndS : (kS'.map (·.1)).Nodup := by
        have ee : kS'.map (·.1) = ((shL pl sf).map (·.1)).map Sum.inr := by rw [hk3.keys, List.map_map]; rfl
        rw [ee, keys_sh]
        exact List.pairwise_map.mpr (ko.nd.imp fun h z => h (inr_inj _ _ z))
      have hva := valV_mem ndS (List.mem_of_getElem? hk)
      refine ⟨_, tg_name, rfl, fun H5 e5 Q q => q H5 (Same.refl _), fun _ => ?_⟩
      rw [List.getD_eq_getElem?_getD, hn]
      refine Eva.is (ev_neD (R := SpV K s') (S := SpV K ((0 : Rat), (0 : Rat))) (Eva.imp (ev_dget (k := kS n) (ev_var rfl) (.inr ⟨od, e _ _ fz⟩) (ev_var rfl) hva) fun v' H7 e7 r => by rw [show v' = vv from r]; exact MonT.mono (e.trans e7).tp hrs) (ev_newspot (Eva.imp ev_lit2 fun v H7 _ h => h) (Eva.imp ev_lit2 fun v H7 _ h => h)) (fun _ _ => dp_S) (fun _ _ => dp_S) (sh_S _) (sh_S _)) ?_
      rw [eqv_S]; rfl
    · rw [any_range (l := shL pl sf) (p := fun x => !decide (x.2 = ((0 : Rat), (0 : Rat)))) hkS.length (fun j x hx => by rw [List.getD_eq_getElem?_getD, hx]; rfl)]
    have poO : PlOk (othL pl sf) := othL_ok plb sh.q
    have poS : PlOk (shL pl sf) := shL_ok plb sh.q
    have koO : KeysOk (othL pl sf) := ⟨by rw [keys_oth]; exact ko.nd, by rw [keys_oth]; exact ko.so, by have := ko.len; unfold othL; rw [List.length_map]; exact this⟩
    have bo := bal_oth ok adj sh
    rw [show v12 = _ from r12]
    have hO12 : PlX K (othL pl sf) (.ref dO) H12 := ⟨dO, kO, rfl, e12 _ _ hdO, hkO.mono e12.tp⟩
    have hw12 : WwV K W vw H12 := MonE.mono e12 hw11
    have hs12 := MonW.mono (R := SurV K C W) e12.wk hs11
    refine st_skip (E := Same) (EvT.is (et_or (b := false) (EvT.is (et_test (ev_ne (x := .bl (balF W (othL pl sf))) (ev_bal (ev_varR rfl hs12) (ev_varR rfl hO12) ok poO koO) (ev_notV (ev_var rfl)) rfl)) (by rw [bo, decide_eq_true rfl]; try rfl)) fun _ => et_not (et_B (ev_told (ev_varR rfl hw12) (ev_varR rfl hs12) (ev_varR rfl hO12) ok poO))) rfl) (Same.refl _) fun H13 e13 => ?_
    have e1b := e12.trans e13
    have eb := e1b
    have hw13 : WwV K W vw H13 := MonE.mono e1b hw11
    have hs13 := MonW.mono (R := SurV K C W) e1b.wk hs11
    have hP13 : PlV K pl (.ref dP) H13 := DcX.v ⟨dP, kvs, rfl, e1b _ _ hP11, hk11.mono e1b.tp⟩
    have hS13 : PlV K (shL pl sf) (.ref dS) H13 := DcX.v ⟨dS, kS', rfl, e1b _ _ hdS, hkS.mono e1b.tp⟩
    refine st_set (E := Same) (R := Rt K (costF pl W.rds + exF (shL pl sf) W.rds)) (ev_R2 (f := fun x y => x + y) (ev_lcost (ev_varR rfl hP13) (ev_readW rfl hw13) ok po) (ev_G (α := Wd × PlL) (W, shL pl sf) (ea_cons (R := WwV K W) (ev_varR rfl hw13) (ea_cons (R := PlV K (shL pl sf)) (ev_varR rfl hS13) ea_nil)) ?_) (cost_sm ok po) (ex_sm ok poS)) (Same.refl _) fun v14 H14 e14 r14 => ?_
    · rintro vs H' _ ⟨v, r, rfl, hv, v', r', rfl, hv', rfl⟩
      exact ⟨⟨v, v', rfl, hv, hv'⟩, ok, poS⟩
    have e1c := e1b.trans e14
    have hs14 := MonW.mono (R := SurV K C W) e1c.wk hs11
    have hO14 : PlV K (othL pl sf) (.ref dO) H14 := DcX.v ⟨dO, kO, rfl, e1c _ _ hdO, hkO.mono e1c.tp⟩
    rw [← cost_oth ok adj sh] at r14
    refine st_skipL (E := Same) (EvT.is (et_not (et_B (ev_likeR (ev_cost (ev_varR rfl hs14) (ev_varR rfl hO14) ok poO) (ev_varR rfl r14)))) rfl) (Same.refl _) fun H15 e15 => ?_
    have e1d := e1c.trans e15
    exact ⟨_, _, _, _, _, _, rfl, hd11.same e1d, MonE.mono e1d hw11, MonW.mono (R := SurV K C W) e1d.wk hs11, e1d _ _ hP11, e1d _ _ hL11, hk11.mono e1d.tp, (wk10.trans (PreE.wk e11)).trans e1d.wk⟩
  · rintro σ H11 ⟨o6, o7, o8, o9, o10, o11, rfl, hd11, hw11, hs11, hP11, hL11, hk11, wk11⟩
    dsimp only
    have ksr : kvs.map (·.1) = (pl.map (·.1)).map Sum.inr := kmP
    refine st_setN (ev_dictD (ev_var rfl) (.inl hP11)) ?_
    rintro dX H12 e12 nX ⟨dX', ed, hX12⟩
    cases ed
    have hs12 := MonW.mono (R := SurV K C W) e12.wk hs11
    have hw12 : WwV K W vw H12 := MonE.mono e12 hw11
    have hP12 := e12 _ _ hP11
    have hL12 := e12 _ _ hL11
    have hk12 := hk11.mono e12.tp
    refine st_forL (E := Same) (K := K) (R := LstV (((srt (pl.map (·.1))).map V.str).take 1)) (xs := ((srt (pl.map (·.1))).map V.str).take 1) (ev_slice1 (Eva.imp (ev_sortedD (E := Same) (ks := pl.map (·.1)) (ev_var rfl) (.inl hP12) ksr (by rw [List.length_map]; exact l64)) fun v H2 _ ⟨a, ea, ha, _⟩ => ⟨a, ea, ha⟩)) (Same.refl _) ?_
    rintro _ H13 e13 ⟨aS, rfl, hS13⟩
    refine ⟨aS, rfl, SqL.of hS13, fun i σ H => ∃ o, σ = [some (.ref a), some (.ref d), some vw, some vs3, some (.ref dP), some (.ref dL), o6, some (.ref dX), o8, o9, o10, o] ∧ Same H11 H ∧ H aS = some (.lst (((srt (pl.map (·.1))).map V.str).take 1)) ∧ (i = 0 → H dX = some (.dK kvs)), ⟨o11, rfl, e12.trans e13, hS13, fun _ => e13 _ _ hX12⟩, fun i σ H _ ⟨_, _, _, h, _⟩ => SqL.of h, ?_, ?_⟩
    · rintro i x σ H14 hx ⟨o, rfl, e14, hS14, hX⟩
      have hi : i = 0 := by
        have := (List.getElem?_eq_some_iff.mp hx).1
        rw [List.length_take] at this; omega
      subst hi
      have hX14 := hX rfl
      have hx2 : x ∈ (srt (pl.map (·.1))).map V.str := List.mem_of_mem_take (List.mem_of_getElem? hx)
      obtain ⟨m, hm, rfl⟩ := List.mem_map.mp hx2
      have hm : m ∈ pl.map (·.1) := srt_mem.mp hm
      have hk14 : Dc kS (SpV K) pl kvs H14 := hk11.mono e14.tp
      obtain ⟨x1, va, hx1, _, hva, _, _⟩ := hk14.has inr_inj hm
      show tSeq _ _ _ _ _
      refine st_dpop1 (p := dX) (kvs := kvs) (k := kS m) (v := va) (ev_var rfl) (ev_var rfl) hX14 hva fun H15 e15 => ?_
      have e1f : Same H11 (upd H15 dX (.dK (dropK kvs (kS m)))) := Same.mut (e14.trans e15) nX
      have hXf : (upd H15 dX (.dK (dropK kvs (kS m)))) dX = some (.dK (dropK kvs (kS m))) := upd_same
      have hSf : (upd H15 dX (.dK (dropK kvs (kS m)))) aS = some (.lst (((srt (pl.map (·.1))).map V.str).take 1)) := by
        rw [upd_ne (ne_of (e15 _ _ hS14) (e15 _ _ hX14) (fun z => nomatch z))]; exact e15 _ _ hS14
      generalize upd H15 dX (.dK (dropK kvs (kS m))) = H16 at e1f hXf hSf
      have hk16 : Dc kS (SpV K) (dropP pl m) (dropK kvs (kS m)) H16 := dc_drop (hk11.mono e1f.tp)
      have hD16 : PlX K (dropP pl m) (.ref dX) H16 := ⟨dX, _, rfl, hXf, hk16⟩
      have hw16 : WwV K W vw H16 := MonE.mono e1f hw11
      have hs16 := MonW.mono (R := SurV K C W) e1f.wk hs11
      have bd := dropP_bal (W := W) (pl := pl) (m := m) adj.keys hm
      refine st_skipL (E := Same) (EvT.is (et_or (b := false) (EvT.is (et_test (ev_notB (b := false) (ev_bal (ev_varR rfl hs16) (ev_varR rfl hD16) ok (dropP_ok po) (dropP_keys ko)) ev_c)) (by rw [bd])) fun _ => et_not (et_B (ev_told (ev_varR rfl hw16) (ev_varR rfl hs16) (ev_varR rfl hD16) ok (dropP_ok po)))) rfl) (Same.refl _) fun H17 e17 => ?_
      exact ⟨_, rfl, e1f.trans e17, e17 _ _ hSf, fun z => absurd z (Nat.succ_ne_zero 0)⟩
    · rintro σ H14 ⟨o, rfl, e14, _, _⟩
      have hP14 := e14 _ _ hP11
      have hL14 := e14 _ _ hL11
      refine st_setN (ev_dictD (ev_var rfl) (.inl hP14)) ?_
      rintro dY H15 e15 nY ⟨dY', ed, hY15⟩
      cases ed
      have lk20 : kvs.length < sizeLine := Nat.lt_of_le_of_lt (show kvs.length ≤ 64 by omega) (by decide)
      refine st_seq (st_dput (i := 7) (p := dY) (kvs := kvs) (k := kS "zzzzzz") (R := SpV K ((0 : Rat), (0 : Rat))) (ev_newspot (Eva.imp ev_lit2 fun v H7 _ h => h) (Eva.imp ev_lit2 fun v H7 _ h => h)) rfl ev_c hY15 lk20 fun v16 H16 e16 r16 => ?_)
      dsimp only
      rw [putK_new _ (kvs_not hk11 (zz_not ok adj.keys))]
      have e1g : Same H14 (upd H16 dY (.dK (kvs ++ [(kS "zzzzzz", v16)]))) := Same.mut (e15.trans e16) nY
      have hYg : (upd H16 dY (.dK (kvs ++ [(kS "zzzzzz", v16)]))) dY = some (.dK (kvs ++ [(kS "zzzzzz", v16)])) := upd_same
      have hzg : SpV K ((0 : Rat), (0 : Rat)) v16 (upd H16 dY (.dK (kvs ++ [(kS "zzzzzz", v16)]))) := MonT.mono (Tp.putD (e16 _ _ hY15)) r16
      generalize upd H16 dY (.dK (kvs ++ [(kS "zzzzzz", v16)])) = H17 at e1g hYg hzg
      have dYP : dY ≠ dP := fun z => by rw [z, hP14] at nY; cases nY
      have dLP : dL ≠ dP := fun z => by rw [z, hV6] at nL; cases nL
      refine st_dclear (p := dP) (kvs := kvs) (ev_var rfl) (e1g _ _ hP14) fun H18 e18 => ?_
      have e1h : Same H11 H18 := e14.trans (e1g.trans e18)
      have hP18 := e1h _ _ hP11
      have tpf : Tp H18 (upd H18 dP (.dK [])) := Tp.putD hP18
      have wkf : Wk H3 (upd H18 dP (.dK [])) := wk_fresh (wk11.trans e1h.wk) nP
      have hYf : (upd H18 dP (.dK [])) dY = some (.dK (kvs ++ [(kS "zzzzzz", v16)])) := by rw [upd_ne dYP]; exact e18 _ _ hYg
      have hLf : (upd H18 dP (.dK [])) dL = some (.dK kvs) := by rw [upd_ne dLP]; exact e1h _ _ hL11
      have hkf : Dc kS (SpV K) pl kvs (upd H18 dP (.dK [])) := (hk11.mono e1h.tp).mono tpf
      have hzf : SpV K ((0 : Rat), (0 : Rat)) v16 (upd H18 dP (.dK [])) := MonT.mono tpf (MonT.mono e18.tp hzg)
      generalize upd H18 dP (.dK []) = H19 at wkf hYf hLf hkf hzf
      have hs19 : SurV K C W vs3 H19 := MonW.mono wkf hs3
      have hY19 : PlX K (zzP pl) (.ref dY) H19 := ⟨dY, _, rfl, hYf, dc_zz hkf hzf⟩
      have hL19 : PlX K pl (.ref dL) H19 := ⟨dL, _, rfl, hLf, hkf⟩
      have bz := zzP_bal ok adj.keys
      refine st_ret (E := Same) (R := Is (.bl true)) (ev_andV (a := true) (b := true) (Eva.is (ev_isB (b := false) (ev_bal (ev_varR rfl hs19) (ev_varR rfl hY19) ok (zzP_ok po) (zzP_keys ok adj.keys ko)) ev_c) (by rw [bz]; rfl)) fun _ => ?_) (Same.refl _) fun v H20 e20 r => by rw [show v = V.bl true from r]; exact k H20
      refine ev_G (α := PlL) pl (ea_cons (R := PlX K pl) (Eva.imp (EvaN.eva (en_N (α := Wd) W (ea_cons (R := SurV K C W) (ev_varR rfl hs19) ea_nil) ?_)) fun v H5 _ ⟨pl', adj', h⟩ => by rw [adj_uniq ok adj adj']; exact h) (ea_cons (R := PlX K pl) (ev_varR rfl hL19) ea_nil)) ?_
      · rintro vs H' _ ⟨v, r, rfl, hv, rfl⟩
        exact ⟨⟨v, rfl, hv⟩, ok⟩
      · rintro vs H' _ ⟨v, r, rfl, hv, v', r', rfl, hv', rfl⟩
        exact ⟨⟨v, v', rfl, hv, hv'⟩, ko⟩
end
end Gm

set_option maxHeartbeats 4000000
namespace Gm
open PySem PySem.Spec PyProof.Rows L2
/-! ### what the top has written -/
theorem da {K : PySem.W.Frag} {h : Heap} {mg : Str → Option Value} {x : Str} {st : Stmt} {f : Addr} {od an : Option Addr} {sl : Array (Option Value)} {oc kV dc pm cd ct : Value} (X : K.In h) (G : h.Ns mainGlobals mg)
    (a : PySem.W.nsIn K mainGlobals x = some (some (.ref f))) (l : K.lookup f = some ⟨oc, od, .func (PySem.W.fnOf x x (defArgs st) (defBody st) (defScope st) .none kV dc pm an cd ct), sl⟩) (c : PySem.W.codeIn K cd x = true) (k : PySem.W.keepIn K (.ref f) = true) : DefAt K mg x st :=
  ⟨f, _, fun_mk l c k, PySem.W.mg_of X G a⟩
def MethAt (K : PySem.W.Frag) (C : Addr) (x qual : Str) (st : Stmt) : Prop := ∃ f fd, Fun K x qual st f fd ∧ PySem.W.findIn K (.ref C) x = some (some (.ref f)) ∧ PySem.W.isFn K (.ref f) = true ∧ PySem.W.keepIn K (.ref f) = true
theorem ma {K : PySem.W.Frag} {C : Addr} {x qual : Str} {st : Stmt} {f : Addr} {od an : Option Addr} {sl : Array (Option Value)} {oc kV dc pm cd ct : Value}
    (a : PySem.W.findIn K (.ref C) x = some (some (.ref f))) (i : PySem.W.isFn K (.ref f) = true) (l : K.lookup f = some ⟨oc, od, .func (PySem.W.fnOf x qual (defArgs st) (defBody st) (defScope st) .none kV dc pm an cd ct), sl⟩) (c : PySem.W.codeIn K cd qual = true) (k : PySem.W.keepIn K (.ref f) = true) : MethAt K C x qual st :=
  ⟨f, _, fun_mk l c k, a, i, k⟩
structure ClsAt (K : PySem.W.Frag) (mg : Str → Option Value) (C : Addr) : Prop where
  cl : Cls K C
  n1 : NoAttr K C "points"
  n2 : NoAttr K C "book"
  n3 : NoAttr K C "heads"
  n4 : NoAttr K C "ground"
  made : PySem.W.makesIn K C = true
  kp : PySem.W.keepIn K (.ref C) = true
  mg : mg "Survey" = some (.ref C)
  m0 : MethAt K C "__init__" "Survey.__init__" s_Survey_init
  m1 : MethAt K C "marks" "Survey.marks" s_Survey_marks
  m2 : MethAt K C "readings" "Survey.readings" s_Survey_readings
  m3 : MethAt K C "names" "Survey.names" s_Survey_names
  m4 : MethAt K C "hangs" "Survey.hangs" s_Survey_hangs
theorem ca {K : PySem.W.Frag} {h : Heap} {mg : Str → Option Value} {C : Addr} (X : K.In h) (G : h.Ns mainGlobals mg) (a : PySem.W.nsIn K mainGlobals "Survey" = some (some (.ref C)))
    (pg : PySem.W.plainGet K C Str.empty = true) (hd : PySem.W.hasDictIn K C = true) (po : PySem.W.plainOver K C = true) (sa : PySem.W.findIn K (.ref C) "__setattr__" = some (some (.builtin "object.__setattr__"))) (mk : PySem.W.makesIn K C = true) (kp : PySem.W.keepIn K (.ref C) = true)
    (n1 : PySem.W.findIn K (.ref C) "points" = some none) (n2 : PySem.W.findIn K (.ref C) "book" = some none) (n3 : PySem.W.findIn K (.ref C) "heads" = some none) (n4 : PySem.W.findIn K (.ref C) "ground" = some none)
    (m0 : MethAt K C "__init__" "Survey.__init__" s_Survey_init) (m1 : MethAt K C "marks" "Survey.marks" s_Survey_marks) (m2 : MethAt K C "readings" "Survey.readings" s_Survey_readings) (m3 : MethAt K C "names" "Survey.names" s_Survey_names) (m4 : MethAt K C "hangs" "Survey.hangs" s_Survey_hangs) : ∃ C, ClsAt K mg C :=
  ⟨C, ⟨pg, hd, po, sa⟩, n1, n2, n3, n4, mk, kp, PySem.W.mg_of X G a, m0, m1, m2, m3, m4⟩
theorem ua {K : PySem.W.Frag} {h : Heap} {mg : Str → Option Value} {aN : Addr} {odN : Option Addr} {slN : Array (Option Value)} {tM tW tL t0 t1 : _} {its : Array Value} {nN : Nat} (X : K.In h) (G : h.Ns mainGlobals mg) (z_abs : PySem.W.nsIn K mainGlobals "abs" = some none) (z_len : PySem.W.nsIn K mainGlobals "len" = some none) (z_range : PySem.W.nsIn K mainGlobals "range" = some none) (z_sorted : PySem.W.nsIn K mainGlobals "sorted" = some none) (z_list : PySem.W.nsIn K mainGlobals "list" = some none) (z_tuple : PySem.W.nsIn K mainGlobals "tuple" = some none) (z_dict : PySem.W.nsIn K mainGlobals "dict" = some none) (z_isinstance : PySem.W.nsIn K mainGlobals "isinstance" = some none) (z_int : PySem.W.nsIn K mainGlobals "int" = some none) (z_bool : PySem.W.nsIn K mainGlobals "bool" = some none) (z_str : PySem.W.nsIn K mainGlobals "str" = some none) (z_enumerate : PySem.W.nsIn K mainGlobals "enumerate" = some none) (z_zip : PySem.W.nsIn K mainGlobals "zip" = some none) (z_all : PySem.W.nsIn K mainGlobals "all" = some none) (z_any : PySem.W.nsIn K mainGlobals "any" = some none)
    (aN' : PySem.W.nsIn K mainGlobals "NOUGHT" = some (some (.ref aN))) (lN : K.lookup aN = some ⟨.type "tuple", odN, .seq its nN, slN⟩) (iN : its.toList = [.int 0 t0, .int 1 t1])
    (aM : PySem.W.nsIn K mainGlobals "MOST" = some (some (.int 999 tM))) (aW : PySem.W.nsIn K mainGlobals "WEIGHTS" = some (some (.int 9 tW))) (aL : PySem.W.nsIn K mainGlobals "LETTERS" = some (some (.str "abcdefghijklmnopqrstuvwxyz" tL))) :
    ∃ (aN : Addr) (uM uW uL : Value), Uni K mg aN uM uW uL :=
  ⟨aN, .int 999 tM, .int 9 tW, .str "abcdefghijklmnopqrstuvwxyz" tL, {
    abs := PySem.W.mg_none_of X G z_abs, len := PySem.W.mg_none_of X G z_len, range := PySem.W.mg_none_of X G z_range, sorted := PySem.W.mg_none_of X G z_sorted, list := PySem.W.mg_none_of X G z_list, tuple := PySem.W.mg_none_of X G z_tuple, dict := PySem.W.mg_none_of X G z_dict, isinstance := PySem.W.mg_none_of X G z_isinstance, int := PySem.W.mg_none_of X G z_int, bool := PySem.W.mg_none_of X G z_bool, str := PySem.W.mg_none_of X G z_str, enumerate := PySem.W.mg_none_of X G z_enumerate, zip := PySem.W.mg_none_of X G z_zip, all := PySem.W.mg_none_of X G z_all, any := PySem.W.mg_none_of X G z_any,
    gNOUGHT := PySem.W.mg_of X G aN', rNOUGHT := rfl, tN := fun H => .inr ⟨_, its, nN, lN, rfl, rfl, by rw [← Array.length_toList, iN]; show 2 ≤ sizeLine; decide, by rw [iN]; exact .cons ⟨_, rfl⟩ (.cons ⟨_, rfl⟩ .nil)⟩,
    gMOST := PySem.W.mg_of X G aM, rMOST := ⟨_, rfl⟩, gWEIGHTS := PySem.W.mg_of X G aW, rWEIGHTS := ⟨_, rfl⟩, gLETTERS := PySem.W.mg_of X G aL, rLETTERS := ⟨_, rfl⟩ }⟩
theorem all_mk {P : Program} {w : World} {K : PySem.W.Frag} {h : Heap} {mg : Str → Option Value} {fa : Addr} (X : K.In h) (G : h.Ns mainGlobals mg) (hfa : mg "law" = some (.ref fa))
    (UU : ∃ (aN : Addr) (uM uW uL : Value), Uni K mg aN uM uW uL) (CC : ∃ C, ClsAt K mg C)
    (D_common : DefAt K mg "common" s_common)
    (D_ratio : DefAt K mg "ratio" s_ratio)
    (D_whole : DefAt K mg "whole" s_whole)
    (D_plus : DefAt K mg "plus" s_plus)
    (D_minus : DefAt K mg "minus" s_minus)
    (D_times : DefAt K mg "times" s_times)
    (D_divided : DefAt K mg "divided" s_divided)
    (D_total : DefAt K mg "total" s_total)
    (D_is_number : DefAt K mg "is_number" s_is_number)
    (D_need_name : DefAt K mg "need_name" s_need_name)
    (D_need_number : DefAt K mg "need_number" s_need_number)
    (D_need_at : DefAt K mg "need_at" s_need_at)
    (D_need_reading : DefAt K mg "need_reading" s_need_reading)
    (D_need_sizes : DefAt K mg "need_sizes" s_need_sizes)
    (D_tied : DefAt K mg "tied" s_tied)
    (D_free_marks : DefAt K mg "free_marks" s_free_marks)
    (D_sums_of : DefAt K mg "sums_of" s_sums_of)
    (D_taken_off : DefAt K mg "taken_off" s_taken_off)
    (D_solved : DefAt K mg "solved" s_solved)
    (D_placed_way : DefAt K mg "placed_way" s_placed_way)
    (D_adjusted : DefAt K mg "adjusted" s_adjusted)
    (D_rest_of : DefAt K mg "rest_of" s_rest_of)
    (D_rests : DefAt K mg "rests" s_rests)
    (D_cost : DefAt K mg "cost" s_cost)
    (D_uncancelled : DefAt K mg "uncancelled" s_uncancelled)
    (D_balanced : DefAt K mg "balanced" s_balanced)
    (D_l_open : DefAt K mg "_law_open" s_l_open)
    (D_l_pull : DefAt K mg "_law_pull" s_l_pull)
    (D_l_any : DefAt K mg "_law_any" s_l_any)
    (D_l_num : DefAt K mg "_law_num" s_l_num)
    (D_l_like : DefAt K mg "_law_like" s_l_like)
    (D_l_copy : DefAt K mg "_law_copy" s_l_copy)
    (D_l_mixed : DefAt K mg "_law_mixed" s_l_mixed)
    (D_l_low : DefAt K mg "_law_low" s_l_low)
    (D_l_add : DefAt K mg "_law_add" s_l_add)
    (D_l_sub : DefAt K mg "_law_sub" s_l_sub)
    (D_l_mul : DefAt K mg "_law_mul" s_l_mul)
    (D_l_names : DefAt K mg "_law_names" s_l_names)
    (D_l_reading : DefAt K mg "_law_reading" s_l_reading)
    (D_l_marks : DefAt K mg "_law_marks" s_l_marks)
    (D_l_readings : DefAt K mg "_law_readings" s_l_readings)
    (D_l_ground : DefAt K mg "_law_ground" s_l_ground)
    (D_l_survey : DefAt K mg "_law_survey" s_l_survey)
    (D_l_hung : DefAt K mg "_law_hung" s_l_hung)
    (D_l_is_ratio : DefAt K mg "_law_is_ratio" s_l_is_ratio)
    (D_l_is_spot : DefAt K mg "_law_is_spot" s_l_is_spot)
    (D_l_rest : DefAt K mg "_law_rest" s_l_rest)
    (D_l_rests : DefAt K mg "_law_rests" s_l_rests)
    (D_l_cost : DefAt K mg "_law_cost" s_l_cost)
    (D_l_balanced : DefAt K mg "_law_balanced" s_l_balanced)
    (D_l_share : DefAt K mg "_law_share" s_l_share)
    (D_l_excess : DefAt K mg "_law_excess" s_l_excess)
    (D_l_bent : DefAt K mg "_law_bent" s_l_bent)
    (D_l_told_right : DefAt K mg "_law_told_right" s_l_told_right)
    (D_law : DefAt K mg "law" s_law) :
    ∃ fd : FuncData, (∀ (s : Shared) (v : Value), BindsTo s fd ⟨[v], []⟩ [("_law_script", v)]) ∧ ∀ base : Heap, K.In base → base.Ns mainGlobals mg → FnOk P w K mg base CX0 8 fa fd ["_law_script"] (spLaw K) := by
  obtain ⟨aN, uM, uW, uL, U⟩ := UU
  obtain ⟨C, T⟩ := CC
  obtain ⟨fI, fdI, F0, a0, i0, k0⟩ := T.m0
  obtain ⟨fM, fdM, F1, a1, i1, k1⟩ := T.m1
  obtain ⟨fR, fdR, F2, a2, i2, k2⟩ := T.m2
  obtain ⟨fN, fdN, F3, a3, i3, k3⟩ := T.m3
  obtain ⟨fH, fdH, F4, a4, i4, k4⟩ := T.m4
  obtain ⟨fL, fdL, FL, mL⟩ := D_law
  have e := hfa.symm.trans mL
  cases e
  have M : SurM K mg C fI fM fR fN fH := ⟨T.cl, T.n1, T.n2, T.n3, T.n4, ⟨T.made, a0, i0, T.kp⟩, T.mg, ⟨a1, i1, k1⟩, ⟨a2, i2, k2⟩, ⟨a3, i3, k3⟩, ⟨a4, i4, k4⟩⟩
  have FB := FL
  obtain ⟨⟨oc, od, kV, doc, pm, an, cdv, ct, osl, rfl, _⟩, _⟩ := FB
  refine ⟨PySem.W.fnOf "law" "law" (defArgs s_law) (defBody s_law) (defScope s_law) .none kV doc pm an cdv ct, fun s v => .of_eq rfl, fun base _ _ => ?_⟩
  have c_common := ok_common (P := P) (w := w) (base := base) D_common U
  have c_ratio := ok_ratio (P := P) (w := w) (base := base) D_ratio c_common
  have c_whole := ok_whole (P := P) (w := w) (base := base) D_whole
  have c_plus := ok_plus (P := P) (w := w) (base := base) D_plus c_ratio
  have c_minus := ok_minus (P := P) (w := w) (base := base) D_minus c_ratio
  have c_times := ok_times (P := P) (w := w) (base := base) D_times c_ratio
  have c_divided := ok_divided (P := P) (w := w) (base := base) D_divided c_ratio
  have c_total := ok_total (P := P) (w := w) (base := base) D_total U c_plus
  have c_m := ok_marks (P := P) (w := w) (base := base) F1 U M
  have c_r := ok_readings (P := P) (w := w) (base := base) F2 U M
  have c_n := ok_names (P := P) (w := w) (base := base) F3 U M
  have c_h := ok_hangs (P := P) (w := w) (base := base) F4 M
  have Z : Mts P w K mg base C fI fM fR fN fH fdM fdR fdN fdH := ⟨M, c_m, c_r, c_n, c_h⟩
  have c_is_number := ok_is_number (P := P) (w := w) (base := base) D_is_number U
  have c_l_num := ok_l_num (P := P) (w := w) (base := base) D_l_num U
  have c_need_number := ok_need_number (P := P) (w := w) (base := base) D_need_number c_is_number
  have c_need_name := ok_need_name (P := P) (w := w) (base := base) D_need_name U
  have c_need_at := ok_need_at (P := P) (w := w) (base := base) D_need_at U c_need_number
  have c_need_sizes := ok_need_sizes (P := P) (w := w) (base := base) D_need_sizes U c_need_number
  have c_need_reading := ok_need_reading (P := P) (w := w) (base := base) D_need_reading c_need_sizes
  have c_tied := ok_tied (P := P) (w := w) (base := base) D_tied U
  have c_Survey_init := ok_init (P := P) (w := w) (base := base) F0 U M c_need_name c_need_at c_need_reading c_tied
  have c_free_marks := ok_free_marks (P := P) (w := w) (base := base) D_free_marks Z
  have c_rest_of := ok_rest_of (P := P) (w := w) (base := base) D_rest_of c_minus c_whole
  have c_rests := ok_rests (P := P) (w := w) (base := base) D_rests Z c_rest_of
  have c_l_low := ok_l_low (P := P) (w := w) (base := base) D_l_low U
  have c_l_add := ok_l_add (P := P) (w := w) (base := base) D_l_add c_l_low
  have c_l_sub := ok_l_sub (P := P) (w := w) (base := base) D_l_sub c_l_low
  have c_l_mul := ok_l_mul (P := P) (w := w) (base := base) D_l_mul c_l_low
  have c_l_is_ratio := ok_l_is_ratio (P := P) (w := w) (base := base) D_l_is_ratio U c_l_num c_l_low
  have c_l_is_spot := ok_l_is_spot (P := P) (w := w) (base := base) D_l_is_spot U c_l_is_ratio
  have c_cost := ok_cost (P := P) (w := w) (base := base) D_cost U Z c_rests c_times c_plus c_whole c_total
  have c_l_rest := ok_l_rest (P := P) (w := w) (base := base) D_l_rest U c_l_sub
  have c_l_rests := ok_l_rests (P := P) (w := w) (base := base) D_l_rests c_l_rest
  have c_uncancelled := ok_uncancelled (P := P) (w := w) (base := base) D_uncancelled U Z c_rests c_times c_plus c_minus c_whole
  have c_balanced := ok_balanced (P := P) (w := w) (base := base) D_balanced U Z c_uncancelled c_free_marks c_whole
  have c_taken_off := ok_taken_off (P := P) (w := w) (base := base) D_taken_off U c_divided c_minus c_times
  have c_solved := ok_solved (P := P) (w := w) (base := base) D_solved U c_divided c_taken_off
  have c_sums_of := ok_sums_of (P := P) (w := w) (base := base) D_sums_of U Z c_free_marks c_plus c_minus c_times c_whole
  have c_placed_way := ok_placed_way (P := P) (w := w) (base := base) D_placed_way U Z c_free_marks c_whole c_sums_of c_solved
  have c_adjusted := ok_adjusted (P := P) (w := w) (base := base) D_adjusted U c_placed_way
  have c_l_pull := ok_l_pull (P := P) (w := w) (base := base) D_l_pull U
  have c_l_any := ok_l_any (P := P) (w := w) (base := base) D_l_any U c_l_pull
  have c_l_reading := ok_l_reading (P := P) (w := w) (base := base) D_l_reading U c_l_pull
  have c_l_share := ok_l_share (P := P) (w := w) (base := base) D_l_share U c_l_pull c_l_low
  have c_l_mixed := ok_l_mixed (P := P) (w := w) (base := base) D_l_mixed U c_l_pull
  have c_l_names := ok_l_names (P := P) (w := w) (base := base) D_l_names U c_l_pull c_l_mixed
  have c_l_marks := ok_l_marks (P := P) (w := w) (base := base) D_l_marks U c_l_pull
  have c_l_readings := ok_l_readings (P := P) (w := w) (base := base) D_l_readings U c_l_pull c_l_any c_l_reading
  have c_l_ground := ok_l_ground (P := P) (w := w) (base := base) D_l_ground U c_l_pull c_l_names c_l_marks c_l_readings
  have c_l_survey := ok_l_survey (P := P) (w := w) (base := base) D_l_survey U M c_Survey_init
  have c_l_open := ok_l_open (P := P) (w := w) (base := base) D_l_open U
  have c_l_hung := ok_l_hung (P := P) (w := w) (base := base) D_l_hung U
  have c_l_cost := ok_l_cost (P := P) (w := w) (base := base) D_l_cost U c_l_rests c_l_add c_l_mul
  have c_l_excess := ok_l_excess (P := P) (w := w) (base := base) D_l_excess U c_l_sub c_l_add c_l_mul
  have c_l_balanced := ok_l_balanced (P := P) (w := w) (base := base) D_l_balanced U c_l_hung c_l_rests c_l_mul c_l_add c_l_sub
  have c_l_bent := ok_l_bent (P := P) (w := w) (base := base) D_l_bent U c_l_pull c_l_any c_l_share c_l_add
  have c_l_copy0 := ok_l_copyS (P := P) (w := w) (base := base) D_l_copy U
  have c_l_copy := ok_l_copyP (P := P) (w := w) (base := base) D_l_copy U c_l_copy0
  have c_like_I := ok_like_int (P := P) (w := w) (base := base) D_l_like U
  have c_like_R := ok_like_ratio (P := P) (w := w) (base := base) D_l_like U c_like_I
  have c_like_S := ok_like_spot (P := P) (w := w) (base := base) D_l_like U c_like_R
  have c_like_D := ok_like_rests (P := P) (w := w) (base := base) D_l_like U c_like_S
  have c_like_P := ok_like_placing (P := P) (w := w) (base := base) D_l_like U c_like_S
  have c_l_told_right := ok_l_told_right (P := P) (w := w) (base := base) D_l_told_right U c_l_rests c_rests c_cost c_l_cost c_like_R c_like_D
  exact (ok_law (P := P) (w := w) (base := base) FL U c_l_open c_l_ground c_l_survey c_adjusted c_l_is_spot c_l_balanced c_l_told_right c_l_copy c_balanced c_l_bent c_l_add c_l_cost c_l_excess c_cost c_like_R c_like_P).F
theorem walk {l : PySem.W.OpenLaw} {q : Program} {loose : List Str} {XP : (Str → Option Value) → Heap → Prop} {YP : World → Heap → Prop} {d : DefRec} {K : Params → PySem.W.Frag} (hn : l.most = some 63) (hdf : d.params.defaults = [])
    (hY : ∀ (w : World) (h : Heap), YP w h → (K w.params).In h)
    (F : ∀ (w : World) (mg : Str → Option Value) (fa : Addr) (h : Heap), (K w.params).In h → h.Ns mainGlobals mg → mg d.name = some (.ref fa) →
      ∃ fd : FuncData, (∀ (s : Shared) (u : Value), BindsTo s fd ⟨[u], []⟩ [("_law_script", u)]) ∧ ∀ base : Heap, (K w.params).In base → base.Ns mainGlobals mg → FnOk l.prog w (K w.params) mg base CX0 8 fa fd ["_law_script"] (spLaw (K w.params))) :
    PySem.W.WalkO q loose XP YP l.row.toRowW d [] (fun f vs => PySem.call f vs) :=
  L2.walk_of (n := 63) (k := 8) (x := "_law_script") (CX := fun _ => CX0) (sp := fun w => spLaw (K w.params)) hn (by decide) hdf ⟨rfl, by decide, by decide⟩ hY F (fun _ _ a ns _ _ hS => ⟨a, ns, rfl, hS, fun _ => rfl⟩) fun _ _ _ _ _ z => z
end Gm
open PySem PySem.W PyProof.Rows
set_option maxRecDepth 100000 in
set_option maxHeartbeats 0 in
theorem PySem.Challenge.cw_gromatic_k46_whole_least_cost_is_balance_holds : PySem.Challenge.rw_gromatic_k46_whole_least_cost_is_balance.Holds := by
  w_on; o_law; k_head; (case hw => w_witness2)
  k_fill
  refine Gm.walk (l := PySem.Challenge.rw_gromatic_k46_whole_least_cost_is_balance) rfl rfl (fun w h Y => PySem.W.kIn_of Y) ?F
  case F =>
    intro w mg fa h KX G hmg
    refine' Gm.all_mk KX G hmg ?U ?C ?D_common ?D_ratio ?D_whole ?D_plus ?D_minus ?D_times ?D_divided ?D_total ?D_is_number ?D_need_name ?D_need_number ?D_need_at ?D_need_reading ?D_need_sizes ?D_tied ?D_free_marks ?D_sums_of ?D_taken_off ?D_solved ?D_placed_way ?D_adjusted ?D_rest_of ?D_rests ?D_cost ?D_uncancelled ?D_balanced ?D_l_open ?D_l_pull ?D_l_any ?D_l_num ?D_l_like ?D_l_copy ?D_l_mixed ?D_l_low ?D_l_add ?D_l_sub ?D_l_mul ?D_l_names ?D_l_reading ?D_l_marks ?D_l_readings ?D_l_ground ?D_l_survey ?D_l_hung ?D_l_is_ratio ?D_l_is_spot ?D_l_rest ?D_l_rests ?D_l_cost ?D_l_balanced ?D_l_share ?D_l_excess ?D_l_bent ?D_l_told_right ?D_law
    case U =>
      refine' Gm.ua KX G ?z_abs ?z_len ?z_range ?z_sorted ?z_list ?z_tuple ?z_dict ?z_isinstance ?z_int ?z_bool ?z_str ?z_enumerate ?z_zip ?z_all ?z_any ?aN ?lN ?iN ?aM ?aW ?aL
      (case z_abs => k_is)
      (case z_len => k_is)
      (case z_range => k_is)
      (case z_sorted => k_is)
      (case z_list => k_is)
      (case z_tuple => k_is)
      (case z_dict => k_is)
      (case z_isinstance => k_is)
      (case z_int => k_is)
      (case z_bool => k_is)
      (case z_str => k_is)
      (case z_enumerate => k_is)
      (case z_zip => k_is)
      (case z_all => k_is)
      (case z_any => k_is)
      (case aN => k_is)
      (case lN => k_is)
      (case iN => rfl)
      (case aM => k_is)
      (case aW => k_is)
      (case aL => k_is)
    case C =>
      refine' Gm.ca KX G ?a ?pg ?hd ?po ?sa ?mk ?kp ?n1 ?n2 ?n3 ?n4 (Gm.ma ?a0 ?i0 ?l0 ?c0 ?k0) (Gm.ma ?a1 ?i1 ?l1 ?c1 ?k1) (Gm.ma ?a2 ?i2 ?l2 ?c2 ?k2) (Gm.ma ?a3 ?i3 ?l3 ?c3 ?k3) (Gm.ma ?a4 ?i4 ?l4 ?c4 ?k4)
      (case a => k_is)
      (case pg => k_is)
      (case hd => k_is)
      (case po => k_is)
      (case sa => k_is)
      (case mk => k_is)
      (case kp => k_is)
      (case n1 => k_is)
      (case n2 => k_is)
      (case n3 => k_is)
      (case n4 => k_is)
      (case a0 => k_is)
      (case i0 => k_is)
      (case l0 => k_is)
      (case c0 => k_is)
      (case k0 => k_is)
      (case a1 => k_is)
      (case i1 => k_is)
      (case l1 => k_is)
      (case c1 => k_is)
      (case k1 => k_is)
      (case a2 => k_is)
      (case i2 => k_is)
      (case l2 => k_is)
      (case c2 => k_is)
      (case k2 => k_is)
      (case a3 => k_is)
      (case i3 => k_is)
      (case l3 => k_is)
      (case c3 => k_is)
      (case k3 => k_is)
      (case a4 => k_is)
      (case i4 => k_is)
      (case l4 => k_is)
      (case c4 => k_is)
      (case k4 => k_is)
    case D_common =>
      refine' Gm.da KX G ?a ?l ?c ?k
      (case a => k_is)
      (case l => k_is)
      (case c => k_is)
      (case k => k_is)
    case D_ratio =>
      refine' Gm.da KX G ?a ?l ?c ?k
      (case a => k_is)
      (case l => k_is)
      (case c => k_is)
      (case k => k_is)
    case D_whole =>
      refine' Gm.da KX G ?a ?l ?c ?k
      (case a => k_is)
      (case l => k_is)
      (case c => k_is)
      (case k => k_is)
    case D_plus =>
      refine' Gm.da KX G ?a ?l ?c ?k
      (case a => k_is)
      (case l => k_is)
      (case c => k_is)
      (case k => k_is)
    case D_minus =>
      refine' Gm.da KX G ?a ?l ?c ?k
      (case a => k_is)
      (case l => k_is)
      (case c => k_is)
      (case k => k_is)
    case D_times =>
      refine' Gm.da KX G ?a ?l ?c ?k
      (case a => k_is)
      (case l => k_is)
      (case c => k_is)
      (case k => k_is)
    case D_divided =>
      refine' Gm.da KX G ?a ?l ?c ?k
      (case a => k_is)
      (case l => k_is)
      (case c => k_is)
      (case k => k_is)
    case D_total =>
      refine' Gm.da KX G ?a ?l ?c ?k
      (case a => k_is)
      (case l => k_is)
      (case c => k_is)
      (case k => k_is)
    case D_is_number =>
      refine' Gm.da KX G ?a ?l ?c ?k
      (case a => k_is)
      (case l => k_is)
      (case c => k_is)
      (case k => k_is)
    case D_need_name =>
      refine' Gm.da KX G ?a ?l ?c ?k
      (case a => k_is)
      (case l => k_is)
      (case c => k_is)
      (case k => k_is)
    case D_need_number =>
      refine' Gm.da KX G ?a ?l ?c ?k
      (case a => k_is)
      (case l => k_is)
      (case c => k_is)
      (case k => k_is)
    case D_need_at =>
      refine' Gm.da KX G ?a ?l ?c ?k
      (case a => k_is)
      (case l => k_is)
      (case c => k_is)
      (case k => k_is)
    case D_need_reading =>
      refine' Gm.da KX G ?a ?l ?c ?k
      (case a => k_is)
      (case l => k_is)
      (case c => k_is)
      (case k => k_is)
    case D_need_sizes =>
      refine' Gm.da KX G ?a ?l ?c ?k
      (case a => k_is)
      (case l => k_is)
      (case c => k_is)
      (case k => k_is)
    case D_tied =>
      refine' Gm.da KX G ?a ?l ?c ?k
      (case a => k_is)
      (case l => k_is)
      (case c => k_is)
      (case k => k_is)
    case D_free_marks =>
      refine' Gm.da KX G ?a ?l ?c ?k
      (case a => k_is)
      (case l => k_is)
      (case c => k_is)
      (case k => k_is)
    case D_sums_of =>
      refine' Gm.da KX G ?a ?l ?c ?k
      (case a => k_is)
      (case l => k_is)
      (case c => k_is)
      (case k => k_is)
    case D_taken_off =>
      refine' Gm.da KX G ?a ?l ?c ?k
      (case a => k_is)
      (case l => k_is)
      (case c => k_is)
      (case k => k_is)
    case D_solved =>
      refine' Gm.da KX G ?a ?l ?c ?k
      (case a => k_is)
      (case l => k_is)
      (case c => k_is)
      (case k => k_is)
    case D_placed_way =>
      refine' Gm.da KX G ?a ?l ?c ?k
      (case a => k_is)
      (case l => k_is)
      (case c => k_is)
      (case k => k_is)
    case D_adjusted =>
      refine' Gm.da KX G ?a ?l ?c ?k
      (case a => k_is)
      (case l => k_is)
      (case c => k_is)
      (case k => k_is)
    case D_rest_of =>
      refine' Gm.da KX G ?a ?l ?c ?k
      (case a => k_is)
      (case l => k_is)
      (case c => k_is)
      (case k => k_is)
    case D_rests =>
      refine' Gm.da KX G ?a ?l ?c ?k
      (case a => k_is)
      (case l => k_is)
      (case c => k_is)
      (case k => k_is)
    case D_cost =>
      refine' Gm.da KX G ?a ?l ?c ?k
      (case a => k_is)
      (case l => k_is)
      (case c => k_is)
      (case k => k_is)
    case D_uncancelled =>
      refine' Gm.da KX G ?a ?l ?c ?k
      (case a => k_is)
      (case l => k_is)
      (case c => k_is)
      (case k => k_is)
    case D_balanced =>
      refine' Gm.da KX G ?a ?l ?c ?k
      (case a => k_is)
      (case l => k_is)
      (case c => k_is)
      (case k => k_is)
    case D_l_open =>
      refine' Gm.da KX G ?a ?l ?c ?k
      (case a => k_is)
      (case l => k_is)
      (case c => k_is)
      (case k => k_is)
    case D_l_pull =>
      refine' Gm.da KX G ?a ?l ?c ?k
      (case a => k_is)
      (case l => k_is)
      (case c => k_is)
      (case k => k_is)
    case D_l_any =>
      refine' Gm.da KX G ?a ?l ?c ?k
      (case a => k_is)
      (case l => k_is)
      (case c => k_is)
      (case k => k_is)
    case D_l_num =>
      refine' Gm.da KX G ?a ?l ?c ?k
      (case a => k_is)
      (case l => k_is)
      (case c => k_is)
      (case k => k_is)
    case D_l_like =>
      refine' Gm.da KX G ?a ?l ?c ?k
      (case a => k_is)
      (case l => k_is)
      (case c => k_is)
      (case k => k_is)
    case D_l_copy =>
      refine' Gm.da KX G ?a ?l ?c ?k
      (case a => k_is)
      (case l => k_is)
      (case c => k_is)
      (case k => k_is)
    case D_l_mixed =>
      refine' Gm.da KX G ?a ?l ?c ?k
      (case a => k_is)
      (case l => k_is)
      (case c => k_is)
      (case k => k_is)
    case D_l_low =>
      refine' Gm.da KX G ?a ?l ?c ?k
      (case a => k_is)
      (case l => k_is)
      (case c => k_is)
      (case k => k_is)
    case D_l_add =>
      refine' Gm.da KX G ?a ?l ?c ?k
      (case a => k_is)
      (case l => k_is)
      (case c => k_is)
      (case k => k_is)
    case D_l_sub =>
      refine' Gm.da KX G ?a ?l ?c ?k
      (case a => k_is)
      (case l => k_is)
      (case c => k_is)
      (case k => k_is)
    case D_l_mul =>
      refine' Gm.da KX G ?a ?l ?c ?k
      (case a => k_is)
      (case l => k_is)
      (case c => k_is)
      (case k => k_is)
    case D_l_names =>
      refine' Gm.da KX G ?a ?l ?c ?k
      (case a => k_is)
      (case l => k_is)
      (case c => k_is)
      (case k => k_is)
    case D_l_reading =>
      refine' Gm.da KX G ?a ?l ?c ?k
      (case a => k_is)
      (case l => k_is)
      (case c => k_is)
      (case k => k_is)
    case D_l_marks =>
      refine' Gm.da KX G ?a ?l ?c ?k
      (case a => k_is)
      (case l => k_is)
      (case c => k_is)
      (case k => k_is)
    case D_l_readings =>
      refine' Gm.da KX G ?a ?l ?c ?k
      (case a => k_is)
      (case l => k_is)
      (case c => k_is)
      (case k => k_is)
    case D_l_ground =>
      refine' Gm.da KX G ?a ?l ?c ?k
      (case a => k_is)
      (case l => k_is)
      (case c => k_is)
      (case k => k_is)
    case D_l_survey =>
      refine' Gm.da KX G ?a ?l ?c ?k
      (case a => k_is)
      (case l => k_is)
      (case c => k_is)
      (case k => k_is)
    case D_l_hung =>
      refine' Gm.da KX G ?a ?l ?c ?k
      (case a => k_is)
      (case l => k_is)
      (case c => k_is)
      (case k => k_is)
    case D_l_is_ratio =>
      refine' Gm.da KX G ?a ?l ?c ?k
      (case a => k_is)
      (case l => k_is)
      (case c => k_is)
      (case k => k_is)
    case D_l_is_spot =>
      refine' Gm.da KX G ?a ?l ?c ?k
      (case a => k_is)
      (case l => k_is)
      (case c => k_is)
      (case k => k_is)
    case D_l_rest =>
      refine' Gm.da KX G ?a ?l ?c ?k
      (case a => k_is)
      (case l => k_is)
      (case c => k_is)
      (case k => k_is)
    case D_l_rests =>
      refine' Gm.da KX G ?a ?l ?c ?k
      (case a => k_is)
      (case l => k_is)
      (case c => k_is)
      (case k => k_is)
    case D_l_cost =>
      refine' Gm.da KX G ?a ?l ?c ?k
      (case a => k_is)
      (case l => k_is)
      (case c => k_is)
      (case k => k_is)
    case D_l_balanced =>
      refine' Gm.da KX G ?a ?l ?c ?k
      (case a => k_is)
      (case l => k_is)
      (case c => k_is)
      (case k => k_is)
    case D_l_share =>
      refine' Gm.da KX G ?a ?l ?c ?k
      (case a => k_is)
      (case l => k_is)
      (case c => k_is)
      (case k => k_is)
    case D_l_excess =>
      refine' Gm.da KX G ?a ?l ?c ?k
      (case a => k_is)
      (case l => k_is)
      (case c => k_is)
      (case k => k_is)
    case D_l_bent =>
      refine' Gm.da KX G ?a ?l ?c ?k
      (case a => k_is)
      (case l => k_is)
      (case c => k_is)
      (case k => k_is)
    case D_l_told_right =>
      refine' Gm.da KX G ?a ?l ?c ?k
      (case a => k_is)
      (case l => k_is)
      (case c => k_is)
      (case k => k_is)
    case D_law =>
      refine' Gm.da KX G ?a ?l ?c ?k
      (case a => k_is)
      (case l => k_is)
      (case c => k_is)
      (case k => k_is)
